import PyProof.Rows.All
import Wide.All
import Open.Line
import Open.Boot
import Open.Tree
import OpenK.KCall
import OpenK.AllK
import Wide.FinOn
import Lean
import PySem.Challenge.RW_og0185_01
set_option Elab.async false
set_option maxRecDepth 100000
set_option maxHeartbeats 8000000
set_option linter.unusedVariables false
set_option genSizeOf false
section
open PySem PySem.W PySem.Calls PyProof.Rows
namespace Mine.Hd
section
noncomputable abbrev aw:Program:=PySem.Challenge.pw_og0185_01
noncomputable abbrev o (s:String):Str:=Str.ofString s
noncomputable def aI (i:Nat):Stmt:=(aw.main.body[i]?).getD default
noncomputable def cG (i j:Nat):Stmt:=match aI i with
 |.ClassDef _ _ _ b _ _ _ _ _ _ _=>(b[j]?).getD default
 |s=>s
noncomputable def t6:Stmt->Arguments
 |.FunctionDef _ a _ _ _ _ _ _ _ _=>a
 |_=>default
noncomputable def g0:Stmt->List Stmt
 |.FunctionDef _ _ b _ _ _ _ _ _ _=>b
 |_=>[]
noncomputable def bN:Stmt->Scope
 |.FunctionDef _ _ _ _ _ _ J _ _ _=>J
 |_=>default
noncomputable abbrev S (s:String) (n:Nat):Value:=.str (o s) n
noncomputable abbrev I (k:Int):Value:=.int k 0
noncomputable abbrev R (n:Nat):Value:=.ref n
noncomputable abbrev T (l:List Value):Obj:=⟨.type "tuple",none,.seq ⟨l⟩ 0,#[]⟩
noncomputable abbrev dw (l:List Value):Obj:=⟨.none,none,.fields ⟨l⟩,#[]⟩
noncomputable def i5 (c:Int):List (Int×Nat)->List Value
 |[]=>[]
 |(a,b)::l=>I a::I c::R b::i5 c l
noncomputable abbrev e (s:String) (t:Nat) (v:Value) (P:Params):DictEntry:=⟨PyData.keyHash P (o s),.str (o s) t,v⟩
noncomputable abbrev r (s:String) (t:Nat) (n:Nat) (P:Params):DictEntry:=e s t (R n) P
noncomputable def g3 (P:Params):List (Params->DictEntry)->List DictEntry
 |[]=>[]
 |f::l=>f P::g3 P l
noncomputable abbrev D (P:Params) (l:List (Params->DictEntry)) (n:Nat):Obj:=⟨.type "dict",none,.dict ⟨g3 P l⟩ n,#[]⟩
noncomputable abbrev EU (P:Params) (l:List (Params->DictEntry)) (n:Nat):Obj:=⟨.none,none,.dict ⟨g3 P l⟩ n,#[]⟩
noncomputable def Aj (n:Nat):List String->List Value
 |[]=>[]
 |s::l=>S s n::Aj (n+1) l
noncomputable abbrev gS (n:Nat):Value:=S "/claim/cut.py" n
noncomputable abbrev xM (a t:Nat) (L qO:Int) (n q:String) (b:Bool) (c:Int) (e:Nat) (u v w:Value):Obj:=⟨.type "code",none,.fields ⟨[S n t,S q (t+1),gS (t+2),I L,I qO,I 0,I 0,I c,R a,.bool b,I 181,R (a+1),.none,u,v,w,I e,I L,gS (e+1)]⟩,#[]⟩
noncomputable abbrev K (n:String) (t:Nat) (L:Int) (a:Nat):Obj:=xM a t L 0 n n false 0 (t+3) .none .none .none
noncomputable abbrev jA (a b:Nat) (m:Value):Obj:=⟨.type "frame",none,.plain,#[some (R a),some (R 3),some (R b),none,some m,none,some (R 0)]⟩
noncomputable abbrev av (s:String) (l:List Value):Obj:=⟨.type s,none,.fields ⟨l⟩,#[]⟩
noncomputable abbrev W (n:String) (b m:List Value) (s:Nat) (c:List Value) (l:List (Option Value)):Obj:=⟨.type "type",none,.cls {name:=o n,bases:=b,mro:=m,ns:=s,qualname:=o n,hasDict:=true,slotNames:=[],subclasses:=c,abstract:=false,collection:=none,hasDel:=false},⟨l⟩⟩
noncomputable abbrev G (n q:String) (s:Stmt):Obj:=⟨.none,none,.func {name:=o n,qualname:=o q,params:=t6 s,body:=.stmts (g0 s),scope:=bN s,globals:=0,closure:=[],defaults:=.none,kwdefaults:=.none,doc:=.none,pyModule:=.none,annotations:=none,code:=.none,closureTuple:=.none,builtins:=0},#[]⟩
noncomputable abbrev N (k:Nat) (n q:String) (s:Stmt) (d m:Value):Obj:=⟨.type "function",none,.func (fnOf (o n) (o q) (t6 s) (g0 s) (bN s) d .none .none m none (R k) .none),#[]⟩
noncomputable def F (a t:Nat) (L qO:Int) (n q:String) (ns:List String) (s:Stmt) (d m:Value) (z:List Obj):List Obj:=
 T []::dw []::T (Aj (t+3) ns)::T []::G n q s::xM a t L qO n q true 3 (t+3+ns.length) (R (a+2)) (R (a+3)) (R (a+4))::N (a+5) n q s d m::z
noncomputable def E (a t:Nat) (L qO:Int) (n q:String) (s:Stmt) (d m:Value) (z:List Obj):List Obj:=
 T []::dw []::G n q s::xM a t L qO n q true 3 (t+3) .none .none (R (a+2))::N (a+3) n q s d m::z
noncomputable abbrev Eg:=S "__main__" 164
noncomputable abbrev vn:=S "paperhold.errors" 194
noncomputable abbrev iP:=S "paperhold.decimals" 252
noncomputable abbrev fr:=S "paperhold.objects" 375
noncomputable abbrev eL:=S "paperhold.pagetree" 652
noncomputable abbrev oW:=S "law_og0185_01" 951
noncomputable def hX (P:Params) (a1 b0 Q3:Obj) (z:List Obj):List Obj:=
 boot_o_0 P::
 boot_o_1 P::
 a1::
 b0::
 boot_o_4 P::
 boot_o_5 P::
 boot_o_6 P::
 boot_o_7 P::
 boot_o_8 P::
 boot_o_9 P::
 boot_o_10 P::
 T []::
 Q3::
 K "<module>" 182 1 11::
 jA 13 3 Eg::z
noncomputable def ey (P:Params) (z:List Obj):List Obj:=
 F 15 187 1 1 "_wall" "_wall" ["k"] (aI 0) .none Eg (
 T [.type "Exception"]::
 av "builtin_function_or_method" [.builtin "type.__prepare__",.type "type"]::
 D P [e "__module__" 203 (S "paperhold.errors" 194),e "__qualname__" 205 (S "PaperError" 204),e "__firstlineno__" 207 (.int 5 206),r "__init__" 218 36,r "told" 225 43,r "__static_attributes__" 228 44] 6::
 T []::
 dw (i5 4 [(7,35),(12,42)])::
 K "PaperError" 198 5 25::
 jA 27 24 vn::
 T [.int (-1) 209]::
 F 30 210 7 3 "__init__" "PaperError.__init__" ["self","what","at"] (cG 2 0) (R 29) vn (
 F 37 219 12 1 "told" "PaperError.told" ["self"] (cG 2 1) .none vn (
 T [S "at" 226,S "what" 227]::
 D P [e "__module__" 203 (S "paperhold.errors" 194),e "__firstlineno__" 207 (.int 5 206),r "__init__" 218 36,r "told" 225 43,r "__static_attributes__" 228 44,r "__weakref__" 230 47,e "__doc__" 231 .none] 3::
 W "PaperError" [.type "Exception"] [R 46,.type "Exception",.type "BaseException",.type "object"] 45 [R 59] [some (R 22),none,some (S "PaperError" 196),some (S "PaperError" 204),some (.builtin "Exception.__new__"),some (.bool true)]::
 av "getset_descriptor" [S "__weakref__" 229,R 46,.builtin "ExceptionGroup.__weakref__",.none]::
 av "super" [R 46,R 46,R 46]::
 av "builtin_function_or_method" [.builtin "object.__init_subclass__",R 46]::
 T [R 46]::
 av "builtin_function_or_method" [.builtin "type.__prepare__",.type "type"]::
 D P [e "__module__" 243 (S "paperhold.errors" 194),e "__qualname__" 245 (S "TreeFault" 244),e "__firstlineno__" 247 (.int 14 246),r "__static_attributes__" 248 57] 4::
 T []::
 dw []::
 K "TreeFault" 238 14 53::
 jA 55 52 vn::
 T []::
 D P [e "__module__" 243 (S "paperhold.errors" 194),e "__firstlineno__" 247 (.int 14 246),r "__static_attributes__" 248 57,e "__doc__" 249 .none] 2::
 W "TreeFault" [R 46] [R 59,R 46,.type "Exception",.type "BaseException",.type "object"] 58 [] [some (R 50),none,some (S "TreeFault" 236),some (S "TreeFault" 244),some (.builtin "Exception.__new__"),some (.bool true)]::
 av "super" [R 59,R 59,R 59]::
 av "builtin_function_or_method" [.builtin "object.__init_subclass__",R 59]::
 T []::z)))
noncomputable def eC (P:Params) (z:List Obj):List Obj:=
 av "builtin_function_or_method" [.builtin "type.__prepare__",.type "type"]::
 D P [e "__module__" 261 (S "paperhold.decimals" 252),e "__qualname__" 263 (S "Decimal" 262),e "__firstlineno__" 265 (.int 17 264),r "__init__" 274 75,r "plus" 282 82,r "minus" 290 89,r "times" 298 96,r "negated" 305 103,r "compared" 313 110,r "is_whole" 320 117,r "floor" 327 124,r "rounded" 335 131,r "told" 342 138,r "text" 350 145,r "least_text" 357 152,r "__static_attributes__" 360 153] 16::
 T []::
 dw (i5 4 [(19,74),(26,81),(29,88),(32,95),(35,102),(38,109),(41,116),(44,123),(47,130),(50,137),(53,144),(60,151)])::
 K "Decimal" 256 17 65::
 jA 67 64 iP::
 F 69 266 19 3 "__init__" "Decimal.__init__" ["self","top","places"] (cG 5 0) .none iP (
 F 76 275 26 2 "plus" "Decimal.plus" ["self","other"] (cG 5 1) .none iP (
 F 83 283 29 2 "minus" "Decimal.minus" ["self","other"] (cG 5 2) .none iP (
 F 90 291 32 2 "times" "Decimal.times" ["self","other"] (cG 5 3) .none iP (
 F 97 299 35 1 "negated" "Decimal.negated" ["self"] (cG 5 4) .none iP (
 F 104 306 38 2 "compared" "Decimal.compared" ["self","other"] (cG 5 5) .none iP (z))))))
noncomputable def h7 (P:Params) (z:List Obj):List Obj:=
 F 111 314 41 1 "is_whole" "Decimal.is_whole" ["self"] (cG 5 6) .none iP (
 F 118 321 44 1 "floor" "Decimal.floor" ["self"] (cG 5 7) .none iP (
 F 125 328 47 2 "rounded" "Decimal.rounded" ["self","places"] (cG 5 8) .none iP (
 F 132 336 50 1 "told" "Decimal.told" ["self"] (cG 5 9) .none iP (
 F 139 343 53 1 "text" "Decimal.text" ["self","numerals"] (cG 5 10) .none iP (
 F 146 351 60 1 "least_text" "Decimal.least_text" ["self"] (cG 5 11) .none iP (
 T [S "places" 358,S "top" 359]::
 D P [e "__module__" 261 (S "paperhold.decimals" 252),e "__firstlineno__" 265 (.int 17 264),r "__init__" 274 75,r "plus" 282 82,r "minus" 290 89,r "times" 298 96,r "negated" 305 103,r "compared" 313 110,r "is_whole" 320 117,r "floor" 327 124,r "rounded" 335 131,r "told" 342 138,r "text" 350 145,r "least_text" 357 152,r "__static_attributes__" 360 153,r "__dict__" 362 156,r "__weakref__" 364 157,e "__doc__" 365 .none] 4::
 W "Decimal" [.type "object"] [R 155,.type "object"] 154 [] [none,none,some (S "Decimal" 254),some (S "Decimal" 262),some (.builtin "object.__new__"),some (.bool true)]::
 av "getset_descriptor" [S "__dict__" 361,R 155,.builtin "function.__dict__",.builtin "function.__dict__#set"]::
 av "getset_descriptor" [S "__weakref__" 363,R 155,.builtin "ExceptionGroup.__weakref__",.none]::
 av "super" [R 155,R 155,R 155]::z))))))
noncomputable def m5 (P:Params) (z:List Obj):List Obj:=
 av "builtin_function_or_method" [.builtin "object.__init_subclass__",R 155]::
 F 160 368 62 1 "sign_text" "sign_text" ["number"] (aI 6) .none iP (
 T []::
 av "builtin_function_or_method" [.builtin "type.__prepare__",.type "type"]::
 D P [e "__module__" 386 (S "paperhold.objects" 375),e "__qualname__" 388 (S "Name" 387),e "__firstlineno__" 390 (.int 66 389),r "__init__" 398 180,r "__static_attributes__" 400 181] 5::
 T []::
 dw (i5 4 [(68,179)])::
 K "Name" 381 66 170::
 jA 172 169 fr::
 F 174 391 68 2 "__init__" "Name.__init__" ["self","text"] (cG 9 0) .none fr (
 T [S "text" 399]::
 D P [e "__module__" 386 (S "paperhold.objects" 375),e "__firstlineno__" 390 (.int 66 389),r "__init__" 398 180,r "__static_attributes__" 400 181,r "__dict__" 402 184,r "__weakref__" 404 185,e "__doc__" 405 .none] 4::
 W "Name" [.type "object"] [R 183,.type "object"] 182 [] [none,none,some (S "Name" 379),some (S "Name" 387),some (.builtin "object.__new__"),some (.bool true)]::
 av "getset_descriptor" [S "__dict__" 401,R 183,.builtin "function.__dict__",.builtin "function.__dict__#set"]::
 av "getset_descriptor" [S "__weakref__" 403,R 183,.builtin "ExceptionGroup.__weakref__",.none]::
 av "super" [R 183,R 183,R 183]::
 av "builtin_function_or_method" [.builtin "object.__init_subclass__",R 183]::
 T []::
 av "builtin_function_or_method" [.builtin "type.__prepare__",.type "type"]::
 D P [e "__module__" 415 (S "paperhold.objects" 375),e "__qualname__" 417 (S "String" 416),e "__firstlineno__" 419 (.int 70 418),r "__init__" 428 202,r "__static_attributes__" 431 203] 5::
 T []::
 dw (i5 4 [(72,201)])::
 K "String" 410 70 191::
 jA 193 190 fr::
 T [.bool false]::
 F 196 420 72 3 "__init__" "String.__init__" ["self","octets","is_hex"] (cG 10 0) (R 195) fr (
 T [S "is_hex" 429,S "octets" 430]::
 D P [e "__module__" 415 (S "paperhold.objects" 375),e "__firstlineno__" 419 (.int 70 418),r "__init__" 428 202,r "__static_attributes__" 431 203,r "__dict__" 433 206,r "__weakref__" 435 207,e "__doc__" 436 .none] 4::
 W "String" [.type "object"] [R 205,.type "object"] 204 [] [none,none,some (S "String" 408),some (S "String" 416),some (.builtin "object.__new__"),some (.bool true)]::
 av "getset_descriptor" [S "__dict__" 432,R 205,.builtin "function.__dict__",.builtin "function.__dict__#set"]::z)))
noncomputable def kO (P:Params) (z:List Obj):List Obj:=
 av "getset_descriptor" [S "__weakref__" 434,R 205,.builtin "ExceptionGroup.__weakref__",.none]::
 av "super" [R 205,R 205,R 205]::
 av "builtin_function_or_method" [.builtin "object.__init_subclass__",R 205]::
 T []::
 av "builtin_function_or_method" [.builtin "type.__prepare__",.type "type"]::
 D P [e "__module__" 446 (S "paperhold.objects" 375),e "__qualname__" 448 (S "Stream" 447),e "__firstlineno__" 450 (.int 75 449),r "__init__" 459 223,r "__static_attributes__" 462 224] 5::
 T []::
 dw (i5 4 [(77,222)])::
 K "Stream" 441 75 213::
 jA 215 212 fr::
 F 217 451 77 3 "__init__" "Stream.__init__" ["self","head","octets"] (cG 11 0) .none fr (
 T [S "head" 460,S "octets" 461]::
 D P [e "__module__" 446 (S "paperhold.objects" 375),e "__firstlineno__" 450 (.int 75 449),r "__init__" 459 223,r "__static_attributes__" 462 224,r "__dict__" 464 227,r "__weakref__" 466 228,e "__doc__" 467 .none] 4::
 W "Stream" [.type "object"] [R 226,.type "object"] 225 [] [none,none,some (S "Stream" 439),some (S "Stream" 447),some (.builtin "object.__new__"),some (.bool true)]::
 av "getset_descriptor" [S "__dict__" 463,R 226,.builtin "function.__dict__",.builtin "function.__dict__#set"]::
 av "getset_descriptor" [S "__weakref__" 465,R 226,.builtin "ExceptionGroup.__weakref__",.none]::
 av "super" [R 226,R 226,R 226]::
 av "builtin_function_or_method" [.builtin "object.__init_subclass__",R 226]::
 T []::
 av "builtin_function_or_method" [.builtin "type.__prepare__",.type "type"]::
 D P [e "__module__" 477 (S "paperhold.objects" 375),e "__qualname__" 479 (S "Reference" 478),e "__firstlineno__" 481 (.int 80 480),r "__init__" 490 244,r "pair" 497 251,r "__static_attributes__" 500 252] 6::
 T []::
 dw (i5 4 [(82,243),(86,250)])::
 K "Reference" 472 80 234::
 jA 236 233 fr::
 F 238 482 82 3 "__init__" "Reference.__init__" ["self","number","generation"] (cG 12 0) .none fr (
 F 245 491 86 1 "pair" "Reference.pair" ["self"] (cG 12 1) .none fr (
 T [S "generation" 498,S "number" 499]::
 D P [e "__module__" 477 (S "paperhold.objects" 375),e "__firstlineno__" 481 (.int 80 480),r "__init__" 490 244,r "pair" 497 251,r "__static_attributes__" 500 252,r "__dict__" 502 255,r "__weakref__" 504 256,e "__doc__" 505 .none] 4::
 W "Reference" [.type "object"] [R 254,.type "object"] 253 [] [none,none,some (S "Reference" 470),some (S "Reference" 478),some (.builtin "object.__new__"),some (.bool true)]::z)))
noncomputable def nF (P:Params) (z:List Obj):List Obj:=
 av "getset_descriptor" [S "__dict__" 501,R 254,.builtin "function.__dict__",.builtin "function.__dict__#set"]::
 av "getset_descriptor" [S "__weakref__" 503,R 254,.builtin "ExceptionGroup.__weakref__",.none]::
 av "super" [R 254,R 254,R 254]::
 av "builtin_function_or_method" [.builtin "object.__init_subclass__",R 254]::
 F 259 508 88 1 "kind_of" "kind_of" ["value"] (aI 13) .none fr (
 F 266 515 110 2 "told_plain" "told_plain" ["kind","value"] (aI 14) .none fr (
 E 273 523 124 1 "told" "told" (aI 15) .none fr (
 E 278 530 134 1 "copied" "copied" (aI 17) .none fr (
 T []::
 av "builtin_function_or_method" [.builtin "type.__prepare__",.type "type"]::
 D P [e "__module__" 543 (S "paperhold.objects" 375),e "__qualname__" 545 (S "Lookup" 544),e "__firstlineno__" 547 (.int 143 546),r "__init__" 556 297,r "fetch" 568 304,r "get" 577 311,r "__static_attributes__" 580 312] 7::
 T []::
 dw (i5 4 [(145,296),(149,303),(160,310)])::
 K "Lookup" 538 143 286::
 jA 288 285 fr::
 T [.none,.none]::
 F 291 548 145 3 "__init__" "Lookup.__init__" ["self","table","trailer"] (cG 18 0) (R 290) fr (
 F 298 557 149 2 "fetch" "Lookup.fetch" ["self","value","here","hop","generation","found"] (cG 18 1) .none fr (z))))))
noncomputable def p3 (P:Params) (Nu:Obj) (z:List Obj):List Obj:=
 F 305 569 160 3 "get" "Lookup.get" ["self","head","key"] (cG 18 2) .none fr (
 T [S "table" 578,S "trailer" 579]::
 D P [e "__module__" 543 (S "paperhold.objects" 375),e "__firstlineno__" 547 (.int 143 546),r "__init__" 556 297,r "fetch" 568 304,r "get" 577 311,r "__static_attributes__" 580 312,r "__dict__" 582 315,r "__weakref__" 584 316,e "__doc__" 585 .none] 4::
 Nu::
 av "getset_descriptor" [S "__dict__" 581,R 314,.builtin "function.__dict__",.builtin "function.__dict__#set"]::
 av "getset_descriptor" [S "__weakref__" 583,R 314,.builtin "ExceptionGroup.__weakref__",.none]::
 av "super" [R 314,R 314,R 314]::
 av "builtin_function_or_method" [.builtin "object.__init_subclass__",R 314]::z)
noncomputable def Uy (P:Params) (z:List Obj):List Obj:=
 T [R 314]::
 av "builtin_function_or_method" [.builtin "type.__prepare__",.type "type"]::
 D P [e "__module__" 595 (S "paperhold.objects" 375),e "__qualname__" 597 (S "Shelf" 596),e "__firstlineno__" 599 (.int 162 598),r "put" 609 332,r "add" 618 339,r "drop" 626 346,r "numbers" 633 353,r "root" 641 360,r "told" 647 365,r "__static_attributes__" 648 366] 10::
 T []::
 dw (i5 4 [(164,331),(167,338),(174,345),(177,352),(180,359),(184,364)])::
 K "Shelf" 590 162 322::
 jA 324 321 fr::
 F 326 600 164 4 "put" "Shelf.put" ["self","number","generation","value"] (cG 19 0) .none fr (
 F 333 610 167 2 "add" "Shelf.add" ["self","value","number"] (cG 19 1) .none fr (
 F 340 619 174 2 "drop" "Shelf.drop" ["self","number"] (cG 19 2) .none fr (
 F 347 627 177 1 "numbers" "Shelf.numbers" ["self"] (cG 19 3) .none fr (
 F 354 634 180 1 "root" "Shelf.root" ["self","found"] (cG 19 4) .none fr (
 E 361 642 184 1 "told" "Shelf.told" (cG 19 5) .none fr (
 T []::z))))))
noncomputable def LA (P:Params) (z:List Obj):List Obj:=
 D P [e "__module__" 595 (S "paperhold.objects" 375),e "__firstlineno__" 599 (.int 162 598),r "put" 609 332,r "add" 618 339,r "drop" 626 346,r "numbers" 633 353,r "root" 641 360,r "told" 647 365,r "__static_attributes__" 648 366,e "__doc__" 649 .none] 2::
 W "Shelf" [R 314] [R 368,R 314,.type "object"] 367 [] [some (R 319),none,some (S "Shelf" 588),some (S "Shelf" 596),some (.builtin "object.__new__"),some (.bool true)]::
 av "super" [R 368,R 368,R 368]::
 av "builtin_function_or_method" [.builtin "object.__init_subclass__",R 368]::
 T [S "Resources" 654,S "MediaBox" 655,S "CropBox" 656,S "Rotate" 657]::
 T []::
 av "builtin_function_or_method" [.builtin "type.__prepare__",.type "type"]::
 D P [e "__module__" 666 (S "paperhold.pagetree" 652),e "__qualname__" 668 (S "Page" 667),e "__firstlineno__" 670 (.int 189 669),r "__init__" 679 385,r "__static_attributes__" 682 386] 5::
 T []::
 dw (i5 4 [(191,384)])::
 K "Page" 661 189 375::
 jA 377 374 eL::
 F 379 671 191 3 "__init__" "Page.__init__" ["self","reference","fields"] (cG 22 0) .none eL (
 T [S "fields" 680,S "reference" 681]::
 D P [e "__module__" 666 (S "paperhold.pagetree" 652),e "__firstlineno__" 670 (.int 189 669),r "__init__" 679 385,r "__static_attributes__" 682 386,r "__dict__" 684 389,r "__weakref__" 686 390,e "__doc__" 687 .none] 4::
 W "Page" [.type "object"] [R 388,.type "object"] 387 [] [none,none,some (S "Page" 659),some (S "Page" 667),some (.builtin "object.__new__"),some (.bool true)]::
 av "getset_descriptor" [S "__dict__" 683,R 388,.builtin "function.__dict__",.builtin "function.__dict__#set"]::
 av "getset_descriptor" [S "__weakref__" 685,R 388,.builtin "ExceptionGroup.__weakref__",.none]::
 av "super" [R 388,R 388,R 388]::
 av "builtin_function_or_method" [.builtin "object.__init_subclass__",R 388]::
 T []::
 av "builtin_function_or_method" [.builtin "type.__prepare__",.type "type"]::
 D P [e "__module__" 697 (S "paperhold.pagetree" 652),e "__qualname__" 699 (S "Spot" 698),e "__firstlineno__" 701 (.int 194 700),r "__init__" 713 406,r "__static_attributes__" 719 407] 5::
 T []::
 dw (i5 4 [(196,405)])::
 K "Spot" 692 194 396::
 jA 398 395 eL::
 F 400 702 196 6 "__init__" "Spot.__init__" ["self","reference","head","above","inherited","is_page"] (cG 23 0) .none eL (
 T [S "above" 714,S "head" 715,S "inherited" 716,S "is_page" 717,S "reference" 718]::
 D P [e "__module__" 697 (S "paperhold.pagetree" 652),e "__firstlineno__" 701 (.int 194 700),r "__init__" 713 406,r "__static_attributes__" 719 407,r "__dict__" 721 410,r "__weakref__" 723 411,e "__doc__" 724 .none] 4::
 W "Spot" [.type "object"] [R 409,.type "object"] 408 [] [none,none,some (S "Spot" 690),some (S "Spot" 698),some (.builtin "object.__new__"),some (.bool true)]::
 av "getset_descriptor" [S "__dict__" 720,R 409,.builtin "function.__dict__",.builtin "function.__dict__#set"]::
 av "getset_descriptor" [S "__weakref__" 722,R 409,.builtin "ExceptionGroup.__weakref__",.none]::
 av "super" [R 409,R 409,R 409]::
 av "builtin_function_or_method" [.builtin "object.__init_subclass__",R 409]::
 F 414 727 202 2 "turned" "turned" ["head","changes","found","key"] (aI 24) .none eL (z)))
noncomputable def H6 (P:Params) (z:List Obj):List Obj:=
 F 421 737 210 2 "home_of" "home_of" ["shelf","value","here","seen","generation","found"] (aI 25) .none eL (
 F 428 749 222 2 "is_node" "is_node" ["shelf","head","kind"] (aI 26) .none eL (
 F 435 758 227 2 "kids_of" "kids_of" ["shelf","head","kids"] (aI 27) .none eL (
 F 442 767 232 4 "met" "met" ["shelf","value","above","inherited","reference","head","given","key"] (aI 28) .none eL (
 F 449 781 242 1 "spots" "spots" ["shelf","found","seen","line","value","above","inherited","spot","kid"] (aI 29) .none eL (
 F 456 796 257 2 "fields_of" "fields_of" ["shelf","spot","found","key"] (aI 30) .none eL (
 E 463 806 263 1 "page_spots" "page_spots" (aI 31) .none eL (
 E 468 812 265 1 "pages" "pages" (aI 32) .none eL (z))))))))
noncomputable def NA (P:Params) (z:List Obj):List Obj:=
 F 473 818 267 1 "page_count" "page_count" ["shelf","count"] (aI 33) .none eL (
 F 480 826 272 1 "is_count" "is_count" ["value"] (aI 34) .none eL (
 F 487 833 274 2 "page_at" "page_at" ["shelf","at","spot","left"] (aI 35) .none eL (
 F 494 843 284 3 "kid_with" "kid_with" ["shelf","spot","left","kid","below","count"] (aI 36) .none eL (
 F 501 855 294 1 "counts_of" "counts_of" ["found","counts","spot","node"] (aI 37) .none eL (
 F 508 865 303 1 "is_parent" "is_parent" ["spot","parent"] (aI 38) .none eL (
 F 515 873 308 1 "page_faults" "page_faults" ["shelf","found","counts","faults","spot","number"] (aI 39) .none eL (z)))))))
noncomputable def Lv (P:Params) (z:List Obj):List Obj:=
 F 522 885 321 1 "settle" "settle" ["shelf","found","counts","spot","changes"] (aI 40) .none eL (
 F 529 896 332 3 "lay" "lay" ["shelf","reference","head"] (aI 41) .none eL (
 E 536 905 334 2 "grouped" "grouped" (aI 42) .none eL (
 E 541 911 337 3 "build_pages" "build_pages" (aI 43) .none eL (
 E 546 917 352 2 "place_of" "place_of" (aI 44) .none eL (
 E 551 923 362 3 "kid_index" "kid_index" (aI 45) .none eL (
 F 556 929 364 3 "put_reference" "put_reference" ["shelf","at","reference","node","spot","kids"] (aI 46) .none eL (
 F 563 941 369 3 "insert_page" "insert_page" ["shelf","at","page_dict","reference"] (aI 47) .none eL (z))))))))
noncomputable def O9 (P:Params) (z:List Obj):List Obj:=
 E 570 953 375 1 "_law_pen" "_law_pen" (aI 49) .none oW (
 F 575 959 377 2 "_law_draw" "_law_draw" ["pen","many","digit","spot","cell","great","stirred"] (aI 50) .none oW (
 F 582 972 394 2 "_law_pick" "_law_pick" ["pen","some"] (aI 51) .none oW (
 F 589 980 396 2 "_law_page" "_law_page" ["pen","at","head"] (aI 52) .none oW (
 E 596 989 401 1 "_law_seen" "_law_seen" (aI 53) .none oW (
 F 601 995 406 2 "_law_refused" "_law_refused" ["shelf","at","before"] (aI 54) .none oW (
 E 608 1004 413 1 "law" "law" (aI 55) .none oW (z)))))))
noncomputable def vh (P:Params):List Obj:=hX P (boot_o_2 P) (boot_o_3 P) (dw []) []
noncomputable def FA (P:Params):List Obj:=hX P (EU P [e "type.__subclasses__.Exception.0" 232 (I 46),e "type.__subclasses__.Exception.n" 233 (I 1)] 2) (D P [e "__name__" 165 (S "paperhold.objects" 375),e "__doc__" 166 .none,e "__package__" 167 .none,e "__loader__" 168 (.builtin "__main__.__loader__#opaque"),e "__spec__" 169 .none,r "__annotations__" 170 6,r "__builtins__" 171 4,e "__file__" 173 (S "/claim/cut.py" 172),e "__cached__" 174 .none,r "_wall" 193 21,r "PaperError" 235 46,r "TreeFault" 251 59,r "Decimal" 367 155,r "sign_text" 374 166,e "MOST_HOPS" 378 (.int 30 377),r "Name" 407 183,r "String" 438 205,r "Stream" 469 226,r "Reference" 507 254,r "kind_of" 514 265,r "told_plain" 522 272,r "told" 528 277,r "told_objects" 529 277,r "copied" 535 282,r "Lookup" 587 314] 25) (dw (i5 0 [(1,20),(5,27),(14,55),(17,67),(62,165),(66,172),(70,193),(75,215),(80,236),(88,264),(110,271),(124,276),(134,281),(143,288)])) (ey P (eC P (h7 P (m5 P (kO P (nF P (p3 P (W "Lookup" [.type "object"] [R 314,.type "object"] 313 [] [none,none,some (S "Lookup" 536),some (S "Lookup" 544),some (.builtin "object.__new__"),some (.bool true)]) [])))))))
noncomputable def og (P:Params):List Obj:=hX P (EU P [e "type.__subclasses__.Exception.0" 232 (I 46),e "type.__subclasses__.Exception.n" 233 (I 1)] 2) (D P [e "__name__" 165 (S "law_og0185_01" 951),e "__doc__" 166 .none,e "__package__" 167 .none,e "__loader__" 168 (.builtin "__main__.__loader__#opaque"),e "__spec__" 169 .none,r "__annotations__" 170 6,r "__builtins__" 171 4,e "__file__" 173 (S "/claim/cut.py" 172),e "__cached__" 174 .none,r "_wall" 193 21,r "PaperError" 235 46,r "TreeFault" 251 59,r "Decimal" 367 155,r "sign_text" 374 166,e "MOST_HOPS" 378 (.int 30 377),r "Name" 407 183,r "String" 438 205,r "Stream" 469 226,r "Reference" 507 254,r "kind_of" 514 265,r "told_plain" 522 272,r "told" 528 277,r "told_objects" 529 277,r "copied" 535 282,r "Lookup" 587 314,r "Shelf" 651 368,r "INHERITED" 658 371,r "Page" 689 388,r "Spot" 726 409,r "turned" 736 420,r "home_of" 748 427,r "is_node" 757 434,r "kids_of" 766 441,r "met" 780 448,r "spots" 795 455,r "fields_of" 805 462,r "page_spots" 811 467,r "pages" 817 472,r "page_count" 825 479,r "is_count" 832 486,r "page_at" 842 493,r "kid_with" 854 500,r "counts_of" 864 507,r "is_parent" 872 514,r "page_faults" 884 521,r "settle" 895 528,r "lay" 904 535,r "grouped" 910 540,r "build_pages" 916 545,r "place_of" 922 550,r "kid_index" 928 555,r "put_reference" 940 562,r "insert_page" 950 569,r "_law_pen" 958 574,r "_law_draw" 971 581,r "_law_pick" 979 588,r "_law_page" 988 595,r "_law_seen" 994 600,r "_law_refused" 1003 607,r "law" 1009 612] 60) (dw (i5 0 [(1,20),(5,27),(14,55),(17,67),(62,165),(66,172),(70,193),(75,215),(80,236),(88,264),(110,271),(124,276),(134,281),(143,288),(162,324),(189,377),(194,398),(202,419),(210,426),(222,433),(227,440),(232,447),(242,454),(257,461),(263,466),(265,471),(267,478),(272,485),(274,492),(284,499),(294,506),(303,513),(308,520),(321,527),(332,534),(334,539),(337,544),(352,549),(362,554),(364,561),(369,568),(375,573),(377,580),(394,587),(396,594),(401,599),(406,606),(413,611)])) (ey P (eC P (h7 P (m5 P (kO P (nF P (p3 P (W "Lookup" [.type "object"] [R 314,.type "object"] 313 [R 368] [none,none,some (S "Lookup" 536),some (S "Lookup" 544),some (.builtin "object.__new__"),some (.bool true)]) (Uy P (LA P (H6 P (NA P (Lv P (O9 P [])))))))))))))
noncomputable def VN (l:List Obj):BT:=(l.foldl (fun(p:BT×Nat) o=>(p.1.ins p.2 o,p.2+1)) (.nil,0)).1
noncomputable def B7:Life:={}
noncomputable def vc:Env:={scope:=aw.main.scope,locals:=mainNs,globals:=mainNs,cells:=[],code:=.ref 13,frame:=some 14}
noncomputable def l2:Code:=.body aw.main.body vc
noncomputable def ie:List Stmt:=aw.main.body.take 19
noncomputable def jv:List Stmt:=aw.main.body.drop 19
theorem Qb:aw.main.body=ie++(jv++[]):=by kernel_rfl
noncomputable abbrev np (l:Params->List Obj) (n tk:Nat) (w:World) (os:OsState):SharedT:=⟨VN (l w.params),n,B7,#[],boot_drawn,tk,os⟩
noncomputable abbrev fe (w:World) (os:OsState):Shared:=⟨boot_heap w.params,Array.mk [],boot_drawn,boot_toks,os⟩
noncomputable def f1 (P:Params):Heap:=⟨⟨og P⟩,B7⟩
noncomputable abbrev fR (w:World) (os:OsState):Shared:=⟨f1 w.params,#[],boot_drawn,1010,os⟩
noncomputable abbrev ly:Pos:=⟨0,0,0,0⟩
noncomputable abbrev oz:Nat:=11
noncomputable abbrev nD:Option Value:=some (.ref 6)
theorem SV (w:World) (os:OsState):topGo treeTable aw w oz nD 12 (fe w os) (topStub aw)=some ((np vh 15 187 w os).abs,⟨denote treeTable l2,l2,ly,[topFrame ly]⟩):=by kernel_rfl
theorem P8 (w:World) (os:OsState):segRun treeTable aw w oz nD 1 1 (np vh 15 187 w os).abs (blockOf aw.main.body vc l2 ly [topFrame ly])=some (.next,(np vh 15 187 w os).abs,l2,ly):=by kernel_rfl
theorem VZ (w:World) (os:OsState):segRunT treeTable aw w oz nD 1 2488 (np vh 15 187 w os) (piecesOf ie vc l2 ly [topFrame ly])=some (.next,np FA 319 588 w os,l2,⟨143,0,161,40⟩):=by kernel_rfl
theorem Wz (w:World) (os:OsState):segRunT treeTable aw w oz nD 1 1834 (np FA 319 588 w os) (piecesOf jv vc l2 ⟨143,0,161,40⟩ [topFrame ly])=some (.next,np og 613 1010 w os,l2,⟨413,0,432,114⟩):=by kernel_rfl
theorem SA (w:World) (os:OsState):topRun treeTable aw w oz nD 2 (np og 613 1010 w os).abs ⟨doneF .next,l2,⟨413,0,432,114⟩,[topFrame ly]⟩=some (fR w os):=by kernel_rfl
theorem U3 (w:World) (os:OsState):topRun treeTable aw w oz nD (12+(1+(2488+(1834+2)))) (fe w os) (topStub aw)=some (fR w os):=by
 refine go_top (SV w os) (piece_block (P8 w os) ?_)
 have h:=piece_app (rest:=jv++[]) (segRun_of (VZ w os)) (piece_app (rest:=[]) (segRun_of (Wz w os)) (piece_nil (SA w os)))
 rw [<-Qb] at h
 exact h
noncomputable def q:Program:=view aw [0,2,3,5,6,8,9,10,11,12,13,14,15,16,17,18,19,21,22,23,24,25,26,27,28,29,30,31,32,33,34,35,36,37,38,39,40,41,42,43,44,45,46,47,49,50,51,52,53,54,55]
noncomputable def loose:List Str:=[o "PaperError",o "told_objects"]
noncomputable abbrev Xt:Shared->Bool:=fun s=>xlAt q [] s&&recOk [] s
noncomputable def mm:Hook:=⟨Heap,fun s=>s.heap,fun w=>f1 w.params,fun w h=>∀a x,(f1 w.params).get? a=some x->h.get? a=some x,fun _ _ e a x k=>by rw [e];exact k,fun _ _ _ s k a x e=>k _ _ (s a x e)⟩
theorem YB:importedModules aw.main.body=[]:=by kernel_rfl
theorem Mw:∀s,fenceModules? aw s=some s:=fun s=>by kernel_rfl
theorem XJ:∀w:World,(fencedOpening treeTable aw w 8766).map (fun s=>(s.heap,s.gens,s.drawn,s.toks))=some (boot_heap w.params,Array.mk [],boot_drawn,boot_toks):=
 boot_open (by kernel_rfl) (by decide+kernel) Mw
theorem K9:∀w:World,((boot_heap w.params).isNs mainGlobals&&(Array.mk []:Array GenState).size==0,(boot_heap w.params).objs.size,(boot_heap w.params).nsMap mainGlobals "__annotations__")=(true,oz,nD):=fun w=>by kernel_rfl
theorem Ru (w:World) (os:OsState):(staticsOk (importedModules aw.main.body) (boot_heap w.params) (f1 w.params)&&namesBound aw (f1 w.params)&&gensDone (fR w os)&&laidKept (boot_heap w.params) (f1 w.params))=true:=by kernel_rfl
theorem mA {α:Type u} {d7:Type v} {a Cv:α} {b iu:d7} (x:a=Cv) (y:b=iu):(a,b)=(Cv,iu):=by rw [x,y]
theorem MT (w:World) (os:OsState):seen ((recsOf q).map (·.name)) (ownsOf q) [] {fR w os with gens:= #[]}=expectedOf q:=by kernel_rfl
theorem S5 (w:World) (os:OsState):(fR w os).heap.bltView=bltViewBooted:=by kernel_rfl
theorem Ud (w:World) (os:OsState):((fR w os).heap.keysOk (looseW q loose) ((recsOf q).map (·.name)) ((litsOf q).map (·.1)) ((clssOf q (looseW q loose)).map (·.name))&&(fR w os).heap.accountedOkI (importedModules aw.main.body)&&(fR w os).heap.isNs mainGlobals&&(fR w os).heap.isNs builtinsNs&&tablesOk q (fR w os).heap&&Xt (fR w os)&&(if true then(fR w os).gens.size==0 else !leftWithCleanup (fR w os).gens))=true:=by kernel_rfl
theorem S2 (w:World) (os:OsState):tabsOk q (fR w os)=true:=by kernel_rfl
theorem XY (w:World) (os:OsState):pinSeenD q (drecsOf q) (fR w os)=pinGoodD (drecsOf q):=by kernel_rfl
theorem QL (w:World) (os:OsState):plainSeenE q (looseW q loose) (fR w os)=plainGoodE q (looseW q loose):=by kernel_rfl
theorem OS (w:World) (os:OsState):plainSeenD q loose (fR w os)=plainGoodD q loose:=by kernel_rfl
theorem Qx (w:World) (os:OsState):wideSeen q (fR w os)=wideGood q:=by kernel_rfl
theorem Wn (w:World) (os:OsState):clsSeenW q loose (fR w os)=clsGoodW q loose:=by kernel_rfl
theorem VL (w:World) (os:OsState):openSeen q loose (importedModules aw.main.body) Xt true (fR w os)=openGood q loose:=mA (MT w os) (mA (S5 w os) (mA (Ud w os) (mA (S2 w os) (mA (XY w os) (mA (QL w os) (mA (OS w os) (mA (Qx w os) (Wn w os))))))))
theorem left:LeftO aw q loose Xt mm.obs mm.val 8766:=
 LeftO.of_pieces XJ K9 U3 (by decide+kernel) fun w=>funext fun os=>Prod.ext (Ru w os) (Prod.ext (VL w os) rfl)
end
end Mine.Hd
end
section
namespace Mine
theorem Rg {a b:Nat}:a+1<=b->a<=b:=by grind
theorem gp {a b:Nat}:b+1<=a->a-b=a-(b+1)+1:=by grind
theorem gE {a:Nat}:¬63<(a:Int)->a<=63:=by omega
theorem km {a:Nat}:0<= -1+((a+1:Nat):Int):=by grind
theorem nT {a:Nat}:(-1+((a+1:Nat):Int)).toNat=a:=by grind
theorem mJ {a:Nat}:a<1000->a<=1048576:=by grind
theorem Az {a b c:Nat}:c+(b+1)<1000->a<=c+1->a+b<1000:=by lia
theorem xV {a b:Nat}:a+(b+1)<1000->a<1000:=by grind
theorem WJ {a b c d:Nat}:d<=b+1->a<=d+c->a<=b+(c+1):=by grind
theorem LD {a b:Nat}:b+1<900->a<=0+1->a+b<1000:=by grind
theorem OY {a b:Nat}:b+1<900->a<=0+(b+1)->a<1000:=by grind
theorem OK {a:Nat}:a+1<500->a<900:=by lia
theorem Pn {a:Nat}:a<=1->a<=1048576:=by lia
theorem LW {a b:Nat}:b+1<=2->a<500->a+(b+1)<900:=by grind
theorem u6 {a:Nat}:a<=a+1:=by grind
theorem Oi {a b c:Nat}:a+(c+1)<=b->a<=b:=by grind
theorem Vd {a b c d:Nat}:d+(b+1)<=c->a<=d+1->a+b<=c:=by grind
theorem j5 {a:Nat}:a<900->a<=1048576:=by grind
theorem zx {a:Nat}:a<400->a<=1048576:=by lia
theorem Pw {a b:Nat}:b<400->a<=b->a<=1048576:=by grind
theorem XD {a:Int}{b:Nat}:a<0\/(b:Int)<a->0<=a->¬a<=(b:Int):=by lia
theorem V9 {a b c:Nat}:c<b->(c:Int)+1=(a:Int)->1<=a/\a<=b:=by omega
theorem Yl {a b:Nat}:1<=a->a<=b->a-1<b:=by omega
theorem Mv {a:Nat}:1<=a->((a-1:Nat):Int)+1=(a:Int):=by lia
theorem CC {a:Nat}:1<=a+1/\a+1<=a->False:=by grind
theorem PQ {a b:Nat}:a+0=b+1->a=b+1:=by omega
theorem Mh {a b c:Nat}:a+(b+1)=c+1->a+1+b=c+1:=by grind
theorem X1 {a:Nat}:1<=a+1:=by grind
theorem Ra {a b:Nat}:a+1<b+1->a<b:=by grind
theorem SF {a b c:Nat}:a+(c+1)=b+1->a<=b:=by grind
theorem Rx {a:Nat}:1+a=a+1:=by grind
theorem Pp:(1:Nat)<=(1:Nat):=by decide
theorem DE {a:Nat}:a<1000->a<1000000:=by grind
theorem IG {a:Nat}:a<=1048576->a<2^62:=by lia
theorem Lr {a b:Nat}:b<2^62->a<b->a<2^62:=by lia
theorem D3 {a:Nat}:¬(a:Int)<0:=by omega
theorem Wa {a:Nat}:a<800->a+(0+1)<900:=by grind
theorem NL {a b:Nat}:b<900->Min.min a b+(0+1)<=1048576:=by grind
theorem HL {a b:Nat}:b<900->Min.min a b+(0+1)+(b-a)<=1048576:=by grind
theorem XZ {a:Nat}:a<800->a+(0+1+1)<900:=by lia
theorem X4 {a b:Nat}:a<=b+1->a+1<=b+1+1:=by lia
theorem Jx {a:Nat}:a<=0+1->a<=1048576:=by grind
theorem QX {a b:Nat}:b<=0+1->a<=b+1->a<=1048576:=by lia
theorem Qy {a b c:Nat}:b<=0+1->c<=b+1->a<=c+1->a<=1048576:=by lia
theorem uV {a:Nat}:a<1000->a<=1048575:=by grind
theorem Ji {a b:Nat}:a+(b+1)<1000->a+1+b<1000:=by lia
theorem K5 {a b:Nat}:a+b<999->a+b<1000:=by lia
theorem V2 {a b:Nat}:a+b<999->a<=1048575:=by grind
theorem G5 {a b:Nat}:a<=a+b:=by grind
theorem Xa {a b c:Nat}:a<=c->a<=b+c:=by grind
theorem Ou {a b c:Nat}:a<=c->1<=b->a+1<=b+c:=by grind
theorem FQ {a b:Nat}:b<a->a=a-1+1:=by grind
theorem OV {a b c d e f g:Nat}:b+c<900->d=c->d=e+f->g<=f->a=g->a<=1048575:=by grind
theorem sG {a b:Nat}:a+b<900->a<1000:=by grind
theorem K1 {a b c d e f g:Nat}:b+c<900->d=c->d=e+f->g<=f->a=g->a<1000:=by omega
theorem WS {a b c d:Nat}:c=b->c=d+a->1<=d->a<b:=by grind
theorem NU {a b c d e:Nat}:a+c<900->d=c->d=e+b->1<=e->a+1+b<900:=by grind
theorem M7 {a b c d e f:Nat}:c+d<900->e=d->e=f+b->a<=c+1->1<=f->a+b<900:=by lia
theorem S0 {a b c d e:Nat}:c<b+1->d=c->d=e+a->1<=e->a<b:=by grind
theorem H3 {a b c d e f g h i:Nat}:c+d<900->e=d->e=f+g->h<=g->a=h->b<=i->f=i+1->a+b<999:=by grind
theorem Um {a b c d:Nat}:a+c<900->c=d+1->b<=d->a+(0+1)+b<900:=by grind
theorem Nj {a b c d e:Nat}:d=c->d=e+b->e=a+1->a+b<c:=by grind
theorem JT {a b c d e f:Nat}:a+d<900->e=d->e=f+c->f=b+1->a+(0+1)+(b+c)<900:=by lia
theorem Hs {a b c d e f g:Nat}:d+e<900->f=e->f=g+c->a<=d+1->g=b+1->a+(b+c)<900:=by grind
theorem X3 {a b c d e f:Nat}:d<c+1->e=d->e=f+b->f=a+1->a+b<c:=by grind
theorem Tp {a b:Nat}:b<900->b=a+1->a<900:=by lia
theorem HR {a:Nat}:a<900->1+a<1000:=by lia
theorem RK {a b:Nat}:b+1<400->a<=b->a<900:=by grind
theorem QT {a b:Nat}:b+1<400->a<=b->0+1+a<900:=by lia
theorem Xq {a:Nat}:a+1<400->0+a<900:=by grind
theorem L1 {a:Nat}:a+1<400->0+1+a<900:=by grind
theorem Ui {a:Nat}:a+1<400->a<999999:=by lia
theorem P4 {a b:Nat}:a<=b->a+1<=b+1:=by grind
theorem KY {a b:Nat}:a<=b->a<=b+1:=by grind
theorem W6 {a b:Nat}:a+(b+1)<1000->a<=1048576:=by grind
theorem SL {a b:Nat}:a+b<900->a<=1048576:=by lia
theorem LX {a b c:Nat}:c+(b+1)<900->a<=c+1->a+b<1000:=by grind
theorem Cm {a b:Nat}:a+(b+1)<900->a<=1048576:=by grind
theorem TB {a b:Nat}:a<b->a<b:=by omega
theorem SD {a b c:Nat}:a<b->a<b+c:=by grind
theorem Tq {a b c:Nat}:a<c->a<b+c:=by grind
theorem NG {a:Nat}:a<900->a<=1048575:=by grind
theorem Ql {a:Nat}:a<1000->a<2^64:=by lia
theorem Om {a:Nat}:0<a->a<1000->¬a=0/\a<1073741824:=by lia
theorem Nt {a:Nat}:a<1000000->(a:Int)<=1048576:=by lia
theorem TN {a b:Nat}:0<b->a<=b+a-1:=by omega
theorem A7 {a:Nat}:2<=a->0<a:=by grind
theorem KJ {a b:Nat}:a<900->b<100->a+b-1<1000:=by omega
theorem LG {a b:Nat}:2<=b->(a:Int)+(b:Int)-1=((a+b-1:Nat):Int):=by grind
theorem UD {a:Nat}:a<100->a<1000:=by grind
theorem BW {a b:Nat}:a<b->a<=b:=by lia
theorem yx {a b:Nat}:a<b->a+1<=b:=by grind
theorem Pk {a b:Nat}:b<1000->a<b->a<1000:=by omega
theorem MS {a b:Nat}:b<1000->a<b->a+1<1000:=by lia
theorem Du {a b:Nat}:a+(b+1)<900->a+1+b<900:=by omega
theorem Mp {a b:Nat}:a+(b+1)<900->a<900:=by omega
theorem te {a b:Nat}:a+1+b=a+(b+1):=by grind
theorem Lm {a b:Nat}:a+0=b->a=b:=by omega
theorem N8 {a b c:Nat}:a+(b+1)=c->a+1+b=c:=by grind
theorem AT {a:Nat}:0+a=a:=by grind
theorem AI {a:Nat}:a<900->a<1000:=by lia
theorem ug {a b:Nat}:a<b->(a:Int)<(b:Int):=by omega
theorem w5 {a b:Nat}:¬a<b->¬(a:Int)<(b:Int):=by omega
theorem Na {a b:Nat}:b+2*a<800->a<=1048576:=by lia
theorem Q9 {a b c:Nat}:a=b->c<b->0<a:=by grind
theorem Hl {a b c:Nat}:b+2*c<800->a=c->a<900:=by lia
theorem Ms {a:Nat}:a=2\/a=3\/a=4->2<=a:=by grind
theorem S9 {a:Nat}:a=2\/a=3\/a=4->a<100:=by lia
theorem M8 {a b c:Nat}:a+2*c<800->0<b/\3*b<=2*c/\b<c->a+b<900:=by lia
theorem MJ {a b c:Nat}:a+2*c<800->0<b/\3*b<=2*c/\b<c->a+b+2*b<800:=by omega
theorem L4 {a b c:Nat}:c<b+1->0<a/\3*a<=2*c/\a<c->a<b:=by lia
theorem Hp {a b c d e:Nat}:0<e/\3*e<=2*d/\e<d->a+2*b<=c+e+2*e->a+2*b<=c+2*d:=by lia
theorem Re {a b c:Nat}:b+2*c<800->0<a/\3*a<=2*c/\a<c->a<=1048576:=by lia
theorem M0 {a b c:Nat}:b=2\/b=3\/b=4->a=c->¬b<c->a<=4:=by lia
theorem UR {a b c:Nat}:b=c->a+2*b<=a+2*c:=by grind
theorem w0 {a:Nat}:a<250->a+1<300:=by omega
theorem Ce {a:Int}{b:Nat}:a<=(b:Int)->a=(b:Int)+1->False:=by lia
theorem Dj {a:Nat}:(a:Int)+1<=(a:Int)->False:=by grind
theorem yd {a:Int}{b:Nat}:a<=((b+1:Nat):Int)->¬a=(b:Int)+1->a<=(b:Int):=by grind
theorem P5 {a:Int}:1<=a->a<=(0:Int)->False:=by lia
theorem WD {a:Nat}:a<=20->0+a<900:=by grind
theorem Vv {a:Nat}:a<=20->a+2*a<800:=by grind
theorem SE {a:Nat}:a<=20->a<1000000:=by lia
theorem Xp {a b c:Nat}:b<=20->a+2*c<=b+2*b->a+1<250:=by lia
theorem XU {a b c:Nat}:a+2*c<=b+2*b->a+1+1<=3*b+6:=by grind
theorem Nv {a b c:Nat}:b<=20->a+2*c<=b+2*b->a<1000:=by omega
theorem O3 {a b c:Nat}:b<=20->a+2*c<=b+2*b->a+1<1000:=by grind
theorem V4 {a:Nat}:a=2\/a=3\/a=4->¬(a:Int)<2:=by omega
theorem L6 {a:Nat}:a<=20->a<=1048576:=by grind
theorem UJ {a:Nat}:a<300->a<900:=by grind
theorem V5 {a b:Nat}:a<=b->0+a<=b:=by grind
theorem XT {a b:Nat}:a<=b->b<300->a<=1000000:=by lia
theorem Al:(10:Nat)<=(1048576:Nat):=by decide
theorem Ee {a:Nat}:a<10->a<500:=by lia
theorem GU {a b:Nat}:a<=b->b<300->a<900:=by grind
theorem Ao {a b c:Nat}:b<=c->c<300->a<b->a<500:=by lia
theorem Bv {a:Nat}:a<900->1+a<=1048576:=by lia
theorem VO {a b:Nat}:a<b->1<=(a:Int)+1/\(a:Int)+1<=(b:Int):=by lia
theorem Wp {a:Nat}{b:Int}:1<=b/\b<=(a:Int)->¬(a:Int)+1<b:=by lia
theorem BE {a b c:Nat}:b<=c->c<300->a<=b->a<900:=by grind
theorem TM {a:Nat}{b:Int}:1<=b/\b<=(a:Int)->0<a:=by grind
theorem Iq {a b:Nat}:b<64->a=b->a<=1048576:=by grind
theorem Wg {a:Nat}:a<64->a<=1048576:=by grind
theorem L5 {a b c:Nat}:b<=c->c<300->a<=b->0+a<900:=by grind
theorem vN {a b:Nat}:¬b<a->a<=b:=by omega
theorem Mz {a b c:Nat}:¬a<b->a<b+c->a-b<c:=by lia
theorem TU {a:Nat}:1<=a->a=a-1+1:=by omega
theorem NQ {a b:Nat}:b+1<=a->a=a-1+1:=by grind
theorem Ie {a b c:Nat}:b<900->a+(c+1)<=b->a<900:=by grind
theorem Ur {a b c d:Nat}:a+(d+1)<=c->b<=d->a+1+b<=c:=by grind
theorem PW {a b c:Nat}:c+1<=b+1->a<=c->a<=b:=by lia
theorem Vh {a b c:Nat}:b<900->a+(c+1)<=b->a<=1048576:=by grind
theorem LF {a b c:Nat}:b+(c+1)<=a->¬(a:Int)<(b:Int):=by grind
theorem Qd {a:Int}:0<a->0<=a:=by grind
theorem RJ {a:Int}:0<a->a≠0:=by grind
theorem Ho {a:Int}:0<a->¬a=0:=by grind
theorem Ov {a:Int}:0<a->a<1000->¬a=0/\a.natAbs<1073741824:=by grind
theorem Mf {a:Int}:a.natAbs<1000000->a.natAbs<2^64:=by lia
theorem Da {a:Nat}:a<=40->a<=1048576:=by lia
theorem Tf {a:Nat}:((a+1:Nat):Int)>0:=by omega
theorem M2 {a b:Nat}{c:Int}:c<(b:Int)->c=(a:Int)->a<b:=by lia
theorem Ny {a:Int}{b:Nat}:0<=a/\a<(b:Int)->a.toNat<b:=by grind
theorem Ua {a:Int}{b:Nat}:0<=a/\a<(b:Int)->a=(↑a.toNat:Int):=by grind
theorem Gi {a:Nat}:0<a->0<(a:Int):=by omega
theorem I2 {a b:Nat}{c:Int}:a<b/\10^18<=c->(a:Int)<(b:Int):=by omega
theorem Dn {a:Nat}:a<900->(a:Int)<1000:=by omega
theorem Ku:(0:Int)<(2147483587:Int):=by decide
theorem Cj:(0:Int)<(2147483629:Int):=by decide
theorem R1 {a:Int}:a<2147483629->a<=2147483629:=by lia
theorem K2 {a:Nat}:a<900->2*(a:Int)+7207<=10000:=by lia
theorem AW {a:Nat}:0<=2*(a:Int)+7207:=by grind
theorem LB:(0:Int)<=(2147483629:Int):=by decide
theorem We {a:Nat}:a<900->20947*(a:Int)<=20947000:=by lia
theorem WV {a:Nat}:a<900->(a:Int)<=1000:=by lia
theorem zP {a:Nat}:0<=(a:Int):=by grind
theorem MA:(0:Int)<=(20947000:Int):=by decide
theorem QO {a:Nat}:0<=20947*(a:Int):=by grind
theorem V1:(0:Int)<=(5:Int):=by decide
theorem OI:(5:Int)<(64:Int):=by decide
theorem S6 {a:Int}{b:Nat}:b<900->0<=a->a<2147483587->(a+20947*(b:Int)+3571).natAbs<2^64:=by omega
theorem Vw {a:Nat}:a<900->(2*(a:Int)+7207).natAbs<1000000:=by omega
theorem W0 {a:Nat}:a<900->(a:Int).natAbs<1000000:=by omega
theorem VS:(0:Int)<=(3:Int):=by decide
theorem KO:(3:Int)<(64:Int):=by decide
theorem PN {a b:Int}:a<=2147483629*10000->0<=a->b<=20947000*1000->0<=b->(a+b+31).natAbs<2^64:=by grind
theorem UA:(0:Int)<(2147483579:Int):=by decide
theorem wS {a:Nat}:a<100->a<=1048576:=by grind
theorem Lb {a:Nat}:Min.min 40 a<=1048576:=by lia
theorem Xj {a:Nat}:a<800->a<900:=by lia
theorem Sl:(0:Nat)<(9:Nat):=by decide
theorem R3:(9:Nat)<(900:Nat):=by decide
theorem Lk {a b:Nat}:b<800->a<=b+1->a<900:=by lia
theorem zZ:(0:Nat)<(3:Nat):=by decide
theorem xt:(3:Nat)<(900:Nat):=by decide
theorem Ry {a b c:Nat}:c<=b+1->a<=c+1->a<=b+2:=by lia
theorem WM {a:Nat}:¬a=0->¬a=0:=by omega
theorem V8 {a b:Nat}:a+2*(b+1)<800->a<800:=by grind
theorem Ju {a b c:Nat}:c+2*(b+1)<800->a<=c+2->a+2*b<800:=by grind
theorem Rq {a b c d:Nat}:d<=b+2->a<=d+2*c->a<=b+2*(c+1):=by lia
theorem OL {a b c:Nat}:b<=c->c<300->a<=b->a<300:=by omega
theorem xf {a:Nat}:a<300->a<=1048576:=by grind
theorem Pa {a:Nat}:a<300->a<1000000:=by lia
theorem Ro {a:Nat}:a<700->a<800:=by lia
theorem Q8 {a b:Nat}:b<700->a<=b+2->a<900:=by lia
theorem WA {a:Nat}:0<a+1:=by grind
theorem N7 {a:Nat}:a<100->a+1<900:=by lia
theorem wH {a b c:Nat}:a<c+1->b=c->a<=b:=by grind
theorem S4 {a b:Nat}:Min.min a b+(b-a+1)=b+1:=by grind
theorem HZ {a:Nat}:a<100->a+1<=1048576:=by grind
theorem Hz {a b c:Nat}:a<c+1->b=c->Min.min a b=a:=by lia
theorem Tz {a b:Nat}:a=b->a<=b:=by lia
theorem H1 {a b c:Nat}:c<=b+2->a<=c+1->a<=b+3:=by lia
theorem Mo {a b c:Nat}:c<100->b=c->Min.min a b+(0+1)<=1048576:=by grind
theorem Mc {a b c:Nat}:c<100->b=c->Min.min a b+(0+1)+(b-a)<=1048576:=by grind
theorem US {a b:Nat}:a+(b+1)<200->a<250:=by grind
theorem JW {a b:Nat}:a+3*(b+1)<600->a<700:=by grind
theorem JY {a b:Nat}:a+(b+1)<90->a<100:=by grind
theorem RZ {a b:Nat}:a+(b+1)<200->a+1+b<200:=by omega
theorem IH {a b c:Nat}:c+3*(b+1)<600->a<=c+3->a+3*b<600:=by grind
theorem Uw {a b c:Nat}:c+(b+1)<90->a=c+1->a+b<90:=by omega
theorem KP {a b c d:Nat}:d<=b+3->a<=d+3*c->a<=b+3*(c+1):=by grind
theorem Nn {a:Nat}:Min.min 40 a<=40:=by lia
theorem U4:(0:Nat)<(900:Nat):=by decide
theorem N9 {a:Nat}:a<=0+1->a<900:=by grind
theorem N2:(0:Nat)<(5:Nat):=by decide
theorem Yk:(5:Nat)<(900:Nat):=by decide
theorem Uc {a b c:Nat}:c<=0+1->b<5->a<=c+1->a+2*b<800:=by grind
theorem Gg {a:Nat}:a<3->2+a=2\/2+a=3\/2+a=4:=by lia
theorem VP {a b:Nat}:b<5->a=b->a<=20:=by lia
theorem QZ {a b c d:Nat}:b<=0+1->c<5->d<=b+1->a<=d+2*c->a<900:=by grind
theorem Pz:(0:Nat)<(7:Nat):=by decide
theorem PM:(7:Nat)<(900:Nat):=by decide
theorem SN {a b c d:Nat}:c<5->d=c->a<=3*d+6->b<7->a+b<200:=by lia
theorem Tt {a b c d e f:Nat}:c<=0+1->d<5->e<=c+1->f<=e+2*d->b<7->a<=f+1->a+3*b<600:=by grind
theorem VF {a b c:Nat}:c<5->a=c->b<7->a+b<90:=by grind
theorem LM {a b c d:Nat}:b<5->c=b->d<7->a=c+d->a<=20:=by grind
theorem Yc {a b c d e f g:Nat}:b<=0+1->c<5->d<=b+1->e<=d+2*c->f<7->g<=e+1->a<=g+3*f->a<900:=by grind
theorem Uo {a b c d e f g h:Nat}:b<=0+1->c<5->d<=b+1->e<=d+2*c->f<7->g<=e+1->h<=g+3*f->a<=h+1->a<900:=by grind
theorem Lj:(0:Nat)<(2:Nat):=by decide
theorem Tl:(2:Nat)<(900:Nat):=by decide
theorem An {a b c d:Nat}:c<5->d=c->a<=3*d+6->b<7->a+b<64:=by omega
theorem VY {a:Nat}:-1-(a:Int)<0:=by omega
theorem O6 {a b c:Nat}:a=b->(a:Int)<(b:Int)+1+(c:Int):=by grind
theorem Ii {a b c d:Nat}:b<5->c=b->d<7->a=c+d->a<=1048576:=by grind
theorem OR {a:Nat}:a<=63->a<100:=by lia
theorem Nx {a:Nat}:a<5->a<1000000:=by lia
theorem Kg {a:Nat}:a<5->a<=1048576:=by grind
theorem VR {a:Nat}:a<7->a<1000000:=by lia
theorem TK {a:Nat}:a=0+a:=by grind
theorem Qv {a b c:Nat}:a+(b+c)=a+b+c:=by grind
theorem HQ {a:Nat}:a+0=1*a:=by grind
theorem HU {a:Nat}:0=0*a:=by grind
theorem JN {a:Int}{b:Nat}:a+1+(b:Int)=a+((b:Int)+1):=by grind
theorem MC {a:Int}{b c:Nat}:a+(b:Int)+(c:Int)=a+((b:Int)+(c:Int)):=by grind
theorem Su {a:Nat}{b:Int}:1<=b/\b<=(0:Int)->a<=0:=by lia
theorem LC {a:Int}{b:Nat}:1<=a/\a<=((b+1:Nat):Int)->a≠(b:Int)+1->1<=a/\a<=(b:Int):=by grind
theorem Xz {a:Int}{b c:Nat}:c<b->(c:Int)+1=a->1<=a/\a<=(b:Int):=by grind
theorem Xo {a b:Nat}:a<=b->b<300->a<400:=by lia
theorem Vy {a b:Nat}:b<=a->a<300->a+b<=1048576:=by grind
theorem JJ {a b c:Nat}:a<b+c->¬a<b->a-b<c:=by grind
theorem OO {a b c d:Nat}:¬a<b->a-b=c+d->a=b+c+d:=by grind
theorem QF {a b:Nat}:a<=b->b=0->a=0:=by grind
theorem QQ {a b c:Nat}:b<300->a<=c->c+1<=b->a<900:=by grind
theorem L0 {a b:Nat}:¬b=0->a=b->a-1+1=a:=by grind
theorem Ng {a b:Nat}:¬b=0->a=b->a-1<b:=by lia
theorem DH {a b:Nat}:a<=b->¬a=b->a<b:=by omega
theorem MQ {a b c d:Nat}:c<b/\(d=0/\a<b\/d=1/\a=b)->(a:Int)<=(b:Int):=by lia
theorem Km {a b c:Nat}:c<b/\(0=0/\a<b\/0=1/\a=b)->¬(a:Int)=(b:Int):=by grind
theorem JC {a b c:Nat}:c<b/\(1=0/\a<b\/1=1/\a=b)->(a:Int)=(b:Int):=by grind
theorem Sj {a b c:Nat}:c<a/\(0=0/\b<a\/0=1/\b=a)->¬(a:Int)-1<(b:Int):=by lia
theorem NC {a b:Nat}:b+0=a->(a:Int)=(b:Int):=by grind
theorem LH {a b c:Nat}:c<a/\(1=0/\b<a\/1=1/\b=a)->(a:Int)-1<(b:Int):=by omega
theorem UW {a b c:Nat}:b+1=c->b<a/\(1=0/\c<a\/1=1/\c=a)->(a:Int)-1=(b:Int):=by grind
theorem W5 {a b c:Nat}:c+0=b->a=c->a=b:=by grind
theorem Qt {a b c:Nat}:c+1=b->a=c+1->a=b:=by grind
theorem GS {a:Int}{b:Nat}:1<=a/\a<=(b:Int)->a=(b:Int)+1->False:=by omega
theorem Ux {a:Int}{b:Nat}:a=(b:Int)+1->a<=(b:Int)->False:=by lia
theorem La {a:Nat}:a<250->a<1000:=by grind
theorem Jp {a:Nat}:a<10->a<800:=by lia
theorem Q0 {a b c:Nat}:b<250->c<=b->a<=c->a<900:=by lia
theorem J3 {a:Nat}:a<250->a+1<=1048576:=by lia
theorem QC {a b:Nat}:a<=b->a+(b-a)=b:=by grind
theorem Tr {a b:Nat}:b<a->0<(a:Int)-(b:Int):=by omega
theorem UM {a b:Nat}:(a:Int)-((b:Int)+1)=(a:Int)-(b:Int)-1:=by grind
theorem Vi {a:Nat}:(a:Int)-(a:Int)<=0:=by grind
theorem WF {a b:Nat}:b<a->(a:Int)-1-(b:Int)=((a-1-b:Nat):Int):=by grind
theorem C6 {a b:Nat}:(a:Int)-1-(b:Int)=((a-1-b:Nat):Int)->a-1-b<a:=by omega
theorem PV {a:Nat}:(a:Int)-1-(a:Int)= -1:=by grind
theorem Vb {a b:Int}:a<b->a<=b:=by lia
theorem X6 {a b c:Int}:a<c->c<=b->a<=b:=by lia
theorem PH {a b:Int}:¬b<a->a<=b:=by lia
theorem J4 {a:Nat}:a<64->a<=16777216:=by lia
theorem OE {a b:Nat}:b-a=0->a<=b->a=b:=by grind
theorem WR {a b c:Nat}:b-a=c+1->a<b:=by omega
theorem QP {a b:Nat}:Min.min a b<=b:=by lia
theorem Vf {a b c d:Nat}:c<=b->d<=c->a<=d->a<=b:=by lia
theorem Rf {a b c:Nat}:a-b=c+1->a-(b+1)=c:=by omega
theorem Dk {a:Nat}:a<1000->a+(0+1)<=16777216+1:=by grind
theorem Va {a b c:Nat}:c+(b+1)<1000->a=c+1->a+b<1000:=by grind
theorem Wm {a:Nat}:a<900->0+a<1000:=by omega
theorem QR {a b:Nat}:a<b+(0+1)->¬a<b->a=b:=by grind
theorem JF {a:Nat}:a=0->a<=a-1:=by lia
theorem UK {a:Nat}:0<a->a-1<a:=by lia
theorem Po {a:Nat}:0<a->a-1+1=a:=by lia
theorem Jz {a b c:Nat}:b<=1048576->c=b->a<c->(a:Int)<2^63-1:=by lia
theorem Tb {a b:Nat}:a+40<b->a+1+32<b:=by lia
theorem Kx {a b c:Nat}:a+16*c+400<b->a+40<b:=by grind
theorem PL {a:Int}:-1048576<=a-> -2^62<=a:=by lia
theorem PU {a:Int}:a<=1048576->a<2^62:=by omega
theorem Q1 {a b:Nat}:b<a->a-1-b<a:=by grind
theorem QY {a b:Nat}:b<a->a-(b+1)+1<a-b+1:=by lia
theorem Uk {a b c d e:Nat}:c<=d->a<=e->e<c->d<=b->a<=b:=by lia
theorem LY {a b:Nat}:a<=b->a<=b:=by omega
theorem HO {a b:Nat}:a<=b->¬a<b->a=b:=by lia
theorem B5 {a b c d e f:Nat}:d+e<=f->a=d->b=e->f<=c->a+b<=c:=by lia
theorem Jo {a b:Nat}:b<a->a-(b+1)<a-b:=by omega
theorem Pq {a:Nat}:a=1->a<1000:=by lia
theorem Lh {a:Nat}:a%2=0->(a+1)%2=1:=by lia
theorem TO {a b c:Nat}:a+2*(b+1)+8<c->a+2*b+8<c:=by lia
theorem XW {a b c:Nat}:a+16*(b+1)+400<c->a+16*b+400<c:=by lia
theorem NF {a:Nat}:a%2=0->a%2=1->False:=by lia
theorem TX {a:Nat}:a%2=1->(a+2)%2=1:=by grind
theorem R7 {a b c:Nat}:a+2*(b+2)+8<c->a+1+2*b+8<c:=by lia
theorem Rr {a b c:Nat}:a+16*(b+2)+400<c->a+3+16*b+400<c:=by lia
theorem Ts {a:Int}:0<=a->¬a<0:=by omega
theorem Nd {a:Int}{b:Nat}:a.toNat<b->¬a<0->0<=a/\a<(b:Int):=by omega
theorem KE {a:Int}:¬0<=a->a<0:=by lia
theorem W1 {a:Int}{b:Nat}:0<=a+(b:Int)->a<0->0<=a+(b:Int)/\a+(b:Int)<(b:Int):=by lia
theorem HV {a:Int}{b:Nat}:0<=a+(b:Int)->a<0->(a+(b:Int)).toNat<b:=by grind
theorem WZ {a:Int}:a.natAbs<2^62-> -2^63<=a:=by omega
theorem X2 {a:Int}:a.natAbs<2^62->a<2^63:=by grind
theorem QK {a:Nat}{b:Int}:0<=b+(a:Int)-> -(a:Int)<=b:=by lia
theorem JL {a b:Nat}:a+b.succ=a+1+b:=by grind
theorem PJ {a b:Nat}:¬b<a->a<=b+1:=by grind
theorem Qn {a b:Nat}:a<=a+2*(b+2)+8:=by grind
end Mine
end
section
open PySem
namespace Mine
@[elab_as_elim] theorem B {α:Sort u} {a b:α} {p:α->Prop} (e:a=b) (h:p b):p a:=by cases e;exact h
@[elab_as_elim] theorem bu {α:Sort u} {a b:α} {p:α->Prop} (e:a=b) (h:p a):p b:=by cases e;exact h
theorem lD {G:Prop} (h:false=true):G:=Bool.noConfusion h
theorem Z {α:Type u} {a:α} {G:Prop} (h:none=some a):G:=nomatch h
theorem ii {α:Type u} {a:α} {G:Prop} (h:some a=none):G:=nomatch h
theorem oD {α:Type u} {a b:α} {G:Prop} (h:some a=some b) (k:b=a->G):G:=k (Option.some.inj h).symm
theorem x5 {α:Type u} {d7:Type v} {a c:α} {b d:d7} {G:Prop} (h:some (a,b)=some (c,d)) (k:c=a->d=b->G):G:=k (congrArg Prod.fst (Option.some.inj h)).symm (congrArg Prod.snd (Option.some.inj h)).symm
@[elab_as_elim] theorem cF {α:Type u} {a b:α} {G:α->Prop} (h:some a=some b) (k:G a):G b:=by cases h;exact k
@[elab_as_elim] theorem b6 {α:Type u} {d7:Type v} {a c:α} {b d:d7} {G:α->d7->Prop} (h:some (a,b)=some (c,d)) (k:G a b):G c d:=by cases h;exact k
theorem cK {b4:Type w} {c:Prop} [Decidable c] {a:Option b4} {z:b4} {G:Prop} (h:(if c then a else none)=some z) (k:c->a=some z->G) (k0:(none:Option b4)=some z->G):G:=by
 by_cases q:c
 ·exact k q ((if_pos q).symm.trans h)
 ·exact k0 ((if_neg q).symm.trans h)
theorem xG {b4:Type w} {c:Prop} [Decidable c] {a:Option b4} {z:b4} {G:Prop} (h:(if c then none else a)=some z) (k:¬c->a=some z->G):G:=by
 by_cases q:c
 ·exact Z ((if_pos q).symm.trans h)
 ·exact k q ((if_neg q).symm.trans h)
theorem hn {b4:Type w} {c:Prop} [Decidable c] {a b:Option b4} {z:b4} {G:Prop} (h:(if c then a else b)=some z) (k:c->a=some z->G) (cS:¬c->b=some z->G):G:=by
 by_cases q:c
 ·exact k q ((if_pos q).symm.trans h)
 ·exact cS q ((if_neg q).symm.trans h)
noncomputable def ob {α:Type u} {d7:Type v} {b4:Type w} (x:Option (α×d7)) (f:α->d7->Option b4):Option b4:=match x with
 |some (a,b)=>f a b
 |none=>none
noncomputable def br {α:Type u} {b4:Type w} (x:Option α) (f:α->Option b4):Option b4:=match x with
 |some a=>f a
 |none=>none
theorem bq {α:Type u} {b4:Type w} {x:Option α} {f:α->Option b4} {a:α} {o:Option b4} (h:x=some a) (k:f a=o):br x f=o:=by refine B h ?_;exact k
theorem b5 {α:Type u} {d7:Type v} {b4:Type w} {x:Option (α×d7)} {f:α->d7->Option b4} {z:b4} {G:Prop} (h:ob x f=some z) (k:∀a b,x=some (a,b)->f a b=some z->G) (k0:(none:Option b4)=some z->G):G:=by
 cases x with
 |none=>exact k0 h
 |some p=>exact k p.1 p.2 rfl h
theorem bG {α:Type u} {b4:Type w} {x:Option α} {f:α->Option b4} {z:b4} {G:Prop} (h:br x f=some z) (k:∀a,x=some a->f a=some z->G) (k0:(none:Option b4)=some z->G):G:=by
 cases x with
 |none=>exact k0 h
 |some a=>exact k a rfl h
noncomputable def fn {α:Type u} {d7:Type v} {b4:Type w} (x:Option α) (y:Option d7) (f:α->d7->Option b4):Option b4:=br x fun a=>br y fun b=>f a b
theorem hH {α:Type u} {d7:Type v} {b4:Type w} {x:Option α} {y:Option d7} {f:α->d7->Option b4} {z:b4} {G:Prop} (h:fn x y f=some z) (k:∀a b,x=some a->y=some b->f a b=some z->G) (k0:(none:Option b4)=some z->G):G:=
 bG h (fun a bA q=>bG q (fun b ah q=>k a b bA ah q) k0) k0
theorem k7 {α:Type u} {d7:Type v} {b4:Type w} {a:α} {b:d7} {f:α->d7->Option b4}:fn (some a) (some b) f=f a b:=rfl
theorem kJ {α:Type u} {d7:Type v} {b4:Type w} {a:α} {b:d7} {f:α->d7->Option b4}:ob (some (a,b)) f=f a b:=rfl
theorem kX {α:Type u} {b4:Type w} {a:α} {f:α->Option b4}:br (some a) f=f a:=rfl
theorem cl {A ap:Prop} {G:Prop} (h:A/\ap) (k:A->ap->G):G:=k h.1 h.2
theorem ef {A ap C:Prop} {G:Prop} (h:A/\ap/\C) (k:A->ap->C->G):G:=k h.1 h.2.1 h.2.2
theorem nO {A ap C D:Prop} {G:Prop} (h:A/\ap/\C/\D) (k:A->ap->C->D->G):G:=k h.1 h.2.1 h.2.2.1 h.2.2.2
theorem jV {A ap C D E:Prop} {G:Prop} (h:A/\ap/\C/\D/\E) (k:A->ap->C->D->E->G):G:=k h.1 h.2.1 h.2.2.1 h.2.2.2.1 h.2.2.2.2
theorem NN {A ap C D E F:Prop} {G:Prop} (h:A/\ap/\C/\D/\E/\F) (k:A->ap->C->D->E->F->G):G:=k h.1 h.2.1 h.2.2.1 h.2.2.2.1 h.2.2.2.2.1 h.2.2.2.2.2
theorem bS {cL:Sort _} {A:cL->Prop} {G:Prop} (h:∃x0,A x0) (k:∀x0,A x0->G):G:=h.elim k
theorem bb {cL:Sort _} {A ap:cL->Prop} {G:Prop} (h:∃x0,A x0/\ap x0) (k:∀x0,A x0->ap x0->G):G:=h.elim fun x h=>cl h (k x)
theorem et {cL:Sort _} {A ap C:cL->Prop} {G:Prop} (h:∃x0,A x0/\ap x0/\C x0) (k:∀x0,A x0->ap x0->C x0->G):G:=h.elim fun x h=>ef h (k x)
theorem gm {cL:Sort _} {A ap C D:cL->Prop} {G:Prop} (h:∃x0,A x0/\ap x0/\C x0/\D x0) (k:∀x0,A x0->ap x0->C x0->D x0->G):G:=h.elim fun x h=>nO h (k x)
theorem Av {cL:Sort _} {A ap C D E:cL->Prop} {G:Prop} (h:∃x0,A x0/\ap x0/\C x0/\D x0/\E x0) (k:∀x0,A x0->ap x0->C x0->D x0->E x0->G):G:=h.elim fun x h=>jV h (k x)
theorem Ky {cL:Sort _} {A ap C D E F:cL->Prop} {G:Prop} (h:∃x0,A x0/\ap x0/\C x0/\D x0/\E x0/\F x0) (k:∀x0,A x0->ap x0->C x0->D x0->E x0->F x0->G):G:=h.elim fun x h=>NN h (k x)
theorem i9 {cL:Sort _} {dr:Sort _} {A:cL->dr->Prop} {G:Prop} (h:∃x0,∃aM,A x0 aM) (k:∀x0 aM,A x0 aM->G):G:=h.elim fun x h=>bS h (k x)
theorem hw {cL:Sort _} {dr:Sort _} {A ap:cL->dr->Prop} {G:Prop} (h:∃x0,∃aM,A x0 aM/\ap x0 aM) (k:∀x0 aM,A x0 aM->ap x0 aM->G):G:=h.elim fun x h=>bb h (k x)
theorem dP {cL:Sort _} {dr:Sort _} {A ap C:cL->dr->Prop} {G:Prop} (h:∃x0,∃aM,A x0 aM/\ap x0 aM/\C x0 aM) (k:∀x0 aM,A x0 aM->ap x0 aM->C x0 aM->G):G:=h.elim fun x h=>et h (k x)
theorem gv {cL:Sort _} {dr:Sort _} {A ap C D:cL->dr->Prop} {G:Prop} (h:∃x0,∃aM,A x0 aM/\ap x0 aM/\C x0 aM/\D x0 aM) (k:∀x0 aM,A x0 aM->ap x0 aM->C x0 aM->D x0 aM->G):G:=h.elim fun x h=>gm h (k x)
theorem qb {cL:Sort _} {dr:Sort _} {A ap C D E:cL->dr->Prop} {G:Prop} (h:∃x0,∃aM,A x0 aM/\ap x0 aM/\C x0 aM/\D x0 aM/\E x0 aM) (k:∀x0 aM,A x0 aM->ap x0 aM->C x0 aM->D x0 aM->E x0 aM->G):G:=h.elim fun x h=>Av h (k x)
theorem u5 {cL:Sort _} {dr:Sort _} {A ap C D E F:cL->dr->Prop} {G:Prop} (h:∃x0,∃aM,A x0 aM/\ap x0 aM/\C x0 aM/\D x0 aM/\E x0 aM/\F x0 aM) (k:∀x0 aM,A x0 aM->ap x0 aM->C x0 aM->D x0 aM->E x0 aM->F x0 aM->G):G:=h.elim fun x h=>Ky h (k x)
theorem qz {cL:Sort _} {dr:Sort _} {en:Sort _} {A:cL->dr->en->Prop} {G:Prop} (h:∃x0,∃aM,∃a1,A x0 aM a1) (k:∀x0 aM a1,A x0 aM a1->G):G:=h.elim fun x h=>i9 h (k x)
theorem uX {cL:Sort _} {dr:Sort _} {en:Sort _} {A ap:cL->dr->en->Prop} {G:Prop} (h:∃x0,∃aM,∃a1,A x0 aM a1/\ap x0 aM a1) (k:∀x0 aM a1,A x0 aM a1->ap x0 aM a1->G):G:=h.elim fun x h=>hw h (k x)
theorem dH {cL:Sort _} {dr:Sort _} {en:Sort _} {A ap C:cL->dr->en->Prop} {G:Prop} (h:∃x0,∃aM,∃a1,A x0 aM a1/\ap x0 aM a1/\C x0 aM a1) (k:∀x0 aM a1,A x0 aM a1->ap x0 aM a1->C x0 aM a1->G):G:=h.elim fun x h=>dP h (k x)
theorem oL {cL:Sort _} {dr:Sort _} {en:Sort _} {A ap C D:cL->dr->en->Prop} {G:Prop} (h:∃x0,∃aM,∃a1,A x0 aM a1/\ap x0 aM a1/\C x0 aM a1/\D x0 aM a1) (k:∀x0 aM a1,A x0 aM a1->ap x0 aM a1->C x0 aM a1->D x0 aM a1->G):G:=h.elim fun x h=>gv h (k x)
theorem ve {cL:Sort _} {dr:Sort _} {en:Sort _} {A ap C D E:cL->dr->en->Prop} {G:Prop} (h:∃x0,∃aM,∃a1,A x0 aM a1/\ap x0 aM a1/\C x0 aM a1/\D x0 aM a1/\E x0 aM a1) (k:∀x0 aM a1,A x0 aM a1->ap x0 aM a1->C x0 aM a1->D x0 aM a1->E x0 aM a1->G):G:=h.elim fun x h=>qb h (k x)
theorem qC {cL:Sort _} {dr:Sort _} {en:Sort _} {A ap C D E F:cL->dr->en->Prop} {G:Prop} (h:∃x0,∃aM,∃a1,A x0 aM a1/\ap x0 aM a1/\C x0 aM a1/\D x0 aM a1/\E x0 aM a1/\F x0 aM a1) (k:∀x0 aM a1,A x0 aM a1->ap x0 aM a1->C x0 aM a1->D x0 aM a1->E x0 aM a1->F x0 aM a1->G):G:=h.elim fun x h=>u5 h (k x)
theorem jF {cL:Sort _} {dr:Sort _} {en:Sort _} {f7:Sort _} {A:cL->dr->en->f7->Prop} {G:Prop} (h:∃x0,∃aM,∃a1,∃b0,A x0 aM a1 b0) (k:∀x0 aM a1 b0,A x0 aM a1 b0->G):G:=h.elim fun x h=>qz h (k x)
theorem qp {cL:Sort _} {dr:Sort _} {en:Sort _} {f7:Sort _} {A ap:cL->dr->en->f7->Prop} {G:Prop} (h:∃x0,∃aM,∃a1,∃b0,A x0 aM a1 b0/\ap x0 aM a1 b0) (k:∀x0 aM a1 b0,A x0 aM a1 b0->ap x0 aM a1 b0->G):G:=h.elim fun x h=>uX h (k x)
theorem rO {cL:Sort _} {dr:Sort _} {en:Sort _} {f7:Sort _} {A ap C:cL->dr->en->f7->Prop} {G:Prop} (h:∃x0,∃aM,∃a1,∃b0,A x0 aM a1 b0/\ap x0 aM a1 b0/\C x0 aM a1 b0) (k:∀x0 aM a1 b0,A x0 aM a1 b0->ap x0 aM a1 b0->C x0 aM a1 b0->G):G:=h.elim fun x h=>dH h (k x)
theorem x8 {cL:Sort _} {dr:Sort _} {en:Sort _} {f7:Sort _} {A ap C D:cL->dr->en->f7->Prop} {G:Prop} (h:∃x0,∃aM,∃a1,∃b0,A x0 aM a1 b0/\ap x0 aM a1 b0/\C x0 aM a1 b0/\D x0 aM a1 b0) (k:∀x0 aM a1 b0,A x0 aM a1 b0->ap x0 aM a1 b0->C x0 aM a1 b0->D x0 aM a1 b0->G):G:=h.elim fun x h=>oL h (k x)
theorem A6 {cL:Sort _} {dr:Sort _} {en:Sort _} {f7:Sort _} {A ap C D E:cL->dr->en->f7->Prop} {G:Prop} (h:∃x0,∃aM,∃a1,∃b0,A x0 aM a1 b0/\ap x0 aM a1 b0/\C x0 aM a1 b0/\D x0 aM a1 b0/\E x0 aM a1 b0) (k:∀x0 aM a1 b0,A x0 aM a1 b0->ap x0 aM a1 b0->C x0 aM a1 b0->D x0 aM a1 b0->E x0 aM a1 b0->G):G:=h.elim fun x h=>ve h (k x)
theorem GI {cL:Sort _} {dr:Sort _} {en:Sort _} {f7:Sort _} {A ap C D E F:cL->dr->en->f7->Prop} {G:Prop} (h:∃x0,∃aM,∃a1,∃b0,A x0 aM a1 b0/\ap x0 aM a1 b0/\C x0 aM a1 b0/\D x0 aM a1 b0/\E x0 aM a1 b0/\F x0 aM a1 b0) (k:∀x0 aM a1 b0,A x0 aM a1 b0->ap x0 aM a1 b0->C x0 aM a1 b0->D x0 aM a1 b0->E x0 aM a1 b0->F x0 aM a1 b0->G):G:=h.elim fun x h=>qC h (k x)
theorem rS {cL:Sort _} {dr:Sort _} {en:Sort _} {f7:Sort _} {l9:Sort _} {A:cL->dr->en->f7->l9->Prop} {G:Prop} (h:∃x0,∃aM,∃a1,∃b0,∃ex,A x0 aM a1 b0 ex) (k:∀x0 aM a1 b0 ex,A x0 aM a1 b0 ex->G):G:=h.elim fun x h=>jF h (k x)
theorem xS {cL:Sort _} {dr:Sort _} {en:Sort _} {f7:Sort _} {l9:Sort _} {A ap:cL->dr->en->f7->l9->Prop} {G:Prop} (h:∃x0,∃aM,∃a1,∃b0,∃ex,A x0 aM a1 b0 ex/\ap x0 aM a1 b0 ex) (k:∀x0 aM a1 b0 ex,A x0 aM a1 b0 ex->ap x0 aM a1 b0 ex->G):G:=h.elim fun x h=>qp h (k x)
theorem Zh {cL:Sort _} {dr:Sort _} {en:Sort _} {f7:Sort _} {l9:Sort _} {A ap C D:cL->dr->en->f7->l9->Prop} {G:Prop} (h:∃x0,∃aM,∃a1,∃b0,∃ex,A x0 aM a1 b0 ex/\ap x0 aM a1 b0 ex/\C x0 aM a1 b0 ex/\D x0 aM a1 b0 ex) (k:∀x0 aM a1 b0 ex,A x0 aM a1 b0 ex->ap x0 aM a1 b0 ex->C x0 aM a1 b0 ex->D x0 aM a1 b0 ex->G):G:=h.elim fun x h=>x8 h (k x)
theorem ua {cL:Sort _} {dr:Sort _} {en:Sort _} {f7:Sort _} {l9:Sort _} {xh:Sort _} {A:cL->dr->en->f7->l9->xh->Prop} {G:Prop} (h:∃x0,∃aM,∃a1,∃b0,∃ex,∃lB,A x0 aM a1 b0 ex lB) (k:∀x0 aM a1 b0 ex lB,A x0 aM a1 b0 ex lB->G):G:=h.elim fun x h=>rS h (k x)
theorem TI {cL:Sort _} {dr:Sort _} {en:Sort _} {f7:Sort _} {l9:Sort _} {xh:Sort _} {A ap:cL->dr->en->f7->l9->xh->Prop} {G:Prop} (h:∃x0,∃aM,∃a1,∃b0,∃ex,∃lB,A x0 aM a1 b0 ex lB/\ap x0 aM a1 b0 ex lB) (k:∀x0 aM a1 b0 ex lB,A x0 aM a1 b0 ex lB->ap x0 aM a1 b0 ex lB->G):G:=h.elim fun x h=>xS h (k x)
noncomputable abbrev aw:Program:=PySem.Challenge.pw_og0185_01
noncomputable abbrev o (s:String):Str:=Str.ofString s
noncomputable def aI (i:Nat):Stmt:=(aw.main.body[i]?).getD default
noncomputable def cG (i j:Nat):Stmt:=match aI i with
 |.ClassDef _ _ _ b _ _ _ _ _ _ _=>(b[j]?).getD default
 |s=>s
noncomputable def t6:Stmt->Arguments
 |.FunctionDef _ a _ _ _ _ _ _ _ _=>a
 |_=>default
noncomputable def g0:Stmt->List Stmt
 |.FunctionDef _ _ b _ _ _ _ _ _ _=>b
 |_=>[]
noncomputable def bN:Stmt->Scope
 |.FunctionDef _ _ _ _ _ _ J _ _ _=>J
 |_=>default
inductive al where
 |int (i:Int)|str (s:Str)
 deriving DecidableEq
inductive H where
 |none|bool (b:Bool)|int (i:Int)|str (s:Str)
 |aF (l:List H)|am (l:List H)|V (l:List (al×H))
 |dS (c:Str) (fs:List (Str×H))|per (k:Nat)
inductive cf where
 |U (v:H)|aD (v:H)
inductive aU where
 |U (v:H)|own (v:H)|var (x:Str)
structure X where
 loc:List (Str×cf)
 per:List H
inductive bE where
 |next|brk|ret (r:aU)|dC
noncomputable def getL (x:Str):List (Str×cf)->Option cf
 |[]=>none
 |(y,v)::r=>if x=y then some v else getL x r
noncomputable def bY (x:Str) (v:cf):List (Str×cf)->List (Str×cf)
 |[]=>[(x,v)]
 |(y,w)::r=>if x=y then(y,v)::r else(y,w)::bY x v r
noncomputable def jC (x:Str):List (Str×cf)->List (Str×cf)
 |[]=>[]
 |(y,w)::r=>if x=y then jC x r else(y,w)::jC x r
noncomputable def iO (x:Str):List (Str×H)->Option H
 |[]=>none
 |(y,v)::r=>if x=y then some v else iO x r
noncomputable def a9 (k:al):List (al×H)->Option H
 |[]=>none
 |(y,v)::r=>if k=y then some v else a9 k r
noncomputable def cU (k:al) (v:H):List (al×H)->List (al×H)
 |[]=>[(k,v)]
 |(y,w)::r=>if k=y then(y,v)::r else(y,w)::cU k v r
noncomputable def hZ (k:al):List (al×H)->List (al×H)
 |[]=>[]
 |(y,w)::r=>if k=y then r else(y,w)::hZ k r
noncomputable def Jb (v:cf):Option H:=match v with
 |.aD v=>some v
 |.U _=>none
noncomputable def mT (x:Str) (fs:X):Option H:=br (getL x fs.loc) Jb
theorem od {x:Str} {fs:X} {v:H} (h:mT x fs=some v):getL x fs.loc=some (.aD v):=
 bG h (fun bh e h=>by
  cases bh with
  |aD u=>refine B e ?_;exact cF (show some u=some v from h) rfl
  |U _=>exact Z h) Z
noncomputable def X.val (fs:X) (r:aU):Option H:=match r with
 |.U v=>some v
 |.own v=>some v
 |.var x=>mT x fs
noncomputable def X.mx (fs:X) (v:H):Option H:=match v with
 |.per k=>fs.per[k]?
 |v=>some v
noncomputable def X.cE (fs:X) (r:aU):Option H:=br (fs.val r) fs.mx
noncomputable def X.oB (fs:X) (r:aU):Option (H×X):=match r with
 |.U v=>some (v,fs)
 |.own v=>some (v,fs)
 |.var x=>br (mT x fs) fun v=>some (v,{fs with loc:=bY x (.U v) fs.loc})
noncomputable def X.take (fs:X) (r:aU):Option (aU×X):=match r with
 |.U v=>some (.U v,fs)
 |.own v=>some (.own v,fs)
 |.var x=>br (mT x fs) fun v=>some (.own v,{fs with loc:=jC x fs.loc})
noncomputable def fY (v:H):Option Int:=match v with
 |.int b=>some b
 |_=>none
noncomputable def tD (v:H):Option Str:=match v with
 |.str b=>some b
 |_=>none
noncomputable def rh (v:H):Option (List H):=match v with
 |.aF b=>some b
 |_=>none
noncomputable def qf (v:H):Option (List H):=match v with
 |.am b=>some b
 |_=>none
noncomputable def tg (v:H):Option (List (al×H)):=match v with
 |.V b=>some b
 |_=>none
theorem jK {v:H} {i:Int} (h:fY v=some i):v=.int i:=by cases v<;>first|exact Z h|exact cF h rfl
theorem yO {v:H} {i:Str} (h:tD v=some i):v=.str i:=by cases v<;>first|exact Z h|exact cF h rfl
theorem yg {v:H} {i:List H} (h:rh v=some i):v=.aF i:=by cases v<;>first|exact Z h|exact cF h rfl
theorem qX {v:H} {i:List H} (h:qf v=some i):v=.am i:=by cases v<;>first|exact Z h|exact cF h rfl
theorem xa {v:H} {i:List (al×H)} (h:tg v=some i):v=.V i:=by cases v<;>first|exact Z h|exact cF h rfl
noncomputable def fG:H->Bool
 |.none=>true
 |_=>false
theorem yr {v:H} (h:fG v=true):v=.none:=by cases v<;>first|rfl|exact lD h
noncomputable def ll (f:H->H->Option Bool):List H->List H->Option Bool
 |[],cj=>some cj.isEmpty
 |x::r,cj=>match cj with
  |[]=>some false
  |y::t=>fn (f x y) (ll f r t) fun a b=>some (a&&b)
noncomputable def HT:H->Option Bool
 |.none=>some true
 |.int _=>some false
 |_=>none
noncomputable def Xx (a:Int):H->Option Bool
 |.none=>some false
 |.int b=>some (a==b)
 |_=>none
noncomputable def eO:Nat->H->H->Option Bool
 |0,_,_=>none
 |n+1,x,y=>match x with
  |.none=>HT y
  |.int a=>Xx a y
  |.str a=>br (tD y) fun b=>some (a==b)
  |.aF a=>br (rh y) fun b=>ll (eO n) a b
  |.am a=>br (qf y) fun b=>if a.length=b.length then ll (eO n) a b else some false
  |_=>none
@[elab_as_elim] theorem wM {n:Nat} {P:H->H->Bool->Prop} {x y:H} {b:Bool} (h:eO (n+1) x y=some b) (H5:P .none .none true) (WL:∀i,P .none (.int i) false) (ID:∀i,P (.int i) .none false) (Xn:∀i j,P (.int i) (.int j) (i==j)) (Wy:∀i j,P (.str i) (.str j) (i==j))
  (EB:∀i j b,ll (eO n) i j=some b->P (.aF i) (.aF j) b) (Yb:∀i j b,i.length=j.length->ll (eO n) i j=some b->P (.am i) (.am j) b) (K0:∀i j,¬i.length=j.length->P (.am i) (.am j) false):P x y b:=by
 cases x with
 |none=>cases y with
  |none=>exact cF h H5
  |int i=>exact cF h (WL i)
  |_=>exact Z h
 |int i=>cases y with
  |none=>exact cF h (ID i)
  |int j=>exact cF h (Xn i j)
  |_=>exact Z h
 |str i=>exact bG h (fun j e q=>by refine B (yO e) ?_;exact cF q (Wy i j)) Z
 |aF i=>exact bG h (fun j e q=>by refine B (yg e) ?_;exact EB i j b q) Z
 |am i=>
  refine bG h (fun j e q=> ?_) Z
  refine B (qX e) ?_
  by_cases aq:i.length=j.length
  ·exact Yb i j b aq ((if_pos aq).symm.trans q)
  ·exact cF ((if_neg aq).symm.trans q) (K0 i j aq)
 |_=>exact Z h
noncomputable def eK:Nat:=32
noncomputable def vQ (a b:List (al×H)):Option Bool:=if(a.isEmpty||b.isEmpty)=true then some (a.isEmpty&&b.isEmpty) else none
noncomputable def um (x y:H):Option Bool:=match x with
 |.V a=>br (tg y) fun b=>vQ a b
 |_=>eO eK x y
theorem J5 {x y:H} {b:Bool} {G:Prop} (h:um x y=some b) (k1:∀i j,x=.V i->y=.V j->vQ i j=some b->G) (k2:eO eK x y=some b->G):G:=by
 cases x with
 |V i=>exact bG h (fun j e q=>k1 i j rfl (xa e) q) Z
 |_=>exact k2 h
noncomputable def gf:H->Option al
 |.int i=>some (.int i)
 |.str s=>some (.str s)
 |_=>none
noncomputable def p4:al->H
 |.int i=>.int i
 |.str s=>.str s
noncomputable def a4:Nat:=1048576
noncomputable def qA (a:Int):Bool:=decide (a.natAbs<2^64)
noncomputable def GH (bU:Operator) (x y:Int):Option Int:=match bU with
 |.Add=>some (x+y)
 |.Sub=>some (x-y)
 |.Mult=>if qA x||qA y then some (x*y) else none
 |.FloorDiv=>if y=0||1073741824<=y.natAbs then none else some (x.fdiv y)
 |.Mod=>if y=0 then none else some (x.fmod y)
 |.Pow=>if 0<=y&&y<64&&x.natAbs<2^1024 then some (x^y.toNat) else none
 |_=>none
noncomputable def xD:Operator->Bool
 |.Add=>true
 |_=>false
theorem FW {bU:Operator} (h:xD bU=true):bU=.Add:=by cases bU<;>first|rfl|exact Bool.noConfusion h
noncomputable def ke (bU:Operator) (a b:H):Option aU:=match a with
 |.int x=>br (fY b) fun y=>br (GH bU x y) fun z=>some (.U (.int z))
 |.aF x=>br (rh b) fun y=>if(xD bU&&decide (x.length+y.length<=a4))=true then some (.U (.aF (x++y))) else none
 |.am x=>br (qf b) fun y=>if(xD bU&&decide (x.length+y.length<=a4))=true then some (.own (.am (x++y))) else none
 |_=>none
noncomputable def y8 (s:Str):List H->Option Bool
 |[]=>some false
 |v::r=>br (tD v) fun t=>(y8 s r).map fun b=>decide (t=s)||b
noncomputable def Qm (a b:H):Option Bool:=match b with
 |.V l=>(gf a).map fun k=>(a9 k l).isSome
 |.aF l=>br (tD a) fun s=>y8 s l
 |_=>none
noncomputable def eF (bU:CmpOp) (a b:H):Option Bool:=
 match bU with
 |.Lt=>fn (fY a) (fY b) fun x y=>some (decide (x<y))
 |.LtE=>fn (fY a) (fY b) fun x y=>some (decide (x<=y))
 |.Gt=>fn (fY a) (fY b) fun x y=>some (decide (y<x))
 |.GtE=>fn (fY a) (fY b) fun x y=>some (decide (y<=x))
 |.Eq=>um a b
 |.NotEq=>(um a b).map (!·)
 |.Is=>if fG b=true then some (fG a) else none
 |.IsNot=>if fG b=true then some (!fG a) else none
 |.In=>Qm a b
 |.NotIn=>br (tg b) fun l=>(gf a).map fun k=> !(a9 k l).isSome
noncomputable def Bc:H->Option Bool
 |.bool b=>some b
 |.am l=>if l.length<=a4 then some (!l.isEmpty) else none
 |_=>none
noncomputable def hE:List Str:=["Name","Reference","Page","Spot","Decimal","String","Stream"]
noncomputable def sK:List Str:=["bool","int","list","dict"]
noncomputable def gB (v:H) (c:Str):Option Bool:=
 if sK.contains c||hE.contains c then match v with
  |.per _=>none
  |.dS d _=>if d=("Shelf":Str)||hE.contains d then some (decide (c=d)) else none
  |.bool _=>some (decide (c=("bool":Str))||decide (c=("int":Str)))
  |.int _=>some (decide (c=("int":Str)))
  |.am _=>some (decide (c=("list":Str)))
  |.V _=>some (decide (c=("dict":Str)))
  |_=>some false
 else none
noncomputable def jl (c:Str):Option (List Str):=
 if c=("Name":Str) then some ["text"]
 else if c=("Reference":Str) then some ["number","generation"]
 else if c=("Page":Str) then some ["reference","fields"]
 else if c=("Spot":Str) then some ["reference","head","above","inherited","is_page"]
 else none
noncomputable def pQ (c a:Str):Bool:=match jl c with
 |some l=>l.contains a
 |none=>c=("Shelf":Str)&&(a=("table":Str)||a=("trailer":Str))
noncomputable def qK (c m:Str):Option Str:=
 if c=("Reference":Str) then(if m=("pair":Str) then some "Reference.pair" else none)
 else if c=("Shelf":Str) then
  (if m=("fetch":Str) then some "Lookup.fetch"
  else if m=("get":Str) then some "Lookup.get"
  else if m=("put":Str) then some "Shelf.put"
  else if m=("add":Str) then some "Shelf.add"
  else if m=("numbers":Str) then some "Shelf.numbers"
  else if m=("root":Str) then some "Shelf.root"
  else if m=("told":Str) then some "Shelf.told"
  else none)
 else none
noncomputable def rb:List (Str×(Nat×Option Nat)):=[
 (o "Reference.pair",12,some 1),(o "kind_of",13,none),(o "told_plain",14,none),(o "told",15,none),(o "told_objects",15,none),(o "copied",17,none),
 (o "Lookup.fetch",18,some 1),(o "Lookup.get",18,some 2),(o "Shelf.put",19,some 0),(o "Shelf.add",19,some 1),(o "Shelf.numbers",19,some 3),(o "Shelf.root",19,some 4),(o "Shelf.told",19,some 5),
 (o "turned",24,none),(o "home_of",25,none),(o "is_node",26,none),(o "kids_of",27,none),(o "met",28,none),(o "spots",29,none),(o "fields_of",30,none),(o "page_spots",31,none),(o "pages",32,none),
 (o "page_count",33,none),(o "is_count",34,none),(o "page_at",35,none),(o "kid_with",36,none),(o "counts_of",37,none),(o "is_parent",38,none),(o "page_faults",39,none),(o "settle",40,none),(o "lay",41,none),
 (o "grouped",42,none),(o "build_pages",43,none),(o "place_of",44,none),(o "kid_index",45,none),(o "put_reference",46,none),(o "insert_page",47,none),
 (o "_law_pen",49,none),(o "_law_draw",50,none),(o "_law_page",52,none),(o "_law_seen",53,none),(o "_law_refused",54,none),(o "law",55,none)]
noncomputable def ds (x:Str):Option Stmt:=(rb.lookup x).map fun p=>match p.2 with|none=>aI p.1|some j=>cG p.1 j
noncomputable def kl (f:Str):Bool:=match rb.lookup f with
 |some (_,none)=>true
 |_=>false
noncomputable def kx:Expr->Bool
 |.Call (.Name id _) [] [] _=>id !=("super":Str)
 |_=>true
noncomputable def nZ (J aW:Scope):Bool:=
 aW.kind==.function&&aW.names.all fun(n,k)=>k !=.cell&&(k !=.local||aW.names.lookup n==some .local)&&(k !=.free||J.names.lookup n==some .cell)
noncomputable def GZ (x:Str):Option H:=
 if x=("INHERITED":Str) then some (.aF [.str "Resources",.str "MediaBox",.str "CropBox",.str "Rotate"])
 else if x=("MOST_HOPS":Str) then some (.int 30)
 else none
noncomputable def gT:Expr->Option Str
 |.Name x _=>some x
 |_=>none
theorem n8 {e:Expr} {x:Str} (h:gT e=some x):∃p,e=.Name x p:=by cases e<;>first|exact Z h|(cases h;exact⟨_,rfl⟩)
noncomputable def zH:Expr->Option (Expr×List Expr)
 |.Call f args [] _=>some (f,args)
 |_=>none
theorem ER {e f:Expr} {args:List Expr} (h:zH e=some (f,args)):∃p,e=.Call f args [] p:=by
 cases e with
 |Call S1 YH lR p=>cases lR with
  |nil=>cases h;exact⟨_,rfl⟩
  |cons _ _=>exact Z h
 |_=>exact Z h
noncomputable def q6 (l:List Expr):Option Expr:=match l with
 |[a]=>some a
 |_=>none
theorem ty {l:List Expr} {a:Expr} (h:q6 l=some a):l=[a]:=by
 cases l with
 |nil=>exact Z h
 |cons b r=>cases r with
  |nil=>cases h;rfl
  |cons _ _=>exact Z h
noncomputable def isStr:Expr->Bool
 |.Constant (.str _) _ _=>true
 |_=>false
theorem Xi {e:Expr} (h:isStr e=true):∃s k p,e=.Constant (.str s) k p:=by
 cases e with
 |Constant c k p=>cases c<;>first|exact⟨_,_,_,rfl⟩|(exact Bool.noConfusion h)
 |_=>exact Bool.noConfusion h
noncomputable def Cu (e:Option Expr):Option Str:=br e fun e=>match e with
 |.Constant c _ _=>match c with
  |.str s=>some s
  |_=>none
 |_=>none
theorem Ok {e:Option Expr} {n:Str} (h:Cu e=some n):∃k p,e=some (.Constant (.str n) k p):=by
 cases e with
 |none=>exact Z h
 |some e=>cases e with
  |Constant c k p=>cases c with
   |str s=>exact cF h ⟨k,p,rfl⟩
   |_=>exact Z h
  |_=>exact Z h
noncomputable def Gn (hs:List ExceptHandler) (gG cM:List Stmt):Option (Str×List Stmt):=match hs with
 |[.ExceptHandler (some t) none ah _]=>match gG with
  |[]=>match cM with
   |[]=>(gT t).map fun c=>(c,ah)
   |_=>none
  |_=>none
 |_=>none
theorem MW {hs:List ExceptHandler} {gG cM:List Stmt} {c:Str} {ah:List Stmt} (h:Gn hs gG cM=some (c,ah)):∃m2 an,hs=[.ExceptHandler (some (.Name c m2)) none ah an]/\gG=[]/\cM=[]:=by
 cases hs with
 |nil=>exact Z h
 |cons a l=>
  obtain⟨yY,nm,b,an⟩:=a
  cases yY with
  |none=>exact Z h
  |some t=>cases nm with
   |some _=>exact Z h
   |none=>cases l with
    |cons _ _=>exact Z h
    |nil=>cases gG with
     |cons _ _=>exact Z h
     |nil=>cases cM with
      |cons _ _=>exact Z h
      |nil=>
       have h:(gT t).map (fun c=>(c,b))=some (c,ah):=h
       obtain⟨x,ae,e⟩:=Option.map_eq_some_iff.mp h
       cases e
       obtain⟨p,e⟩:=n8 ae
       subst e
       exact⟨_,_,rfl,rfl,rfl⟩
noncomputable abbrev cs:=Str->List H->List H->Option (bE×List H)
structure bk where
 ba:Expr->X->Option (aU×X)
 dF:Expr->X->Option (Bool×X)
 de:Stmt->X->Option (bE×X)
section
variable(C:cs) (R:bk)
end
noncomputable def ub (r:aU):Option H:=match r with
 |.U v=>some v
 |_=>none
noncomputable def n1 {b4:Type w} (x:Option (aU×X)) (f:H->X->Option b4):Option b4:=ob x fun r fs=>br (ub r) fun v=>f v fs
noncomputable def RH (v:H):Option Bool:=match v with
 |.bool b=>some b
 |_=>none
noncomputable def Kt (f:bE):Option aU:=match f with
 |.ret r=>some r
 |_=>none
noncomputable def s2 {b4:Type w} (x:Option (aU×X)) (f:Bool->X->Option b4):Option b4:=n1 x fun v fs=>br (RH v) fun b=>f b fs
noncomputable def pN {b4:Type w} (x:Option (aU×X)) (f:Int->X->Option b4):Option b4:=n1 x fun v fs=>br (fY v) fun b=>f b fs
noncomputable def zX {b4:Type w} (x:Option (aU×X)) (f:List H->X->Option b4):Option b4:=n1 x fun v fs=>br (rh v) fun b=>f b fs
noncomputable def sE {m6:Type u} {b4:Type w} (x:Option (bE×m6)) (f:aU->m6->Option b4):Option b4:=ob x fun v fs=>br (Kt v) fun b=>f b fs
section
variable{b4:Type w} {x:Option (aU×X)} {z:b4} {G:Prop}
theorem FY {r:aU} {v:H} (h:ub r=some v):r=.U v:=by cases r<;>cases h;rfl
theorem rM {f:H->X->Option b4} (h:n1 x f=some z) (k:∀a b,x=some (.U a,b)->f a b=some z->G) (k0:(none:Option b4)=some z->G):G:=
 b5 h (fun r b e q=>bG q (fun v O q=>k v b (e.trans (by(refine B (FY O) ?_;rfl))) q) k0) k0
theorem EK {f:Bool->X->Option b4} (h:s2 x f=some z) (k:∀a b,x=some (.U (.bool a),b)->f a b=some z->G) (k0:(none:Option b4)=some z->G):G:=
 rM h (fun r b e q=>bG q (fun v O q=>k v b (e.trans (by cases r<;>cases O;rfl)) q) k0) k0
theorem BH {f:Int->X->Option b4} (h:pN x f=some z) (k:∀a b,x=some (.U (.int a),b)->f a b=some z->G) (k0:(none:Option b4)=some z->G):G:=
 rM h (fun r b e q=>bG q (fun v O q=>k v b (e.trans (by cases r<;>cases O;rfl)) q) k0) k0
theorem UY {f:List H->X->Option b4} (h:zX x f=some z) (k:∀a b,x=some (.U (.aF a),b)->f a b=some z->G) (k0:(none:Option b4)=some z->G):G:=
 rM h (fun r b e q=>bG q (fun v O q=>k v b (e.trans (by cases r<;>cases O;rfl)) q) k0) k0
theorem x7 {m6:Type u} {x:Option (bE×m6)} {f:aU->m6->Option b4} (h:sE x f=some z) (k:∀a b,x=some (.ret a,b)->f a b=some z->G) (k0:(none:Option b4)=some z->G):G:=
 b5 h (fun r b e q=>bG q (fun v O q=>k v b (e.trans (by cases r<;>cases O;rfl)) q) k0) k0
theorem kN {v:H} {fs:X} {f:H->X->Option b4}:n1 (some (.U v,fs)) f=f v fs:=rfl
theorem kP {v:Bool} {fs:X} {f:Bool->X->Option b4}:s2 (some (.U (.bool v),fs)) f=f v fs:=rfl
theorem kG {v:Int} {fs:X} {f:Int->X->Option b4}:pN (some (.U (.int v),fs)) f=f v fs:=rfl
theorem kU {v:List H} {fs:X} {f:List H->X->Option b4}:zX (some (.U (.aF v),fs)) f=f v fs:=rfl
theorem kK {m6:Type u} {v:aU} {fs:m6} {f:aU->m6->Option b4}:sE (some (.ret v,fs)) f=f v fs:=rfl
end
section
variable(C:cs) (R:bk)
noncomputable def dY (e:Expr) (fs:X):Option (H×X):=ob (R.ba e fs) fun r fs'=>fs'.oB r
noncomputable def zQ (x:Str):cf->aU
 |.U v=>.U v
 |.aD _=>.var x
noncomputable def dk:List Expr->X->Option (List H×X)
 |[],fs=>some ([],fs)
 |e::t,fs=>ob (dY R e fs) fun v fs₁=>ob (dk t fs₁) fun vs fs₂=>some (v::vs,fs₂)
noncomputable def pa:List (Option Expr)->List Expr->X->Option (List (al×H)×X)
 |[],es,fs=>if es.isEmpty=true then some ([],fs) else none
 |k::ks,es,fs=>match es with
  |[]=>none
  |e::t=>br (Cu k) fun n=>ob (dY R e fs) fun v fs₁=>ob (pa ks t fs₁) fun vs fs₂=>some ((.str n,v)::vs,fs₂)
noncomputable def nR:List Expr->X->Option (Bool×X)
 |[],_=>none
 |e::t,fs=>s2 (R.ba e fs) fun b fs₁=>if(b&& !t.isEmpty)=true then nR t fs₁ else some (b,fs₁)
noncomputable def zv:BoolOp->Bool
 |.Or=>true
 |.And=>false
noncomputable def xo (bU:BoolOp):List Expr->X->Option (Bool×X)
 |[],fs=>some (!zv bU,fs)
 |e::t,fs=>ob (R.dF e fs) fun b fs₁=>if(b==zv bU)=true then some (b,fs₁) else xo bU t fs₁
noncomputable def fin2 (e6:List CmpOp) (es:List Expr):Option Bool:=match e6 with
 |[]=>if es.isEmpty=true then some true else none
 |_::_=>if es.isEmpty=true then none else some false
noncomputable def sB (left:aU):List CmpOp->List Expr->X->Option (Bool×X)
 |[],_,_=>none
 |bU::e6,es,fs=>match es with
  |[]=>none
  |e::es=>ob (R.ba e fs) fun r fs₁=>fn (fs₁.cE left) (fs₁.cE r) fun a b=>br (eF bU a b) fun c=>br (fin2 e6 es) fun z=>
    if z=true then some (c,fs₁) else br (ub r) fun v=>if c=true then sB (.U v) e6 es fs₁ else some (false,fs₁)
noncomputable def ji (i:Int) (n:Nat):Nat:=if i<0 then(i+n).toNat else min i.toNat n
noncomputable def t1 (n:Nat):Option Int->Nat
 |none=>0
 |some i=>ji i n
noncomputable def uB (n:Nat):Option Int->Nat
 |none=>n
 |some i=>ji i n
noncomputable def iW (l:List H) (c2 aR:Option Int):List H:=(l.take (uB l.length aR)).drop (t1 l.length c2)
noncomputable def ko (i:Int) (n:Nat):Option Nat:=if 0<=i then(if i.toNat<n then some i.toNat else none) else(if 0<=i+n then some (i+n).toNat else none)
noncomputable def pj (v:H):Option (List H):=match v with
 |.am l=>some l
 |.aF l=>some l
 |.V l=>some (l.map fun p=>p4 p.1)
 |_=>none
noncomputable def Ld (v:H):Option (List H):=br (fY v) fun n=>if(decide (-1048576<=n)&&decide (n<=1048576))=true then some ((List.range n.toNat).map fun(i:Nat)=>H.int i) else none
noncomputable def yv (e:Expr):Option (Str×Expr):=ob (zH e) fun f args=>fn (gT f) (q6 args) fun f a=>some (f,a)
theorem Ck {e a:Expr} {f:Str} (h:yv e=some (f,a)):∃p q,e=.Call (.Name f p) [a] [] q:=
 b5 h (fun g args M h=>hH h (fun S1 jo O Y h=>b6 h ((ER M).elim fun q ak=>(n8 O).elim fun p ar=>⟨p,q,by(refine B ak ?_;refine B ar ?_;refine B (ty Y) ?_;rfl)⟩)) Z) Z
noncomputable def oZ (g:H->Option (List H)) (e:Expr) (fs:X):Option (List H×X):=ob (dY R e fs) fun v fs₁=>br (g v) fun l=>some (l,fs₁)
noncomputable def JV (v:H):Option (List H):=br (qf v) fun l=>some l.reverse
noncomputable def Kf (f:Str) (a e:Expr) (fs:X):Option (List H×X):=if f=("range":Str) then oZ R Ld a fs else if f=("reversed":Str) then oZ R JV a fs else oZ R pj e fs
noncomputable def hv (J:Scope) (e:Expr) (fs:X):Option (List H×X):=match yv e with
 |some p=>if J.names.lookup p.1=some .globalImplicit then Kf R p.1 p.2 e fs else none
 |none=>oZ R pj e fs
noncomputable def Cc:al->Option Int
 |.int i=>some i
 |.str _=>none
noncomputable def SB:al->Option Str
 |.str s=>some s
 |.int _=>none
noncomputable def ow:List (al×H)->Option (List Int)
 |[]=>some []
 |p::r=>fn (Cc p.1) (ow r) fun i t=>some (i::t)
noncomputable def uW:List (al×H)->Option (List Str)
 |[]=>some []
 |p::r=>fn (SB p.1) (uW r) fun i t=>some (i::t)
noncomputable def x2 (a b:Str):Bool:=decide (a.cps.toList<b.cps.toList)
noncomputable def jw (a:Int):List Int->List Int
 |[]=>[a]
 |b::r=>if a<b then a::b::r else b::jw a r
noncomputable def kV (a:Str):List Str->List Str
 |[]=>[a]
 |b::r=>if x2 a b then a::b::r else b::kV a r
noncomputable def qE (l:List Int):List Int:=l.foldl (fun cm a=>jw a cm) []
noncomputable def xQ (l:List Str):List Str:=l.foldl (fun cm a=>kV a cm) []
noncomputable def yL (v:H):Option (H×H):=br (rh v) fun l=>match l with
 |[]=>none
 |k::t=>match t with
  |[]=>none
  |v::u=>if u.isEmpty=true then some (k,v) else none
theorem EP {v k x:H} (h:yL v=some (k,x)):v=.aF [k,x]:=bG h (fun l e q=>by
 refine B (yg e) ?_
 cases l with
 |nil=>exact Z q
 |cons a t=>cases t with
  |nil=>exact Z q
  |cons b u=>cases u with
   |nil=>exact b6 (show some (a,b)=some (k,x) from q) rfl
   |cons _ _=>exact Z q) Z
noncomputable def mB (v:H):Bool:=(ob (yL v) fun k w=>fn (fY k) (fY w) fun _ _=>some ()).isSome
theorem Cn {v:H} (h:mB v=true):∃i j,v=.aF [.int i,.int j]:=
 (Option.isSome_iff_exists.mp h).elim fun u q=>b5 q (fun k w e q=>hH q (fun i j M O _=>⟨i,j,by(refine B (EP e) ?_;refine B (jK M) ?_;refine B (jK O) ?_;rfl)⟩) Z) Z
noncomputable def pairsOf:List H->Option (List (al×H))
 |[]=>some []
 |x::r=>ob (yL x) fun k v=>fn (gf k) (pairsOf r) fun k t=>some ((k,v)::t)
noncomputable def th:List H->Option (List Int)
 |[]=>some []
 |x::r=>fn (fY x) (th r) fun i t=>some (i::t)
noncomputable def mH (x:H):List H->Option Nat
 |[]=>none
 |y::r=>br (eO eK y x) fun b=>if b=true then some 0 else br (mH x r) fun n=>some (n+1)
noncomputable def pH:List Str->List H->Option (List (Str×H))
 |[],vs=>if vs.isEmpty=true then some [] else none
 |x::r,vs=>match vs with
  |[]=>none
  |v::t=>br (pH r t) fun l=>some ((x,v)::l)
noncomputable def we (v:H):Option Nat:=match v with
 |.am l=>some l.length
 |.aF l=>some l.length
 |.V l=>some l.length
 |_=>none
noncomputable def AV (v:H):Option aU:=match v with
 |.int i=>some (.U (.int i))
 |.bool b=>some (.U (.int (if b then 1 else 0)))
 |_=>none
noncomputable def qQ (l:List (al×H)):Option aU:=match ow l with
 |some ns=>some (.own (.am ((qE ns).map .int)))
 |none=>br (uW l) fun ns=>some (.own (.am ((xQ ns).map .str)))
@[elab_as_elim] theorem Mu {l:List (al×H)} {r:aU} {G:aU->Prop} (h:qQ l=some r) (k1:∀ns,ow l=some ns->G (.own (.am ((qE ns).map .int)))) (k2:∀ns,uW l=some ns->G (.own (.am ((xQ ns).map .str)))):G r:=by
 unfold qQ at h
 cases q:ow l with
 |some ns=>replace h:=q▸h;exact cF h (k1 ns q)
 |none=>replace h:=q▸h;exact bG h (fun ns e h=>cF h (k2 ns e)) Z
noncomputable def Ht (v:H):Option aU:=match v with
 |.V l=>if l.length<=a4 then some (.own (.V l)) else none
 |.am l=>if l.length<=a4 then br (pairsOf l) fun ps=>some (.own (.V (ps.foldl (fun d p=>cU p.1 p.2 d) []))) else none
 |_=>none
noncomputable def L2 (v:H):Option aU:=br (we v) fun n=>if n<=a4 then some (.U (.int n)) else none
noncomputable def Hy (v:H):Option aU:=br (fY v) fun i=>some (.U (.int (if i<0 then-i else i)))
noncomputable def P2 (v:H):Option aU:=br (qf v) fun l=>br (th l) fun ns=>some (.U (.int ns.sum))
noncomputable def Us (v:H):Option aU:=br (tg v) fun l=>if l.length<64 then qQ l else none
noncomputable def I8 (v:H):Option aU:=br (qf v) fun l=>if l.length<=a4 then some (.U (.aF l)) else none
noncomputable def Sn (f:Str) (v:H):Option aU:=if f=("dict":Str) then Ht v else none
noncomputable def Wt (f:Str) (v:H):Option aU:=if f=("tuple":Str) then I8 v else Sn f v
noncomputable def XQ (f:Str) (v:H):Option aU:=if f=("sorted":Str) then Us v else Wt f v
noncomputable def S7 (f:Str) (v:H):Option aU:=if f=("sum":Str) then P2 v else XQ f v
noncomputable def Kl (f:Str) (v:H):Option aU:=if f=("abs":Str) then Hy v else S7 f v
noncomputable def gC (f:Str) (v:H):Option aU:=if f=("len":Str) then L2 v else if f=("int":Str) then AV v else Kl f v
noncomputable def mn:List Str:=["len","int","abs","sum","sorted","tuple","dict"]
noncomputable def vP (vs:List H):Option H:=match vs with
 |[]=>none
 |v::t=>if t.isEmpty=true then some v else none
theorem xA {vs:List H} {v:H} (h:vP vs=some v):vs=[v]:=by
 cases vs with
 |nil=>exact Z h
 |cons a t=>cases t with
  |nil=>exact cF (show some a=some v from h) rfl
  |cons _ _=>exact Z h
noncomputable def Gh (l:List Expr):Option (Expr×Str):=match l with
 |[]=>none
 |e::t=>br (q6 t) fun n=>br (gT n) fun c=>some (e,c)
theorem Jl {l:List Expr} {e:Expr} {c:Str} (h:Gh l=some (e,c)):∃p,l=[e,.Name c p]:=by
 cases l with
 |nil=>exact Z h
 |cons a t=>exact bG h (fun n M h=>bG h (fun d O h=>b6 h ((n8 O).elim fun p ak=>⟨p,by(refine B (ty M) ?_;refine B ak ?_;rfl)⟩)) Z) Z
noncomputable def A3 (l:List H):Option (Int×Int):=match l with
 |[]=>none
 |a::t=>br (vP t) fun b=>fn (fY a) (fY b) fun i j=>some (i,j)
theorem IQ {l:List H} {i j:Int} (h:A3 l=some (i,j)):l=[.int i,.int j]:=by
 cases l with
 |nil=>exact Z h
 |cons a t=>exact bG h (fun b M h=>hH h (fun x y O Y h=>b6 h (by(refine B (xA M) ?_;refine B (jK O) ?_;refine B (jK Y) ?_;rfl))) Z) Z
noncomputable def SU (J:Scope) (args:List Expr) (fs:X):Option (aU×X):=ob (Gh args) fun e c=>ob (R.ba e fs) fun r fs₁=>br (fs₁.cE r) fun v=>br (gB v c) fun b=>if J.names.lookup c=some .globalImplicit then some (.U (.bool b),fs₁) else none
noncomputable def Ia (args:List Expr) (fs:X):Option (aU×X):=ob (dk R args fs) fun vs fs₁=>ob (A3 vs) fun a b=>some (.U (.int (if b<a then b else a)),fs₁)
noncomputable def Vs (f:Str) (args:List Expr) (fs:X):Option (aU×X):=br (q6 args) fun e=>ob (R.ba e fs) fun r fs₁=>br (fs₁.cE r) fun v=>br (gC f v) fun r'=>some (r',fs₁)
noncomputable def Nc (args:List Expr) (fs:X):Option (aU×X):=if args.isEmpty=true then some (.U (.dS "Shelf" [("table",.per fs.per.length),("trailer",.per (fs.per.length+1))]),{fs with per:=fs.per++[.V [],.V []]}) else none
noncomputable def AP (f:Str) (names:List Str) (args:List Expr) (fs:X):Option (aU×X):=ob (dk R args fs) fun vs fs₁=>br (pH names vs) fun l=>some (.U (.dS f l),fs₁)
noncomputable def ES (f:Str) (args:List Expr) (fs:X):Option (aU×X):=if kl f=true then ob (dk R args fs) fun vs fs₁=>sE (C f vs fs₁.per) fun r per=>some (r,{fs₁ with per:=per}) else none
noncomputable def sM (f:Str) (args:List Expr) (fs:X):Option (aU×X):=match jl f with
 |some names=>AP R f names args fs
 |none=>ES C R f args fs
noncomputable def WC (f:Str) (args:List Expr) (fs:X):Option (aU×X):=if f=("Shelf":Str) then Nc args fs else sM C R f args fs
noncomputable def Fl (f:Str) (args:List Expr) (fs:X):Option (aU×X):=if mn.contains f=true then Vs R f args fs else WC C R f args fs
noncomputable def Tu (f:Str) (args:List Expr) (fs:X):Option (aU×X):=if f=("min":Str) then Ia R args fs else Fl C R f args fs
noncomputable def Md (J:Scope) (f:Str) (args:List Expr) (fs:X):Option (aU×X):=if f=("isinstance":Str) then SU R J args fs else Tu C R f args fs
noncomputable def qa (J:Scope) (f:Str) (args:List Expr) (fs:X):Option (aU×X):=if J.names.lookup f=some .globalImplicit then Md C R J f args fs else none
noncomputable def qd (d:Option H):Option (List (al×H)):=match d with
 |some (.V l)=>some l
 |_=>none
noncomputable def mj (d:Option H):Option (List H):=match d with
 |some (.am l)=>some l
 |_=>none
noncomputable def uY (r:aU):Option Str:=match r with
 |.var x=>some x
 |_=>none
theorem DK {d:Option H} {l:List (al×H)} (h:qd d=some l):d=some (.V l):=by
 cases d with
 |none=>cases h
 |some d=>cases d<;>cases h;rfl
theorem vj {d:Option H} {l:List H} (h:mj d=some l):d=some (.am l):=by
 cases d with
 |none=>cases h
 |some d=>cases d<;>cases h;rfl
theorem zb {r:aU} {x:Str} (h:uY r=some x):r=.var x:=by cases r<;>cases h;rfl
noncomputable def N6 (c:Str) (l:List (Str×H)) (m:Str) (r:aU) (args:List Expr) (fs:X):Option (aU×X):=
 if(iO m l).isNone=true then br (qK c m) fun f=>ob (fs.oB r) fun self j4=>ob (dk R args j4) fun vs fs₁=>sE (C f (self::vs) fs₁.per) fun r per=>some (r,{fs₁ with per:=per}) else none
noncomputable def y5 (vs:List H):Option (H×Option H):=match vs with
 |[]=>none
 |v::t=>match t with
  |[]=>some (v,none)
  |d::u=>if u.isEmpty=true then some (v,some d) else none
theorem DG {vs:List H} {v:H} {d:Option H} (h:y5 vs=some (v,d)):vs=v::d.toList:=by
 cases vs with
 |nil=>exact Z h
 |cons a t=>cases t with
  |nil=>exact b6 (show some (a,none)=some (v,d) from h) rfl
  |cons b u=>cases u with
   |nil=>exact b6 (show some (a,some b)=some (v,d) from h) rfl
   |cons _ _=>exact Z h
noncomputable def AQ (d:Option H):Bool:=match d with
 |some v=>fG v
 |none=>false
theorem SZ {d:Option H} (h:AQ d=true):d=some .none:=by
 cases d with
 |none=>exact lD h
 |some v=>(refine B (yr h) ?_;rfl)
noncomputable def Ag (r:aU) (args:List Expr) (fs:X):Option (aU×X):=ob (dk R args fs) fun vs fs₁=>ob (y5 vs) fun k d=>fn (qd (fs₁.cE r)) (gf k) fun l k=>some (.U ((a9 k l).getD (d.getD .none)),fs₁)
noncomputable def Cx (r:aU) (args:List Expr) (fs:X):Option (aU×X):=br (uY r) fun x=>ob (dk R args fs) fun vs fs₁=>ob (y5 vs) fun k d=>fn (qd (mT x fs₁)) (gf k) fun l k=>
 if(AQ d&&decide (l.length<=a4))=true then some (.U ((a9 k l).getD .none),{fs₁ with loc:=bY x (.aD (.V (hZ k l))) fs₁.loc}) else none
noncomputable def G4 (r:aU) (args:List Expr) (fs:X):Option (aU×X):=br (uY r) fun x=>ob (dk R args fs) fun vs fs₁=>fn (vP vs) (mj (mT x fs₁)) fun v l=>if l.length<=a4 then some (.U .none,{fs₁ with loc:=bY x (.aD (.am (l++[v]))) fs₁.loc}) else none
noncomputable def DN (r:aU) (args:List Expr) (fs:X):Option (aU×X):=br (uY r) fun x=>br (mj (mT x fs)) fun l=>br l.getLast? fun v=>if(args.isEmpty&&decide (l.length<=a4))=true then some (.U v,{fs with loc:=bY x (.aD (.am l.dropLast)) fs.loc}) else none
noncomputable def Bb (r:aU) (args:List Expr) (fs:X):Option (aU×X):=ob (dk R args fs) fun vs fs₁=>fn (vP vs) (mj (fs₁.cE r)) fun v l=>if(decide (l.length<=a4)&&l.all (fun y=>mB y&&(eO eK y v).isSome))=true then br (mH v l) fun(i:Nat)=>some (aU.U (.int (i:Int)),fs₁) else none
noncomputable def Oe (m:Str) (r:aU) (args:List Expr) (fs:X):Option (aU×X):=if m=("get":Str) then Ag R r args fs else if m=("pop":Str) then Cx R r args fs else none
noncomputable def Tc (m:Str) (r:aU) (args:List Expr) (fs:X):Option (aU×X):=if m=("append":Str) then G4 R r args fs else if m=("pop":Str) then DN r args fs else if m=("index":Str) then Bb R r args fs else none
noncomputable def PK (m:Str) (r:aU) (args:List Expr) (fs:X) (d:Option H):Option (aU×X):=br d fun d=>match d with
 |.dS c l=>N6 C R c l m r args fs
 |.V _=>Oe R m r args fs
 |.am _=>Tc R m r args fs
 |_=>none
noncomputable def iD (m:Str) (r:aU) (args:List Expr) (fs:X):Option (aU×X):=PK C R m r args fs (fs.cE r)
noncomputable def ni (e:Option Expr) (fs:X):Option (Option Int×X):=match e with
 |none=>some (none,fs)
 |some e=>pN (R.ba e fs) fun i fs₁=>some (some i,fs₁)
noncomputable def q9 (l:List H) (k:H):Option H:=br (fY k) fun i=>if i.natAbs<2^62 then br (ko i l.length) fun j=>l[j]? else none
noncomputable def ox (v:H) (i:H):Option H:=match v with
 |.am l=>q9 l i
 |.aF l=>q9 l i
 |.V l=>br (gf i) fun k=>a9 k l
 |_=>none
theorem Dz {l:List H} {k y:H} {G:Prop} (h:q9 l k=some y) (g:∀i j,k=.int i->i.natAbs<2^62->ko i l.length=some j->l[j]? =some y->G):G:=
 bG h (fun i e q=>cK q (fun M q=>bG q (fun j ar q=>g i j (jK e) M ar q) Z) Z) Z
noncomputable def VG (ifs:List Expr) (fs:X):Option (Bool×X):=match ifs with
 |[]=>some (true,fs)
 |c::t=>if t.isEmpty=true then R.dF c fs else none
noncomputable def gd (x:Str) (ifs:List Expr) (elt:Expr):List H->X->Option (List H×X)
 |[],fs=>some ([],fs)
 |v::t,fs=>ob (VG R ifs {fs with loc:=bY x (.U v) fs.loc}) fun b fs₁=>if b=true then ob (dY R elt fs₁) fun y fs₂=>ob (gd x ifs elt t fs₂) fun cj fs₃=>some (y::cj,fs₃) else gd x ifs elt t fs₁
noncomputable def mh (aW:Scope) (loc:List (Str×cf)):List (Str×cf):=loc.filterMap fun p=>if aW.names.lookup p.1=some .free then(match getL p.1 loc with
 |some (.U v)=>some (p.1,.U v)
 |_=>none) else none
noncomputable def Hb (J:Scope) (x:Str) (fs:X):Option (aU×X):=br (J.names.lookup x) fun k=>
 if k=.globalImplicit then br (GZ x) fun v=>some (.U v,fs) else if(x==("__debug__":Str))=true then none else br (getL x fs.loc) fun bh=>some (zQ x bh,fs)
noncomputable def z8 (gens:List Comprehension):Option (Str×Expr×List Expr):=match gens with
 |[]=>none
 |g::t=>br (gT g.target) fun x=>if(t.isEmpty&&decide (g.is_async=0))=true then some (x,g.iter,g.ifs) else none
theorem Eu {gens:List Comprehension} {x:Str} {iter:Expr} {ifs:List Expr} (h:z8 gens=some (x,iter,ifs)):∃p,gens=[⟨.Name x p,iter,ifs,0⟩]:=by
 cases gens with
 |nil=>exact Z h
 |cons g t=>
  obtain⟨a,b,c,d⟩:=g
  refine bG h (fun y M h=>cK h (fun O h=> ?_) Z) Z
  cases h
  exact(n8 M).elim fun p e=>⟨p,by(refine B (show a=_ from e) ?_;refine B (List.isEmpty_iff.mp (Bool.and_eq_true_iff.mp O).1) ?_;refine B (show d=0 from of_decide_eq_true (Bool.and_eq_true_iff.mp O).2) ?_;rfl)⟩
noncomputable def Vp (ca:Scope->bk) (J:Scope) (elt:Expr) (x:Str) (iter:Expr) (ifs:List Expr) (aW:Scope) (fs:X):Option (aU×X):=ob (hv (ca J) J iter fs) fun items fs₁=>if(decide (items.length<=a4)&&(aW.names.lookup x==some .local&&nZ J aW))=true then
    ob (gd (ca aW) x ifs elt items {fs₁ with loc:=mh aW fs₁.loc}) fun cj fs₂=>some (.own (.am cj),{fs₁ with per:=fs₂.per})
   else none
noncomputable def xc (ca:Scope->bk) (J:Scope) (elt:Expr) (gens:List Comprehension) (aW:Scope) (fs:X):Option (aU×X):=br (z8 gens) fun g=>Vp ca J elt g.1 g.2.1 g.2.2 aW fs
noncomputable def FZ (d:Option H):Option (Str×List (Str×H)):=br d fun v=>match v with
 |.dS c l=>some (c,l)
 |_=>none
theorem NJ {d:Option H} {c:Str} {l:List (Str×H)} (h:FZ d=some (c,l)):d=some (.dS c l):=
 bG h (fun v e h=>by
  cases v with
  |dS c' c8=>refine B e ?_;exact b6 (show some (c',c8)=some (c,l) from h) rfl
  |_=>exact Z h) Z
noncomputable def A0 (c:Const) (fs:X):Option (aU×X):=match c with
 |.none=>some (.U .none,fs)
 |.bool b=>some (.U (.bool b),fs)
 |.int i=>some (.U (.int i),fs)
 |.str s=>some (.U (.str s),fs)
 |_=>none
noncomputable def HW (bU:BoolOp) (vs:List Expr) (fs:X):Option (aU×X):=if zv bU=true then none else ob (nR R vs fs) fun b fs₁=>some (.U (.bool b),fs₁)
noncomputable def Ly (l:Expr) (bU:Operator) (r:Expr) (fs:X):Option (aU×X):=ob (R.ba l fs) fun a fs₁=>ob (R.ba r fs₁) fun b fs₂=>fn (fs₂.cE a) (fs₂.cE b) fun a b=>br (ke bU a b) fun c=>some (c,fs₂)
noncomputable def Aq (bU:UnaryOp) (x:Expr) (fs:X):Option (aU×X):=match bU with
 |.Not=>s2 (R.ba x fs) fun b fs₁=>some (.U (.bool (!b)),fs₁)
 |.USub=>pN (R.ba x fs) fun i fs₁=>some (.U (.int (-i)),fs₁)
 |.Invert=>none
 |.UAdd=>none
noncomputable def Pb (c a b:Expr) (fs:X):Option (aU×X):=ob (R.dF c fs) fun t fs₁=>if t=true then R.ba a fs₁ else R.ba b fs₁
noncomputable def Tk (ks:List (Option Expr)) (vs:List Expr) (fs:X):Option (aU×X):=ob (pa R ks vs fs) fun l fs₁=>if ks.length<=15 then some (.own (.V (l.foldl (fun d p=>cU p.1 p.2 d) [])),fs₁) else none
noncomputable def QV (es:List Expr) (fs:X):Option (aU×X):=ob (dk R es fs) fun vs fs₁=>if vs.length<=a4 then some (.own (.am vs),fs₁) else none
noncomputable def Ln (es:List Expr) (fs:X):Option (aU×X):=ob (dk R es fs) fun vs fs₁=>if vs.length<=a4 then some (.U (.aF vs),fs₁) else none
noncomputable def N5 (l:Expr) (e6:List CmpOp) (lL:List Expr) (fs:X):Option (aU×X):=ob (R.ba l fs) fun a fs₁=>ob (sB R a e6 lL fs₁) fun b fs₂=>some (.U (.bool b),fs₂)
noncomputable def M1 (e:Expr) (m:Str) (g3 pos:Pos) (args:List Expr) (fs:X):Option (aU×X):=if(kx e&&g3.endLine==pos.line&&args.length<30)=true then ob (R.ba e fs) fun r fs₁=>iD C R m r args fs₁ else none
noncomputable def TD (e:Expr) (a:Str) (fs:X):Option (aU×X):=ob (R.ba e fs) fun r fs₁=>ob (FZ (fs₁.cE r)) fun c l=>if(pQ c a&&kx e)=true then br (iO a l) fun v=>some (.U v,fs₁) else none
noncomputable def CK (e:Expr) (c2 aR:Option Expr) (fs:X):Option (aU×X):=ob (R.ba e fs) fun r fs₁=>ob (ni R c2 fs₁) fun a fs₂=>ob (ni R aR fs₂) fun b fs₃=>br (mj (fs₃.cE r)) fun l=>if l.length<=a4 then some (.own (.am (iW l a b)),fs₃) else none
noncomputable def EG (e i:Expr) (fs:X):Option (aU×X):=ob (R.ba e fs) fun r fs₁=>n1 (R.ba i fs₁) fun k fs₂=>br (fs₂.cE r) fun v=>br (ox v k) fun w=>some (.U w,fs₂)
noncomputable def oY (i:Expr):Option (Option Expr×Option Expr):=match i with
 |.Slice c2 aR ao _=>if ao.isNone=true then some (c2,aR) else none
 |_=>none
theorem Ix {i:Expr} {c2 aR:Option Expr} (h:oY i=some (c2,aR)):∃p,i=.Slice c2 aR none p:=by
 cases i with
 |Slice a b ao p=>cases ao with
  |none=>exact b6 (show some (a,b)=some (c2,aR) from h) ⟨p,rfl⟩
  |some _=>exact Z h
 |_=>exact Z h
theorem Og {i:Expr} (h:oY i=none) (l u:Option Expr) (p:Pos):i≠.Slice l u none p:=fun e=>ii ((congrArg oY e).symm.trans h)
noncomputable def yt (e i:Expr) (fs:X):Option (aU×X):=match oY i with
 |some s=>CK R e s.1 s.2 fs
 |none=>EG R e i fs
noncomputable def Vk (J:Scope) (f:Expr) (args:List Expr) (pos:Pos) (fs:X):Option (aU×X):=match f with
 |.Attribute e m h3=>M1 C R e m h3 pos args fs
 |.Name f _=>qa C R J f args fs
 |_=>none
noncomputable def iY (ca:Scope->bk) (J:Scope) (e:Expr) (fs:X):Option (aU×X):=match e with
 |.Constant c _ _=>A0 c fs
 |.Name x _=>Hb J x fs
 |.BoolOp bU vs _=>HW (ca J) bU vs fs
 |.BinOp l bU r _=>Ly (ca J) l bU r fs
 |.UnaryOp bU x _=>Aq (ca J) bU x fs
 |.IfExp c a b _=>Pb (ca J) c a b fs
 |.Dict ks vs _=>Tk (ca J) ks vs fs
 |.List es _=>QV (ca J) es fs
 |.Tuple es _ _=>Ln (ca J) es fs
 |.ListComp elt gens aW _=>xc ca J elt gens aW fs
 |.Compare l e6 lL _=>N5 (ca J) l e6 lL fs
 |.Call f args lR pos=>if lR.isEmpty=true then Vk C (ca J) J f args pos fs else none
 |.Attribute e a _=>TD (ca J) e a fs
 |.Subscript e i _=>yt (ca J) e i fs
 |_=>none
noncomputable def uC (R:bk) (e:Expr) (fs:X):Option (Bool×X):=ob (R.ba e fs) fun r fs₁=>br (fs₁.cE r) fun v=>br (Bc v) fun b=>some (b,fs₁)
noncomputable def OM (R:bk) (bU:UnaryOp) (x e:Expr) (fs:X):Option (Bool×X):=match bU with
 |.Not=>ob (R.dF x fs) fun b fs₁=>some (!b,fs₁)
 |_=>uC R e fs
noncomputable def rs (ca:Scope->bk) (J:Scope) (e:Expr) (fs:X):Option (Bool×X):=match e with
 |.UnaryOp bU x _=>OM (ca J) bU x e fs
 |.BoolOp bU vs _=>xo (ca J) bU vs fs
 |.Compare l e6 lL _=>ob ((ca J).ba l fs) fun a fs₁=>sB (ca J) a e6 lL fs₁
 |.IfExp ..=>none
 |e=>uC (ca J) e fs
noncomputable def Bh (k:NameKind):Option Bool:=match k with
 |.local=>some false
 |.cell=>some true
 |_=>none
theorem RU {k:NameKind} {c:Bool} (h:Bh k=some c):k=(if c=true then .cell else .local):=by cases k<;>first|exact Z h|exact cF h rfl
noncomputable def yH (c:Bool) (x:Str) (r:aU) (fs:X):Option X:=match r with
 |.U v=>some {fs with loc:=bY x (.U v) fs.loc}
 |.own v=>if c=true then some {loc:=bY x (.U (.per fs.per.length)) fs.loc,per:=fs.per++[v]} else some {fs with loc:=bY x (.aD v) fs.loc}
 |.var _=>none
noncomputable def eQ (J:Scope) (x:Str) (r:aU) (fs:X):Option X:=br (J.names.lookup x) fun k=>br (Bh k) fun c=>yH c x r fs
theorem xB {J:Scope} {x:Str} {r:aU} {fs fs':X} {G:Prop} (h:eQ J x r fs=some fs') (k1:J.names.lookup x=some .local->yH false x r fs=some fs'->G) (k2:J.names.lookup x=some .cell->yH true x r fs=some fs'->G):G:=
 bG h (fun k ag h=>bG h (fun c hc h=>by
  replace ag:=(RU hc)▸ag
  cases c with
  |true=>exact k2 ag h
  |false=>exact k1 ag h) Z) Z
noncomputable def hJ (J:Scope):List Expr->List H->X->Option X
 |[],vs,fs=>if vs.isEmpty=true then some fs else none
 |e::r,vs,fs=>match vs with
  |[]=>none
  |v::t=>br (gT e) fun x=>br (eQ J x (.U v) fs) fun fs₁=>hJ J r t fs₁
noncomputable def tz:Expr->Bool
 |.Tuple vs _ _=> !vs.all (constantsAlone 8)
 |_=>true
noncomputable def vy (ts:List Expr):Bool:=ts.all (fun t=>(gT t).isSome)&&decide (ts.filterMap gT).Nodup
noncomputable def Ch (v:H):Option Nat:=match v with
 |.per k=>some k
 |_=>none
theorem P6 {v:H} {k:Nat} (h:Ch v=some k):v=.per k:=by cases v<;>first|exact Z h|exact cF h rfl
noncomputable def A9 (base:aU) (fs:X):Option (H×(H->X)):=match base with
 |.var x=>br (mT x fs) fun v=>some (v,fun w=>{fs with loc:=bY x (.aD w) fs.loc})
 |.U v=>br (Ch v) fun k=>br fs.per[k]? fun v=>some (v,fun w=>{fs with per:=fs.per.set k w})
 |.own _=>none
noncomputable def Up (l:List (al×H)) (k v:H) (jx:H->X):Option X:=br (gf k) fun k=>if l.length<=a4 then some (jx (.V (cU k v l))) else none
noncomputable def TV (l:List H) (k v:H) (jx:H->X):Option X:=br (fY k) fun i=>if(decide (0<=i)&&(decide (i<1048576)&&decide (i.toNat<l.length)))=true then some (jx (.am (l.set i.toNat v))) else none
noncomputable def qs (base:aU) (k:H) (v:H) (fs:X):Option X:=ob (A9 base fs) fun c jx=>match c with
 |.V l=>Up l k v jx
 |.am l=>TV l k v jx
 |_=>none
noncomputable def cO:List Stmt->X->Option (bE×X)
 |[],fs=>some (.next,fs)
 |s::r,fs=>ob (R.de s fs) fun ai fs₁=>match ai with
  |.next=>cO r fs₁
  |.brk=>some (.brk,fs₁)
  |.ret v=>some (.ret v,fs₁)
  |.dC=>some (.dC,fs₁)
noncomputable def py (ai:bE) (fs:X) (k:X->Option (bE×X)):Option (bE×X):=match ai with
 |.next=>k fs
 |.brk=>some (.next,fs)
 |.ret r=>some (.ret r,fs)
 |.dC=>none
noncomputable def gz (Gs:Expr) (body:List Stmt):Nat->X->Option (bE×X)
 |0,_=>none
 |n+1,fs=>ob (R.dF Gs fs) fun t fs₁=>if t=true then ob (cO R body fs₁) fun ai fs₂=>py ai fs₂ (gz Gs body n) else some (.next,fs₁)
noncomputable def f5 (J:Scope) (x:Str) (body:List Stmt):List H->X->Option (bE×X)
 |[],fs=>some (.next,fs)
 |v::t,fs=>br (eQ J x (.U v) fs) fun j4=>ob (cO R body j4) fun ai fs₁=>py ai fs₁ (f5 J x body t)
noncomputable def mc:Nat:=1000000
noncomputable def qG (x:Option X):Option (bE×X):=br x fun fs=>some (.next,fs)
@[elab_as_elim] theorem pp {x:Option X} {ai:bE} {fs:X} {G:bE->Prop} (h:qG x=some (ai,fs)) (k:x=some fs->G .next):G ai:=bG h (fun f e h=>by cases h;exact k e) Z
noncomputable def Dr (J:Scope) (x:Str) (r:aU) (fs:X):Option (bE×X):=match r with
 |.U v=>qG (eQ J x (.U v) fs)
 |.own v=>qG (eQ J x (.own v) fs)
 |.var y=>ob (fs.oB (.var y)) fun v fs₂=>qG (eQ J x (.U v) fs₂)
noncomputable def H8 (J:Scope) (ts:List Expr) (e:Expr) (fs:X):Option (bE×X):=if(tz e&&vy ts)=true then zX (R.ba e fs) fun vs fs₁=>if vs.length<=a4 then qG (hJ J ts vs fs₁) else none else none
noncomputable def Qw (b i e:Expr) (fs:X):Option (bE×X):=ob (dY R e fs) fun v fs₁=>ob (R.ba b fs₁) fun r fs₂=>n1 (R.ba i fs₂) fun k fs₃=>qG (qs r k v fs₃)
noncomputable def Th (J:Scope) (t e:Expr) (fs:X):Option (bE×X):=match t with
 |.Name x _=>ob (R.ba e fs) fun r fs₁=>Dr J x r fs₁
 |.Tuple ts _ _=>H8 R J ts e fs
 |.Subscript b i _=>Qw R b i e fs
 |_=>none
noncomputable def B9 {α:Type u} (l:List α):Option α:=match l with
 |[]=>none
 |a::t=>if t.isEmpty=true then some a else none
theorem VU {α:Type u} {l:List α} {a:α} (h:B9 l=some a):l=[a]:=by
 cases l with
 |nil=>exact Z h
 |cons b t=>cases t with
  |nil=>exact cF (show some b=some a from h) rfl
  |cons _ _=>exact Z h
noncomputable def Ay (ai:bE) (fs:X):Option (bE×X):=match ai with
 |.ret _=>some (.next,fs)
 |.dC=>some (.dC,fs)
 |.next=>none
 |.brk=>none
noncomputable def IV (J:Scope) (f:Str) (args:List Expr) (fs:X):Option (bE×X):=if(decide (J.names.lookup f=some .globalImplicit)&&kl f)=true then ob (dk R args fs) fun vs fs₁=>ob (C f vs fs₁.per) fun ai per=>Ay ai {fs₁ with per:=per} else none
noncomputable def Xh (J:Scope) (f:Expr) (args:List Expr) (p:Pos) (fs:X):Option (bE×X):=match f with
 |.Name f _=>IV C R J f args fs
 |.Attribute o m g3=>ob (R.ba (.Call (.Attribute o m g3) args [] p) fs) fun _ fs₁=>some (.next,fs₁)
 |_=>none
noncomputable def Ta (J:Scope) (e:Expr) (fs:X):Option (bE×X):=match e with
 |.Call f args lR p=>if lR.isEmpty=true then Xh C R J f args p fs else none
 |_=>none
noncomputable def Mb (b:Bool) (J:Scope) (e d:Option Expr) (fs:X):Option (bE×X):=br e fun e=>ob (zH e) fun f args=>br (gT f) fun c=>br (q6 args) fun a=>
 if(isStr a&&(d.isNone&&(b&&(decide (c=("TreeFault":Str))&&J.names.lookup c==some .globalImplicit))))=true then some (.dC,fs) else none
noncomputable def Gr (ai:bE) (fs:X) (h:X->Option (bE×X)):Option (bE×X):=match ai with
 |.dC=>sE (h fs) fun r fs₂=>some (.ret r,fs₂)
 |.next=>some (.next,fs)
 |.brk=>some (.brk,fs)
 |.ret r=>some (.ret r,fs)
noncomputable def PR (Rh:Option (Scope->bk)) (J:Scope) (body:List Stmt) (hs:List ExceptHandler) (gG cM:List Stmt) (fs:X):Option (bE×X):=br Rh fun Rh=>ob (Gn hs gG cM) fun c ah=>
 if(decide (c=("TreeFault":Str))&&(J.names.lookup c==some .globalImplicit&&(J.names.all (fun p=>p.2 !=.free)&& !ah.isEmpty)))=true then ob (cO R body fs) fun ai fs₁=>Gr ai fs₁ (cO (Rh J) ah) else none
noncomputable def J6 (e:Option Expr) (fs:X):Option (bE×X):=br e fun e=>ob (R.ba e fs) fun r fs₁=>ob (fs₁.take r) fun r fs₂=>some (.ret r,fs₂)
noncomputable def Nk (c:Expr) (a b:List Stmt) (fs:X):Option (bE×X):=ob (R.dF c fs) fun t fs₁=>if t=true then cO R a fs₁ else cO R b fs₁
noncomputable def Ij (J:Scope) (t iter:Expr) (body gG:List Stmt) (fs:X):Option (bE×X):=br (gT t) fun x=>if gG.isEmpty=true then ob (hv R J iter fs) fun items fs₁=>f5 R J x body items fs₁ else none
noncomputable def qt (ca:Scope->bk) (Rh:Option (Scope->bk)) (J:Scope) (s:Stmt) (fs:X):Option (bE×X):=match s with
 |.Return e _=>J6 (ca J) e fs
 |.Break _=>some (.brk,fs)
 |.If c a b _=>Nk (ca J) c a b fs
 |.While c body gG _=>if gG.isEmpty=true then gz (ca J) c body mc fs else none
 |.For t iter body gG _=>Ij (ca J) J t iter body gG fs
 |.Assign ts e _=>br (B9 ts) fun t=>Th (ca J) J t e fs
 |.Expr e _=>Ta C (ca J) J e fs
 |.Raise e d _=>Mb Rh.isSome J e d fs
 |.Try body hs gG cM _=>PR (ca J) Rh J body hs gG cM fs
 |_=>none
end
noncomputable def aJ:Bool->cs->cs->Nat->Scope->bk
 |_,_,_,0,_=>⟨fun _ _=>none,fun _ _=>none,fun _ _=>none⟩
 |b,C,CQ,n+1,J=>⟨iY C (aJ b C CQ n) J,rs (aJ b C CQ n) J,qt C (aJ b C CQ n) (if b then some (aJ false CQ CQ n) else none) J⟩
noncomputable def params (ao:Stmt):List Str:=(t6 ao).args.map (·.arg)
noncomputable def jq:List Str->List H->Option (List (Str×cf))
 |[],vs=>if vs.isEmpty=true then some [] else none
 |x::r,vs=>match vs with
  |[]=>none
  |v::t=>br (jq r t) fun l=>some ((x,.U v)::l)
noncomputable def JK (ai:bE) (fs:X):Option (bE×List H):=match ai with
 |.ret r=>some (.ret r,fs.per)
 |.next=>some (.ret (.U .none),fs.per)
 |.dC=>some (.dC,fs.per)
 |.brk=>none
noncomputable def li:Nat:=40
noncomputable def jR (b:Bool) (C CQ:cs) (ao:Stmt) (args per:List H):Option (bE×List H):=
 br (jq (params ao) args) fun loc=>ob (cO (aJ b C CQ li (bN ao)) (g0 ao) ⟨loc,per⟩) JK
noncomputable def aH (b:Bool):Nat->cs
 |0=>fun _ _ _=>none
 |k+1=>fun f args per=>br (ds f) fun ao=>jR b (aH b k) (aH false k) ao args per
end Mine
end
section
open PySem PySem.W PySem.Calls PyProof.Rows
namespace Mine
noncomputable def iy:al->Value->Bool
 |.int i,v=>Value.isInt i v
 |.str s,v=>Value.isStrOf s v
noncomputable def keyHash (w:World):al->Int
 |.int i=>hashInt i
 |.str s=>hashStr w s
theorem jN {i:Int} {v:Value} (h:iy (.int i) v=true):∃t,v=.int i t:=Value.isInt_shape h
theorem jI {x:Str} {v:Value} (h:iy (.str x) v=true):∃t,v=.str x t:=Value.isStrOf_shape h
theorem X8 (i:Int) (t:Tok):iy (.int i) (.int i t)=true:=by simp [iy,Value.isInt]
theorem E8 (x:Str) (t:Tok):iy (.str x) (.str x t)=true:=by simp [iy,Value.isStrOf]
section
variable{prog:Program} {w:World} {A:Around} {E:Value->Shared->Prop} {s:Shared}
theorem M6 {a:Int} {b:Str} {t u:Tok} {Q:Bool->Shared->Prop} (h:Q false s):wpAny (model prog w) A (eqBool (.int a t) (.str b u)) Q E s:=by
 unfold eqBool
 refine wpAny_holding ?_
 refine B (if_neg (show¬((Value.int a t==Value.str b u)=true) from by simp)) ?_
 exact wpAny_bind (EqMixed.eq_int_str (wpAny_truthy_bool h))
theorem Lw {a:Str} {b:Int} {t u:Tok} {Q:Bool->Shared->Prop} (h:Q false s):wpAny (model prog w) A (eqBool (.str a t) (.int b u)) Q E s:=by
 unfold eqBool
 refine wpAny_holding ?_
 refine B (if_neg (show¬((Value.str a t==Value.int b u)=true) from by simp)) ?_
 exact wpAny_bind (EqMixed.eq_str_int (wpAny_truthy_bool h))
end
noncomputable def Q6 (prog:Program) (w:World):KeyKind prog w al where
 is:=iy
 hash:=keyHash w
 inj:=fun v a b bA ah=>by
  cases a with
  |int i=>
   refine bS (jN bA) ?_;intro t u;subst u
   cases b with
   |int j=>obtain⟨u,b2⟩:=jN ah;injection b2 with h;(refine B h ?_;rfl)
   |str y=>obtain⟨u,b2⟩:=jI ah;cases b2
  |str x=>
   refine bS (jI bA) ?_;intro t u;subst u
   cases b with
   |int j=>obtain⟨u,b2⟩:=jN ah;cases b2
   |str y=>obtain⟨u,b2⟩:=jI ah;injection b2 with h;(refine B h ?_;rfl)
 byValue:=fun k v h=>by
  cases k with
  |int i=>obtain⟨t,rfl⟩:=jN h;rfl
  |str x=>obtain⟨t,rfl⟩:=jI h;rfl
 pyHash:=fun{A E s k v Q} ay h=>by
  cases k with
  |int i=>obtain⟨t,rfl⟩:=jN ay;exact wpAny_pyHash_int h
  |str x=>obtain⟨t,rfl⟩:=jI ay;exact wpAny_pyHash_str h
 eqBool:=fun{A E s a b u v Q} b2 ay h=>by
  cases a with
  |int i=>
   refine bS (jN b2) ?_;intro t u;subst u
   cases b with
   |int j=>obtain⟨dW,rfl⟩:=jN ay;exact wpAny_eqBool_int (by refine B (show(i==j)=decide (al.int i=al.int j) from by(by_cases wV:i=j<;>simp [wV])) ?_;exact h)
   |str y=>obtain⟨dW,rfl⟩:=jI ay;refine M6 ?_;simpa using h
  |str x=>
   refine bS (jI b2) ?_;intro t u;subst u
   cases b with
   |int j=>obtain⟨dW,rfl⟩:=jN ay;refine Lw ?_;simpa using h
   |str y=>obtain⟨dW,rfl⟩:=jI ay;exact wpAny_eqBool_str (by refine B (show decide (x=y)=decide (al.str x=al.str y) from by(by_cases wV:x=y<;>simp [wV])) ?_;exact h)
 «strs»:=fun k x t v h=>by
  cases k with
  |int i=>obtain⟨u,b2⟩:=jN h;cases b2
  |str y=>
   refine bS (jI h) ?_;intro u b2
   injection b2 with ae
   subst ae
   cases v<;>rfl
inductive cV where
 |free|aV|be (ob:Obj)|per (k:Nat)|aD (x:Str)|frame|cell|stack
noncomputable abbrev a5:=Addr->cV
noncomputable def cV.kT:cV->Nat
 |.free=>0
 |.aV=>1
 |.be _=>2
 |.per _=>3
 |.aD _=>4
 |.frame=>5
 |.cell=>6
 |.stack=>7
theorem bI {x r r':cV} (e:x=r) (h:(r.kT==r'.kT)=false:=by rfl):x≠r':=fun q=>by
 (replace h:=(Eq.symm e)▸h;replace h:=q▸h;rw [beq_self_eq_true] at h);exact Bool.noConfusion h
theorem d6 {ρ:a5} {a b:Addr} {r r':cV} (e:ρ b=r) (hd:ρ a=r') (h:(r.kT==r'.kT)=false:=by rfl):b≠a:=fun q=>by
 (replace e:=q▸e;replace e:=hd▸e);(replace h:=e▸h;rw [beq_self_eq_true] at h);exact Bool.noConfusion h
noncomputable abbrev kk (w:World):KeyKind aw w al:=Q6 aw w
noncomputable abbrev mD (vs:List Value) (n:Nat):Obj:={cls:=.type "list",dict:=none,data:=.seq (Array.mk vs) n,slots:= #[]}
noncomputable abbrev qI (vs:List Value) (n:Nat):Obj:={cls:=.type "tuple",dict:=none,data:=.seq (Array.mk vs) n,slots:= #[]}
noncomputable abbrev cn:=Str->Option Addr
section
variable(w:World) (CM:cn) (ρ:a5)
mutual
noncomputable def bX:H->Value->Prop
 |.none,v=>v=.none
 |.bool b,v=>v=.bool b
 |.int i,v=>∃t,v=.int i t
 |.str x,v=>∃t,v=.str x t
 |.aF l,v=>∃a vs n,v=.ref a/\ρ a=.be (qI vs n)/\a8 l vs
 |.am l,v=>∃a vs n,v=.ref a/\ρ a=.be (mD vs n)/\a8 l vs
 |.V l,v=>∃a ob es cr aS,v=.ref a/\(a==sysModules)=false/\ρ a=.be ob/\ob.ExactDict/\ob.data=.dict es cr/\KeysOf (kk w) es/\Pairs (kk w) es.toList aS/\(aS.map (·.1)).Nodup/\dV l aS
 |.dS c fs,v=>∃a d hh C,v=.ref a/\CM c=some C/\ρ a=.be (instObj C d)/\ρ d=.be hh/\(∀n,iO n fs=none->lookIn n hh=some none)/\kr fs (fun n=>(lookIn n hh).join)
 |.per k,v=>∃a,v=.ref a/\ρ a=.per k
noncomputable def a8:List H->List Value->Prop
 |[],vs=>vs=[]
 |x::r,vs=>∃v t,vs=v::t/\bX x v/\a8 r t
noncomputable def dV:List (al×H)->List (al×Value)->Prop
 |[],aS=>aS=[]
 |(k,x)::r,aS=>∃v t,aS=(k,v)::t/\bX x v/\dV r t
noncomputable def kr:List (Str×H)->(Str->Option Value)->Prop
 |[],_=>True
 |(n,x)::r,m=>(∃v,m n=some v/\bX x v)/\kr r m
end
end
mutual
theorem bX.bt {w:World} {CM:cn} {ρ ρ':a5} (aB:∀a ob,ρ a=.be ob->ρ' a=.be ob) (an:∀a k,ρ a=.per k->ρ' a=.per k):∀{x:H} {v:Value},bX w CM ρ x v->bX w CM ρ' x v
 |.none,_,h=>h
 |.bool _,_,h=>h
 |.int _,_,h=>h
 |.str _,_,h=>h
 |.aF _,_,⟨a,vs,n,M,O,Y⟩=>⟨a,vs,n,M,aB _ _ O,a8.bt aB an Y⟩
 |.am _,_,⟨a,vs,n,M,O,Y⟩=>⟨a,vs,n,M,aB _ _ O,a8.bt aB an Y⟩
 |.V _,_,⟨a,ob,es,cr,aS,M,aL,O,Y,aC,bR,dK,f3,o7⟩=>⟨a,ob,es,cr,aS,M,aL,aB _ _ O,Y,aC,bR,dK,f3,dV.bt aB an o7⟩
 |.dS _ _,_,⟨a,d,hh,C,M,O,Y,aC,bR,dK⟩=>⟨a,d,hh,C,M,O,aB _ _ Y,aB _ _ aC,bR,kr.bt aB an dK⟩
 |.per _,_,⟨a,M,O⟩=>⟨a,M,an _ _ O⟩
theorem a8.bt {w:World} {CM:cn} {ρ ρ':a5} (aB:∀a ob,ρ a=.be ob->ρ' a=.be ob) (an:∀a k,ρ a=.per k->ρ' a=.per k):∀{l:List H} {vs:List Value},a8 w CM ρ l vs->a8 w CM ρ' l vs
 |[],_,h=>h
 |_::_,_,⟨v,t,M,O,Y⟩=>⟨v,t,M,bX.bt aB an O,a8.bt aB an Y⟩
theorem dV.bt {w:World} {CM:cn} {ρ ρ':a5} (aB:∀a ob,ρ a=.be ob->ρ' a=.be ob) (an:∀a k,ρ a=.per k->ρ' a=.per k):∀{l:List (al×H)} {vs:List (al×Value)},dV w CM ρ l vs->dV w CM ρ' l vs
 |[],_,h=>h
 |(_,_)::_,_,⟨v,t,M,O,Y⟩=>⟨v,t,M,bX.bt aB an O,dV.bt aB an Y⟩
theorem kr.bt {w:World} {CM:cn} {ρ ρ':a5} (aB:∀a ob,ρ a=.be ob->ρ' a=.be ob) (an:∀a k,ρ a=.per k->ρ' a=.per k):∀{l:List (Str×H)} {m:Str->Option Value},kr w CM ρ l m->kr w CM ρ' l m
 |[],_,_=>trivial
 |(_,_)::_,_,⟨⟨v,M,O⟩,Y⟩=>⟨⟨v,M,bX.bt aB an O⟩,kr.bt aB an Y⟩
end
end Mine
end
section
open PySem PySem.W PySem.Calls PyProof.Rows
namespace Mine
section
variable(w:World) (CM:cn)
noncomputable def dN (ρ:a5) (h:Heap) (a:Addr):H->Prop
 |.am l=>∃vs n,h.get? a=some (mD vs n)/\a8 w CM ρ l vs
 |.V l=>∃ob es cr aS,(a==sysModules)=false/\h.get? a=some ob/\ob.ExactDict/\ob.data=.dict es cr/\KeysOf (kk w) es/\Pairs (kk w) es.toList aS/\(aS.map (·.1)).Nodup/\dV w CM ρ l aS
 |_=>False
structure Top where
 f:Frag
 eD:Option (Addr×Obj)
 frames:List Addr
noncomputable def e3:cV->Prop
 |.frame=>True
 |.stack=>True
 |_=>False
noncomputable def DM (o:Obj):Prop:=∀vs,o.data≠.fields vs
structure cH (K:Top) (ρ:a5) (s:Shared) (per:List H):Prop where
 fU:∀a x,K.f.lookup a=some x->ρ a=.be x
 fz:∀a x,K.eD=some (a,x)->ρ a=.be x
 fq:∀a,a∈K.frames->e3 (ρ a)/\∃o,s.heap.get? a=some o/\DM o
 bK:∀a ob,ρ a=.be ob->s.heap.get? a=some ob
 c1:∀a,ρ a=.free↔s.heap.get? a=none
 gq:∀k,k<per.length->∃a,ρ a=.per k
 fS:∀a k,ρ a=.per k->∃x,per[k]? =some x/\dN w CM ρ s.heap a x
 inj:∀a b k,ρ a=.per k->ρ b=.per k->a=b
noncomputable def iH (ρ:a5):Prop:=∀a,(∀x,ρ a≠.aD x)/\ρ a≠.frame/\ρ a≠.cell
noncomputable def ui (ρ:a5) (x:Str):cf->Value->Prop
 |.U v,val=>bX w CM ρ v val
 |.aD _,val=>∃a,val=.ref a/\ρ a=.aD x
noncomputable def e2 (env:Env) (J:Scope) (h:Heap) (x:Str) (v:Value):Prop:=
 (J.names.lookup x=some .local/\env.kindOf x=some .local/\∃m,h.Ns env.locals m/\m x=some v)\/
 ((J.names.lookup x=some .cell\/J.names.lookup x=some .free)/\env.kindOf x=some .cell/\∃c,env.cells.lookup x=some c/\h.IsCell c (some v))
structure nP (env:Env) (J:Scope):Prop where
 kind:env.scope.kind=.function
 uM:env.globals=mainGlobals
 lr:env.builtins=builtinsNs
 loc:∀x,J.names.lookup x=some .local->env.kindOf x=some .local
 fc:∀x,J.names.lookup x=some .cell->env.kindOf x=some .cell
 c1:∀x,J.names.lookup x=some .free->env.kindOf x=some .cell
 imp:∀x,J.names.lookup x=some .globalImplicit->env.kindOf x=some .globalImplicit
structure aK (K:Top) (env:Env) (J:Scope) (ρ:a5) (s:Shared) (fs:X):Prop where
 base:cH w CM K ρ s fs.per
 c0:nP env J
 cJ:ρ env.locals=.frame
 fC:∃m,s.heap.Ns env.locals m
 eW:∀x bh,getL x fs.loc=some bh->∃v,e2 env J s.heap x v/\ui w CM ρ x bh v
 cells:∀x,J.names.lookup x=some .cell->∃c v,env.cells.lookup x=some c/\ρ c=.cell/\c≠env.locals/\s.heap.IsCell c v
 frees:∀x c,J.names.lookup x=some .free->env.cells.lookup x=some c->ρ c=.aV
 apart:∀x y c,env.cells.lookup x=some c->env.cells.lookup y=some c->x=y
 e0:∀a x,ρ a=.aD x->J.names.lookup x=some .local/\∃c,getL x fs.loc=some (.aD c)/\dN w CM ρ s.heap a c
 fi:∀a b x,ρ a=.aD x->ρ b=.aD x->a=b
end
structure a2 (ρ:a5) (s:Shared) (ρ':a5) (az:Shared):Prop where
 bK:∀a ob,ρ a=.be ob->ρ' a=.be ob
 aV:∀a,ρ a=.aV->ρ' a=.aV
 per:∀a k,ρ a=.per k->ρ' a=.per k
 cJ:∀a,ρ a=.frame->ρ' a=.frame
 fc:∀a,ρ a=.cell->ρ' a=.cell
 stk:∀a,ρ a=.stack->ρ' a=.stack
 aD:∀a x,ρ a=.aD x->ρ' a=.aD x\/ρ' a=.aV\/∃ob,ρ' a=.be ob
 keep:∀a ob,ρ a=.aV->s.heap.get? a=some ob->az.heap.get? a=some ob
 hV:∀a ob,ρ a=.stack->s.heap.get? a=some ob->∃f0,az.heap.get? a=some {ob with slots:=f0}
 ao:∃h tk,az={s with heap:=h,toks:=tk}
structure cb (ρ:a5) (loc:List (Str×cf)) (ρ':a5) (GA:List (Str×cf)):Prop where
 U:∀x v,getL x loc=some (.U v)->getL x GA=some (.U v)
 aD:∀a x,ρ a=.aD x->ρ' a=.aD x\/∃v,getL x GA=some (.U v)
 gl:∀a x,ρ' a=.aD x->ρ a=.aD x
theorem a2.refl (ρ:a5) (s:Shared):a2 ρ s ρ s:=
 ⟨fun _ _ h=>h,fun _ h=>h,fun _ _ h=>h,fun _ h=>h,fun _ h=>h,fun _ h=>h,fun _ _ h=>.inl h,fun _ _ _ h=>h,fun _ _ _ h=>⟨_,h⟩,⟨_,_,rfl⟩⟩
theorem a2.trans {ρ aN b8:a5} {s aj ct:Shared} (x:a2 ρ s aN aj) (y:a2 aN aj b8 ct):a2 ρ s b8 ct where
 bK:=fun a ob h=>y.bK a ob (x.bK a ob h)
 aV:=fun a h=>y.aV a (x.aV a h)
 per:=fun a k h=>y.per a k (x.per a k h)
 cJ:=fun a h=>y.cJ a (x.cJ a h)
 fc:=fun a h=>y.fc a (x.fc a h)
 stk:=fun a h=>y.stk a (x.stk a h)
 aD:=fun a n h=>by
  rcases x.aD a n h with h|h|⟨ob,h⟩
  ·exact y.aD a n h
  ·exact .inr (.inl (y.aV a h))
  ·exact .inr (.inr ⟨ob,y.bK a ob h⟩)
 keep:=fun a ob h e=>y.keep a ob (x.aV a h) (x.keep a ob h e)
 hV:=fun a ob h e=>let⟨_,Yd⟩:=x.hV a ob h e;let⟨f0,XF⟩:=y.hV a _ (x.stk a h) Yd;⟨f0,XF⟩
 ao:=by
  refine i9 x.ao ?_;intro h tk u;subst u
  refine i9 y.ao ?_;intro h' lj u;subst u
  exact⟨h',lj,rfl⟩
theorem cb.refl (ρ:a5) (l:List (Str×cf)):cb ρ l ρ l:=⟨fun _ _ h=>h,fun _ _ h=>.inl h,fun _ _ h=>h⟩
theorem cb.trans {ρ aN b8:a5} {l l₁ l₂:List (Str×cf)} (x:cb ρ l aN l₁) (y:cb aN l₁ b8 l₂):cb ρ l b8 l₂ where
 U:=fun n v h=>y.U n v (x.U n v h)
 aD:=fun a n h=>by
  rcases x.aD a n h with h|⟨v,h⟩
  ·exact y.aD a n h
  ·exact .inr ⟨v,y.U n v h⟩
 gl:=fun a n h=>x.gl a n (y.gl a n h)
section
variable{w:World} {CM:cn} {K:Top} {env:Env} {J:Scope} {ρ ρ₀ ρ':a5} {s c9 az:Shared} {fs:X} {h h':Heap}
theorem dN.bt {a:Addr} {x:H} (aB:∀a ob,ρ a=.be ob->ρ' a=.be ob) (an:∀a k,ρ a=.per k->ρ' a=.per k) (ag:∀ob,h.get? a=some ob->h'.get? a=some ob) (q:dN w CM ρ h a x):dN w CM ρ' h' a x:=by
 cases x with
 |am l=>obtain⟨vs,n,M,O⟩:=q;exact⟨vs,n,ag _ M,O.bt aB an⟩
 |V l=>obtain⟨ob,es,cr,aS,aL,M,O,Y,aC,bR,dK,f3⟩:=q;exact⟨ob,es,cr,aS,aL,ag _ M,O,Y,aC,bR,dK,f3.bt aB an⟩
 |_=>exact q.elim
theorem dN.e7 {a:Addr} {x:H} (q:dN w CM ρ h a x):∃ob,h.get? a=some ob:=by
 cases x with
 |am l=>obtain⟨vs,n,M,_⟩:=q;exact⟨_,M⟩
 |V l=>obtain⟨ob,es,cr,aS,aL,M,_⟩:=q;exact⟨ob,M⟩
 |_=>exact q.elim
theorem dN.ga {a:Addr} {x:H} {ob:Obj} (q:dN w CM ρ h a x) (e:h.get? a=some ob) (aB:∀a ob,ρ a=.be ob->ρ' a=.be ob) (an:∀a k,ρ a=.per k->ρ' a=.per k) (bA:ρ' a=.be ob):bX w CM ρ' x (.ref a):=by
 cases x with
 |am l=>obtain⟨vs,n,M,O⟩:=q;replace e:=M▸e;cases e;exact⟨a,vs,n,rfl,bA,O.bt aB an⟩
 |V l=>obtain⟨hC,es,cr,aS,aL,M,O,Y,aC,bR,dK,f3⟩:=q;replace e:=M▸e;cases e;exact⟨a,ob,es,cr,aS,rfl,aL,bA,O,Y,aC,bR,dK,f3.bt aB an⟩
 |_=>exact q.elim
theorem e2.bt {x:Str} {v:Value} (q:e2 env J h x v) (ag:∀a ob,h.get? a=some ob->h'.get? a=some ob):e2 env J h' x v:=by
 rcases q with⟨M,O,m,Y,aC⟩|⟨M,O,c,Y,aC⟩
 ·exact .inl ⟨M,O,m,Y.keeps ag,aC⟩
 ·exact .inr ⟨M,O,c,Y,aC.keeps ag⟩
theorem ui.bt {x:Str} {bh:cf} {v:Value} (q:ui w CM ρ x bh v) (aB:∀a ob,ρ a=.be ob->ρ' a=.be ob) (an:∀a k,ρ a=.per k->ρ' a=.per k) (bx:∀a x,ρ a=.aD x->ρ' a=.aD x):ui w CM ρ' x bh v:=by
 cases bh with
 |U y=>exact bX.bt aB an q
 |aD y=>obtain⟨a,M,O⟩:=q;exact⟨a,M,bx _ _ O⟩
open Classical in
noncomputable def bP (ρ:a5) (h':Heap):a5:=fun a=>if ρ a=.free/\h'.get? a≠none then .aV else ρ a
theorem lY {a:Addr} (aE:ρ a≠.free):bP ρ h' a=ρ a:=if_neg fun q=>aE q.1
theorem gD {a:Addr} {o:Obj} (aL:ρ a=.free) (h:h'.get? a=some o):bP ρ h' a=.aV:=if_pos ⟨aL,fun q=>ii (h.symm.trans q)⟩
theorem mV {a:Addr} {r:cV} (M:(r.kT==0)=false:=by rfl) (O:(r.kT==1)=false:=by rfl):bP ρ h' a=r↔ρ a=r:=by
 unfold bP
 by_cases q:ρ a=.free/\h'.get? a≠none
 ·refine B (if_pos q) ?_
  exact⟨fun e=>lD (O.symm.trans (by refine bu e ?_;rfl)),fun e=>lD (M.symm.trans (by(refine bu e ?_;refine B q.1 ?_);rfl))⟩
 ·(refine B (if_neg q) ?_;rfl)
theorem hY {a:Addr} {ob:Obj}:bP ρ h' a=.be ob↔ρ a=.be ob:=mV
theorem hf {a:Addr} {k:Nat}:bP ρ h' a=.per k↔ρ a=.per k:=mV
theorem gg {a:Addr} {x:Str}:bP ρ h' a=.aD x↔ρ a=.aD x:=mV
theorem oO {a:Addr}:bP ρ h' a=.cell↔ρ a=.cell:=mV
theorem CU {a:Addr}:bP ρ h' a=.stack↔ρ a=.stack:=mV
theorem nz {a:Addr}:bP ρ h' a=.frame↔ρ a=.frame:=mV
theorem Ah {a:Addr} (h:e3 (ρ a)):e3 (bP ρ h' a):=by
 refine B (lY (fun q=>by rw [q] at h;exact h)) ?_;exact h
theorem no {a:Addr} (h:ρ a=.aV):bP ρ h' a=.aV:=(lY (fun q=>cV.noConfusion (h.symm.trans q))).trans h
theorem Fj {a:Addr} {h:Heap} (aB:ρ a=.free↔h.get? a=none) (ag:h'.get? a=none->h.get? a=none):bP ρ h' a=.free↔h'.get? a=none:=by
 unfold bP
 by_cases q:ρ a=.free/\h'.get? a≠none
 ·refine B (if_pos q) ?_;exact⟨fun e=>cV.noConfusion e,fun e=>absurd e q.2⟩
 ·refine B (if_neg q) ?_;exact⟨fun e=>Classical.byContradiction fun n=>q ⟨e,n⟩,fun e=>aB.mpr (ag e)⟩
theorem xi {a:Addr} {h:Heap} (aB:ρ a=.free↔h.get? a=none) (ag:∀ob,h.get? a=some ob->h'.get? a=some ob):bP ρ h' a=.free↔h'.get? a=none:=Fj aB fun e=>by
 cases bx:h.get? a with
 |none=>rfl
 |some ob=>exact ii ((ag _ bx).symm.trans e)
theorem cH.dz {per:List H} {h':Heap} {tk:Nat} (ap:cH w CM K ρ s per) (ag:∀a ob,s.heap.get? a=some ob->h'.get? a=some ob):cH w CM K (bP ρ h') {s with heap:=h',toks:=tk} per where
 fU:=fun a x e=>hY.mpr (ap.fU a x e)
 fz:=fun a x e=>hY.mpr (ap.fz a x e)
 fq:=fun a e=>let⟨M,o,O,Y⟩:=ap.fq a e;⟨Ah M,o,ag _ _ O,Y⟩
 bK:=fun a ob e=>ag _ _ (ap.bK a ob (hY.mp e))
 c1:=fun a=>xi (ap.c1 a) (ag a)
 gq:=fun k cy=>let⟨a,e⟩:=ap.gq k cy;⟨a,hf.mpr e⟩
 fS:=fun a k e=>let⟨x,M,O⟩:=ap.fS a k (hf.mp e);⟨x,M,O.bt (fun _ _ q=>hY.mpr q) (fun _ _ q=>hf.mpr q) (fun ob=>ag a ob)⟩
 inj:=fun a b k ak ar=>ap.inj a b k (hf.mp ak) (hf.mp ar)
theorem aK.dz {h':Heap} {tk:Nat} (I:aK w CM K env J ρ s fs) (ag:∀a ob,s.heap.get? a=some ob->h'.get? a=some ob):aK w CM K env J (bP ρ h') {s with heap:=h',toks:=tk} fs where
 base:=I.base.dz ag
 c0:=I.c0
 cJ:=nz.mpr I.cJ
 fC:=let⟨m,e⟩:=I.fC;⟨m,e.keeps ag⟩
 eW:=fun x bh e=>let⟨v,M,O⟩:=I.eW x bh e;⟨v,M.bt ag,O.bt (fun _ _ q=>hY.mpr q) (fun _ _ q=>hf.mpr q) (fun _ _ q=>gg.mpr q)⟩
 cells:=fun x e=>let⟨c,v,M,O,Y,aC⟩:=I.cells x e;⟨c,v,M,oO.mpr O,Y,aC.keeps ag⟩
 frees:=fun x c ak ar=>no (I.frees x c ak ar)
 apart:=I.apart
 e0:=fun a x e=>let⟨aL,c,M,O⟩:=I.e0 a x (gg.mp e);⟨aL,c,M,O.bt (fun _ _ q=>hY.mpr q) (fun _ _ q=>hf.mpr q) (fun ob=>ag a ob)⟩
 fi:=fun a b x ak ar=>I.fi a b x (gg.mp ak) (gg.mp ar)
theorem a2.dz {h':Heap} {tk:Nat} (ag:∀a ob,s.heap.get? a=some ob->h'.get? a=some ob):a2 ρ s (bP ρ h') {s with heap:=h',toks:=tk} where
 bK:=fun a ob e=>hY.mpr e
 aV:=fun a e=>no e
 per:=fun a k e=>hf.mpr e
 cJ:=fun a e=>nz.mpr e
 fc:=fun a e=>oO.mpr e
 stk:=fun a e=>CU.mpr e
 aD:=fun a x e=>.inl (gg.mpr e)
 keep:=fun a ob _ e=>ag _ _ e
 hV:=fun a ob _ e=>⟨_,ag _ _ e⟩
 ao:=⟨_,_,rfl⟩
theorem cb.dz {h':Heap} {l:List (Str×cf)}:cb ρ l (bP ρ h') l:=⟨fun _ _ e=>e,fun _ _ e=>.inl (gg.mpr e),fun _ _ e=>gg.mp e⟩
noncomputable def cw (ρ:a5) (a:Addr) (r:cV):a5:=fun b=>if b=a then r else ρ b
theorem dI {a:Addr} {r:cV}:cw ρ a r a=r:=if_pos rfl
theorem bp {a b:Addr} {r:cV} (aE:b≠a):cw ρ a r b=ρ b:=if_neg aE
noncomputable def eP (w:World) (CM:cn) (ρ₀ ρ:a5) (s:Shared) (fs:X):aU->Value->Prop
 |.U x,v=>bX w CM ρ x v
 |.own x,v=>∃a,v=.ref a/\ρ₀ a=.free/\ρ a=.aV/\dN w CM ρ s.heap a x
 |.var x,v=>∃a,v=.ref a/\(ρ a=.aD x\/∃y,getL x fs.loc=some (.U y))
theorem eP.bt {aN:a5} {aj:Shared} {fs₁:X} {r:aU} {v:Value} (q:eP w CM ρ₀ ρ s fs r v) (x:a2 ρ s aN aj) (y:cb ρ fs.loc aN fs₁.loc):eP w CM ρ₀ aN aj fs₁ r v:=by
 cases r with
 |U z=>exact bX.bt x.bK x.per q
 |own z=>obtain⟨a,M,O,Y,aC⟩:=q;exact⟨a,M,O,x.aV a Y,aC.bt x.bK x.per (fun ob=>x.keep a ob Y)⟩
 |var n=>
  refine bb q ?_;clear q;intro a M O
  refine⟨a,M,?_⟩
  rcases O with O|⟨g9,O⟩
  ·rcases y.aD a n O with Y|⟨eZ,Y⟩
   ·exact .inl Y
   ·exact .inr ⟨eZ,Y⟩
  ·exact .inr ⟨g9,y.U n g9 O⟩
theorem eP.g2 {aN:a5} {r:aU} {v:Value} (q:eP w CM aN ρ s fs r v) (ah:∀a,aN a=.free->ρ₀ a=.free):eP w CM ρ₀ ρ s fs r v:=by
 cases r with
 |U z=>exact q
 |own z=>obtain⟨a,M,O,Y⟩:=q;exact⟨a,M,ah a O,Y⟩
 |var n=>exact q
theorem a2.ic (x:a2 ρ s ρ' az):∀a,ρ' a=.free->ρ a=.free:=fun a h=>by
 cases e:ρ a with
 |free=>rfl
 |aV=>replace h:=(x.aV a e)▸h;cases h
 |be ob=>replace h:=(x.bK a ob e)▸h;cases h
 |per k=>replace h:=(x.per a k e)▸h;cases h
 |frame=>replace h:=(x.cJ a e)▸h;cases h
 |cell=>replace h:=(x.fc a e)▸h;cases h
 |stack=>replace h:=(x.stk a e)▸h;cases h
 |aD n=>rcases x.aD a n e with q|q|⟨ob,q⟩<;>replace h:=q▸h<;>cases h
inductive cv (w:World) (CM:cn) (ρ:a5) (s:Shared) (x:H) (v:Value):Prop where
 |ga (h:bX w CM ρ x v)
 |at(a:Addr) (ay:v=.ref a) (h:dN w CM ρ s.heap a x)
end
end Mine
end
section
open PySem PySem.W PySem.Calls PyProof.Rows
namespace Mine
theorem kq {x:Str} {v:cf}:∀{l:List (Str×cf)},getL x (bY x v l)=some v
 |[]=>by simp [bY,getL]
 |(y,u)::r=>by
  unfold bY
  split
  ·rename_i h;simp [getL,h]
  ·rename_i h;simp only [getL,if_neg h];exact kq
theorem ik {x y:Str} {v:cf} (aE:y≠x):∀{l:List (Str×cf)},getL y (bY x v l)=getL y l
 |[]=>by simp [bY,getL,aE]
 |(z,u)::r=>by
  unfold bY
  split
  ·rename_i h;subst h;simp [getL,aE]
  ·rename_i h
   simp only [getL]
   split
   ·rfl
   ·exact ik aE
theorem rZ {x:Str}:∀{l:List (Str×cf)},getL x (jC x l)=none
 |[]=>rfl
 |(y,u)::r=>by
  unfold jC
  split
  ·exact rZ
  ·rename_i h;simp only [getL,if_neg h];exact rZ
theorem qV {x y:Str} (aE:y≠x):∀{l:List (Str×cf)},getL y (jC x l)=getL y l
 |[]=>rfl
 |(z,u)::r=>by
  unfold jC
  split
  ·rename_i h;subst h;simp only [getL,if_neg aE];exact qV aE
  ·rename_i h
   simp only [getL]
   split
   ·rfl
   ·exact qV aE
section
variable{w:World} {CM:cn} {K:Top} {env:Env} {J:Scope} {ρ ρ₀ ρ':a5} {s c9 az:Shared} {fs fs':X} {h h':Heap}
theorem a8.length:∀{l:List H} {vs:List Value},a8 w CM ρ l vs->vs.length=l.length
 |[],_,h=>by refine B (show _=_ from h) ?_;rfl
 |_::_,_,⟨v,t,M,_,Y⟩=>by(refine B M ?_;refine B List.length_cons ?_;refine B List.length_cons ?_;refine B (a8.length Y) ?_;rfl)
theorem a8.gk:∀{l:List H} {vs:List Value} {i:Nat} {x:H},a8 w CM ρ l vs->l[i]? =some x->∃v,vs[i]? =some v/\bX w CM ρ x v
 |[],_,_,_,_,e=>by simp at e
 |y::r,_,0,x,⟨v,t,M,O,Y⟩,e=>by simp at e;subst e;exact⟨v,by refine B M ?_;rfl,O⟩
 |y::r,_,i+1,x,⟨v,t,M,O,Y⟩,e=>by
  simp at e
  refine bb (a8.gk Y e) ?_;intro u aC bR
  exact⟨u,by refine B M ?_;simpa using aC,bR⟩
theorem a8.nil:a8 w CM ρ [] []:=rfl
theorem a8.cons {x:H} {v:Value} {l:List H} {vs:List Value} (M:bX w CM ρ x v) (O:a8 w CM ρ l vs):a8 w CM ρ (x::l) (v::vs):=⟨v,vs,rfl,M,O⟩
theorem a8.append:∀{l k:List H} {vs cZ:List Value},a8 w CM ρ l vs->a8 w CM ρ k cZ->a8 w CM ρ (l++k) (vs++cZ)
 |[],_,_,_,M,O=>by refine B (show _=_ from M) ?_;exact O
 |_::_,_,_,_,⟨v,t,M,O,Y⟩,aC=>by refine B M ?_;exact⟨v,t++_,rfl,O,a8.append Y aC⟩
theorem a8.take:∀{l:List H} {vs:List Value} (n:Nat),a8 w CM ρ l vs->a8 w CM ρ (l.take n) (vs.take n)
 |[],_,n,h=>by refine B (show _=_ from h) ?_;simp [a8]
 |_::_,_,0,_=>by simp [a8]
 |_::_,_,n+1,⟨v,t,M,O,Y⟩=>by refine B M ?_;exact⟨v,t.take n,rfl,O,a8.take n Y⟩
theorem a8.drop:∀{l:List H} {vs:List Value} (n:Nat),a8 w CM ρ l vs->a8 w CM ρ (l.drop n) (vs.drop n)
 |[],_,n,h=>by refine B (show _=_ from h) ?_;simp [a8]
 |_::_,_,0,h=>by simpa using h
 |_::_,_,n+1,⟨v,t,M,O,Y⟩=>by refine B M ?_;simpa using a8.drop n Y
theorem a8.set:∀{l:List H} {vs:List Value} {x:H} {v:Value} (i:Nat),a8 w CM ρ l vs->bX w CM ρ x v->a8 w CM ρ (l.set i x) (vs.set i v)
 |[],_,_,_,i,h,_=>by refine B (show _=_ from h) ?_;simp [a8]
 |_::_,_,_,_,0,⟨v,t,M,O,Y⟩,aC=>by refine B M ?_;exact⟨_,t,rfl,aC,Y⟩
 |_::_,_,_,_,i+1,⟨v,t,M,O,Y⟩,aC=>by refine B M ?_;exact⟨v,t.set i _,rfl,O,a8.set i Y aC⟩
theorem dV.length:∀{l:List (al×H)} {aS:List (al×Value)},dV w CM ρ l aS->aS.length=l.length
 |[],_,h=>by refine B (show _=_ from h) ?_;rfl
 |(_,_)::_,_,⟨v,t,M,_,Y⟩=>by(refine B M ?_;refine B List.length_cons ?_;refine B List.length_cons ?_;refine B (dV.length Y) ?_;rfl)
theorem dV.zL:∀{l:List (al×H)} {aS:List (al×Value)},dV w CM ρ l aS->aS.map (·.1)=l.map (·.1)
 |[],_,h=>by refine B (show _=_ from h) ?_;rfl
 |(_,_)::_,_,⟨v,t,M,_,Y⟩=>by(refine B M ?_;refine B List.map_cons ?_;refine B List.map_cons ?_;refine B (dV.zL Y) ?_;rfl)
theorem Wk {K:Type} [DecidableEq K] {k cS:K} {v:Value} {t:List (K×Value)}:valueAt ((cS,v)::t) k=if k=cS then some v else valueAt t k:=by
 unfold valueAt
 refine B List.find?_cons ?_
 by_cases h:cS=k
 ·subst h;rw [if_pos rfl,decide_eq_true rfl];rfl
 ·have h':¬k=cS:=fun e=>h e.symm
  rw [if_neg h',decide_eq_false h]
theorem dV.gk:∀{l:List (al×H)} {aS:List (al×Value)} {k:al},dV w CM ρ l aS->match a9 k l with
  |some x=>∃v,valueAt aS k=some v/\bX w CM ρ x v
  |none=>valueAt aS k=none
 |[],_,k,h=>by refine B (show _=_ from h) ?_;rfl
 |(cS,x)::r,_,k,⟨v,t,M,O,Y⟩=>by
  (refine B M ?_;refine B Wk ?_)
  refine B (show a9 k ((cS,x)::r)=if k=cS then some x else a9 k r from rfl) ?_
  by_cases e:k=cS
  ·(refine B (if_pos e) ?_;refine B (if_pos e) ?_);exact⟨v,rfl,O⟩
  ·(refine B (if_neg e) ?_;refine B (if_neg e) ?_);exact dV.gk Y
theorem dV.isSome {l:List (al×H)} {aS:List (al×Value)} {k:al} (h:dV w CM ρ l aS):(valueAt aS k).isSome=(a9 k l).isSome:=by
 have:=h.gk (k:=k)
 cases e:a9 k l with
 |none=>replace this:=e▸this;refine B this ?_;rfl
 |some x=>replace this:=e▸this;obtain⟨v,M,_⟩:=this;refine B M ?_;rfl
theorem v1 {K:Type} [DecidableEq K] {k cS:K} {v u:Value} {t:List (K×Value)} (aE:((cS,u)::t).map (·.1)|>.Nodup):stored ((cS,u)::t) k v=if k=cS then(cS,v)::t else(cS,u)::stored t k v:=by
 unfold stored
 by_cases h:cS=k
 ·subst h
  simp only [List.any_cons,decide_true,Bool.true_or,if_true,List.map_cons]
  (refine B (map_store_of_not_mem t cS v (by simpa using (List.nodup_cons.mp aE).1)) ?_;rfl)
 ·have h':¬k=cS:=fun e=>h e.symm
  simp only [List.any_cons,h,decide_false,Bool.false_or,List.map_cons,if_false,h']
  split<;>simp
theorem dV.set:∀{l:List (al×H)} {aS:List (al×Value)} {k:al} {x:H} {v:Value},dV w CM ρ l aS->(aS.map (·.1)).Nodup->bX w CM ρ x v->dV w CM ρ (cU k x l) (stored aS k v)
 |[],_,k,x,v,h,_,ae=>by refine B (show _=_ from h) ?_;exact⟨v,[],rfl,ae,rfl⟩
 |(cS,y)::r,_,k,x,v,⟨u,t,M,O,Y⟩,aE,ae=>by
  subst M
  refine B (v1 aE) ?_
  unfold cU
  by_cases e:k=cS
  ·(refine B (if_pos e) ?_;refine B (if_pos e) ?_);exact⟨v,t,rfl,ae,Y⟩
  ·(refine B (if_neg e) ?_;refine B (if_neg e) ?_);exact⟨u,_,rfl,O,dV.set Y (List.nodup_cons.mp aE).2 ae⟩
theorem kr.gk:∀{l:List (Str×H)} {m:Str->Option Value} {n:Str} {x:H},kr w CM ρ l m->iO n l=some x->∃v,m n=some v/\bX w CM ρ x v
 |[],_,_,_,_,e=>by simp [iO] at e
 |(jf,y)::r,m,n,x,⟨⟨v,M,O⟩,Y⟩,e=>by
  unfold iO at e
  by_cases q:n=jf
  ·replace e:=(if_pos q)▸e;cases e;subst q;exact⟨v,M,O⟩
  ·replace e:=(if_neg q)▸e;exact kr.gk Y e
theorem a2.fK {a:Addr} {ob:Obj} (av:a2 ρ₀ c9 ρ s) (aL:ρ₀ a=.free):a2 ρ₀ c9 (cw ρ a (.be ob)) s where
 bK:=fun b o e=>by
  by_cases q:b=a
  ·subst q;replace e:=aL▸e;cases e
  ·refine B (bp q) ?_;exact av.bK b o e
 aV:=fun b e=>by
  by_cases q:b=a
  ·subst q;replace e:=aL▸e;cases e
  ·refine B (bp q) ?_;exact av.aV b e
 per:=fun b k e=>by
  by_cases q:b=a
  ·subst q;replace e:=aL▸e;cases e
  ·refine B (bp q) ?_;exact av.per b k e
 cJ:=fun b e=>by
  by_cases q:b=a
  ·subst q;replace e:=aL▸e;cases e
  ·refine B (bp q) ?_;exact av.cJ b e
 fc:=fun b e=>by
  by_cases q:b=a
  ·subst q;replace e:=aL▸e;cases e
  ·refine B (bp q) ?_;exact av.fc b e
 stk:=fun b e=>by
  by_cases q:b=a
  ·subst q;replace e:=aL▸e;cases e
  ·refine B (bp q) ?_;exact av.stk b e
 aD:=fun b x e=>by
  by_cases q:b=a
  ·subst q;replace e:=aL▸e;cases e
  ·refine B (bp q) ?_;exact av.aD b x e
 keep:=av.keep
 hV:=av.hV
 ao:=av.ao
theorem cb.fK {a:Addr} {ob:Obj} {l c8:List (Str×cf)} (av:cb ρ₀ l ρ c8) (aL:ρ₀ a=.free):cb ρ₀ l (cw ρ a (.be ob)) c8 where
 U:=av.U
 aD:=fun b x e=>by
  by_cases q:b=a
  ·subst q;replace e:=aL▸e;cases e
  ·refine B (bp q) ?_;exact av.aD b x e
 gl:=fun b x e=>by
  by_cases q:b=a
  ·subst q;replace e:=dI▸e;cases e
  ·replace e:=(bp q)▸e;exact av.gl b x e
theorem cH.fK {per:List H} {a:Addr} {ob:Obj} (ap:cH w CM K ρ s per) (hd:ρ a=.aV\/∃x,ρ a=.aD x) (cq:s.heap.get? a=some ob):cH w CM K (cw ρ a (.be ob)) s per:=by
 have XE:∀k,ρ a≠.per k:=fun k e=>by rcases hd with q|⟨x,q⟩<;>replace e:=q▸e<;>cases e
 have d8:∀o,ρ a≠.be o:=fun k e=>by rcases hd with q|⟨x,q⟩<;>replace e:=q▸e<;>cases e
 have aB:∀b o,ρ b=.be o->cw ρ a (.be ob) b=.be o:=fun b o e=>by
  refine B (bp (fun q:b=a=>d8 o (by rw [<-q];exact e))) ?_;exact e
 have an:∀b k,ρ b=.per k->cw ρ a (.be ob) b=.per k:=fun b k e=>by
  refine B (bp (fun q:b=a=>XE k (by rw [<-q];exact e))) ?_;exact e
 have qN:∀b k,cw ρ a (.be ob) b=.per k->ρ b=.per k:=fun b k e=>by
  by_cases q:b=a
  ·(replace e:=q▸e;replace e:=dI▸e);cases e
  ·rwa [bp q] at e
 refine⟨fun b x e=>aB _ _ (ap.fU b x e),fun b x e=>aB _ _ (ap.fz b x e),fun b e=>let⟨M,O⟩:=ap.fq b e;⟨by refine B (bp (fun q:b=a=>by rcases hd with cI|⟨x,cI⟩<;>rw [q,cI] at M<;>exact M)) ?_;exact M,O⟩,fun b o e=> ?_,fun b=> ?_,fun k ag=>let⟨b,e⟩:=ap.gq k ag;⟨b,an _ _ e⟩,fun b k e=> ?_,fun b c k ak ar=>ap.inj b c k (qN _ _ ak) (qN _ _ ar)⟩
 ·by_cases q:b=a
  ·subst q;replace e:=dI▸e;cases e;exact cq
  ·replace e:=(bp q)▸e;exact ap.bK b o e
 ·by_cases q:b=a
  ·subst q;(refine B dI ?_;refine B cq ?_);exact⟨fun e=>(nomatch e),fun e=>(nomatch e)⟩
  ·refine B (bp q) ?_;exact ap.c1 b
 ·refine bb (ap.fS b k (qN _ _ e)) ?_;intro x M O
  exact⟨x,M,O.bt aB an fun _ e=>e⟩
theorem aK.fK {a:Addr} {ob:Obj} (I:aK w CM K env J ρ s fs) (hd:ρ a=.aV) (eE:∀x c,J.names.lookup x=some .free->env.cells.lookup x=some c->c≠a) (cq:s.heap.get? a=some ob):aK w CM K env J (cw ρ a (.be ob)) s fs:=by
 have aB:∀b o,ρ b=.be o->cw ρ a (.be ob) b=.be o:=fun b o e=>by
  refine B (bp (d6 e hd)) ?_;exact e
 have an:∀b k,ρ b=.per k->cw ρ a (.be ob) b=.per k:=fun b o e=>by
  refine B (bp (d6 e hd)) ?_;exact e
 have bx:∀b k,ρ b=.aD k->cw ρ a (.be ob) b=.aD k:=fun b o e=>by
  refine B (bp (d6 e hd)) ?_;exact e
 have aY:∀b,ρ b=.frame->cw ρ a (.be ob) b=.frame:=fun b e=>by
  refine B (bp (d6 e hd)) ?_;exact e
 have qe:∀b,ρ b=.cell->cw ρ a (.be ob) b=.cell:=fun b e=>by
  refine B (bp (d6 e hd)) ?_;exact e
 have iE:∀b x,cw ρ a (.be ob) b=.aD x->ρ b=.aD x:=fun b x e=>by
  by_cases q:b=a
  ·(replace e:=q▸e;replace e:=dI▸e);cases e
  ·rwa [bp q] at e
 exact⟨I.base.fK (.inl hd) cq,I.c0,aY _ I.cJ,I.fC,fun x bh e=>let⟨v,M,O⟩:=I.eW x bh e;⟨v,M,O.bt aB an bx⟩,
  fun x e=>let⟨c,v,M,O,Y⟩:=I.cells x e;⟨c,v,M,qe _ O,Y⟩,
  fun x c ak ar=>(bp (eE x c ak ar)).trans (I.frees x c ak ar),I.apart,
  fun b x e=>let⟨aL,c,M,O⟩:=I.e0 b x (iE _ _ e);⟨aL,c,M,O.bt aB an fun _ e=>e⟩,fun b c x ak ar=>I.fi b c x (iE _ _ ak) (iE _ _ ar)⟩
theorem h9 {a:Addr} (yW:aK w CM K env J ρ₀ c9 fs) (aL:ρ₀ a=.free):∀x c,J.names.lookup x=some .free->env.cells.lookup x=some c->c≠a:=fun x c ak ar q=>by
 have:=yW.frees x c ak ar;(replace this:=q▸this;replace this:=aL▸this);cases this
theorem aK.Wi {a:Addr} {ob:Obj} {x:Str} {c:H} (I:aK w CM K env J ρ s fs) (hd:ρ a=.aD x) (ae:getL x fs.loc=some (.aD c)) (hc:dN w CM ρ s.heap a c) (cq:s.heap.get? a=some ob):
  aK w CM K env J (cw ρ a (.be ob)) s {fs with loc:=bY x (.U c) fs.loc}/\bX w CM (cw ρ a (.be ob)) c (.ref a)/\a2 ρ s (cw ρ a (.be ob)) s/\cb ρ fs.loc (cw ρ a (.be ob)) (bY x (.U c) fs.loc):=by
 have aB:∀b o,ρ b=.be o->cw ρ a (.be ob) b=.be o:=fun b o e=>by
  refine B (bp (d6 e hd)) ?_;exact e
 have an:∀b k,ρ b=.per k->cw ρ a (.be ob) b=.per k:=fun b o e=>by
  refine B (bp (d6 e hd)) ?_;exact e
 have jU:∀b,ρ b=.aV->cw ρ a (.be ob) b=.aV:=fun b e=>by
  refine B (bp (d6 e hd)) ?_;exact e
 have aY:∀b,ρ b=.frame->cw ρ a (.be ob) b=.frame:=fun b e=>by
  refine B (bp (d6 e hd)) ?_;exact e
 have qe:∀b,ρ b=.cell->cw ρ a (.be ob) b=.cell:=fun b e=>by
  refine B (bp (d6 e hd)) ?_;exact e
 have eN:∀b,ρ b=.stack->cw ρ a (.be ob) b=.stack:=fun b e=>by
  refine B (bp (d6 e hd)) ?_;exact e
 have iE:∀b y,cw ρ a (.be ob) b=.aD y->ρ b=.aD y/\b≠a:=fun b y e=>by
  by_cases q:b=a
  ·(replace e:=q▸e;replace e:=dI▸e);cases e
  ·replace e:=(bp q)▸e;exact⟨e,q⟩
 have gc:bX w CM (cw ρ a (.be ob)) c (.ref a):=hc.ga cq aB an dI
 refine⟨⟨I.base.fK (.inr ⟨x,hd⟩) cq,I.c0,aY _ I.cJ,I.fC,fun y bh e=> ?_,
  fun y e=>let⟨c,v,M,O,Y⟩:=I.cells y e;⟨c,v,M,qe _ O,Y⟩,fun y c ak ar=>jU _ (I.frees y c ak ar),I.apart,fun b y e=> ?_,
  fun b c y ak ar=>I.fi b c y (iE _ _ ak).1 (iE _ _ ar).1⟩,gc,⟨aB,jU,an,aY,qe,eN,fun b y e=> ?_,fun _ _ _ e=>e,fun _ _ _ e=>⟨_,e⟩,⟨_,_,rfl⟩⟩,⟨fun y v e=> ?_,fun b y e=> ?_,fun b y e=>(iE b y e).1⟩⟩
 ·by_cases q:y=x
  ·subst q
   replace e:=kq▸e;cases e
   obtain⟨v,M,b,rfl,O⟩:=I.eW _ _ ae
   replace M:=(I.fi b a _ O hd)▸M
   exact⟨.ref a,M,gc⟩
  ·replace e:=(ik q)▸e
   refine bb (I.eW _ _ e) ?_;intro v M O
   refine⟨v,M,?_⟩
   cases bh with
   |U z=>exact bX.bt aB an O
   |aD z=>
    refine bb O ?_;clear O;intro b Y aC
    refine⟨b,Y,?_⟩
    refine B (bp (fun cI=>by subst cI;rw [hd] at aC;cases aC;exact q rfl)) ?_;exact aC
 ·refine cl (iE _ _ e) ?_;intro M O
  obtain⟨aL,c',Y,aC⟩:=I.e0 b y M
  have q:y≠x:=fun q=>O (I.fi b a x (q▸M) hd)
  exact⟨aL,c',by refine B (ik q) ?_;exact Y,aC.bt aB an fun _ e=>e⟩
 ·by_cases q:b=a
  ·subst q;exact .inr (.inr ⟨ob,dI⟩)
  ·refine B (bp q) ?_;exact .inl e
 ·by_cases q:y=x
  ·subst q;replace e:=ae▸e;cases e
  ·refine B (ik q) ?_;exact e
 ·by_cases q:b=a
  ·subst q
   replace e:=hd▸e;cases e
   exact .inr ⟨c,kq⟩
  ·refine B (bp q) ?_;exact .inl e
theorem vW {r:aU} {v:Value} {x:H} {j4:X} (yW:aK w CM K env J ρ₀ c9 j4) (I:aK w CM K env J ρ s fs) (av:a2 ρ₀ c9 ρ s) (dw:cb ρ₀ j4.loc ρ fs.loc) (aP:eP w CM ρ₀ ρ s fs r v) (e:fs.oB r=some (x,fs')):
  ∃ρ',aK w CM K env J ρ' s fs'/\a2 ρ₀ c9 ρ' s/\cb ρ₀ j4.loc ρ' fs'.loc/\bX w CM ρ' x v:=by
 cases r with
 |U y=>cases e;exact⟨ρ,I,av,dw,aP⟩
 |own y=>
  refine b6 e ?_;clear e
  refine gm aP ?_;clear aP;intro a u;subst u;intro M O Y
  refine bS Y.e7 ?_;intro ob cq
  refine⟨_,I.fK (ob:=ob) O (h9 yW M) cq,av.fK M,dw.fK M,?_⟩
  refine Y.ga cq (fun b o e=> ?_) (fun b o e=> ?_) dI
  ·refine B (bp (d6 e O)) ?_;exact e
  ·refine B (bp (d6 e O)) ?_;exact e
 |var n=>
  refine bG e (fun c hc e=>b6 e ?_) Z
  have bi:=od hc
  refine bb aP ?_;clear aP;intro a u;subst u;intro O
  have O:ρ a=.aD n:=O.elim id fun O=>O.elim fun y O=>cf.noConfusion (Option.some.inj (bi.symm.trans O))
  refine bb (I.e0 a n O).2 ?_;intro c' Y aC
  replace aC:=(cf.aD.inj (Option.some.inj (Y.symm.trans bi)))▸aC
  refine bS aC.e7 ?_;intro ob cq
  refine nO (I.Wi (ob:=ob) O bi aC cq) ?_;intro e1 R hu oh
  exact⟨_,e1,av.trans hu,dw.trans oh,R⟩
theorem dN.mx {a:Addr} {y x:H} (h:dN w CM ρ s.heap a y) (e:fs.mx y=some x):dN w CM ρ s.heap a x:=by
 cases y with
 |am l=>exact cF (show some (H.am l)=some x from e) h
 |V l=>exact cF (show some (H.V l)=some x from e) h
 |_=>exact h.elim
theorem hT {r:aU} {v:Value} {x:H} (I:aK w CM K env J ρ s fs) (aP:eP w CM ρ₀ ρ s fs r v) (e:fs.cE r=some x):cv w CM ρ s x v:=by
 refine bG e (fun y aQ cg=> ?_) Z
 clear e
 cases r with
 |U z=>
  cases aQ
  cases y with
  |per k=>
   refine bb aP ?_;clear aP;intro a u;subst u;intro bA
   refine bb (I.base.fS a k bA) ?_;intro c M O
   exact .at a rfl (Option.some.inj (M.symm.trans cg)▸O)
  |_=>exact .ga (Option.some.inj cg▸aP)
 |own z=>
  cases aQ
  refine gm aP ?_;clear aP;intro a u;subst u;intro _ _ Y
  exact .at a rfl (Y.mx cg)
 |var n=>
  have bi:=od aQ
  refine bb aP ?_;clear aP;intro a u;subst u;intro O
  have O:ρ a=.aD n:=O.elim id fun O=>O.elim fun y O=>cf.noConfusion (Option.some.inj (bi.symm.trans O))
  refine bb (I.e0 a n O).2 ?_;intro c Y aC
  exact .at a rfl ((cf.aD.inj (Option.some.inj (Y.symm.trans bi))▸aC).mx cg)
section
variable{v:Value} (ap:cH w CM K ρ s fs.per)
theorem cv.none (q:cv w CM ρ s .none v):v=.none:=by
 cases q with
 |ga h=>exact h
 |«at» a _ h=>exact h.elim
theorem cv.bool {b:Bool} (q:cv w CM ρ s (.bool b) v):v=.bool b:=by
 cases q with
 |ga h=>exact h
 |«at» a _ h=>exact h.elim
theorem cv.int {i:Int} (q:cv w CM ρ s (.int i) v):∃t,v=.int i t:=by
 cases q with
 |ga h=>exact h
 |«at» a _ h=>exact h.elim
theorem cv.str {x:Str} (q:cv w CM ρ s (.str x) v):∃t,v=.str x t:=by
 cases q with
 |ga h=>exact h
 |«at» a _ h=>exact h.elim
theorem cv.dS {c:Str} {l:List (Str×H)} (q:cv w CM ρ s (.dS c l) v):bX w CM ρ (.dS c l) v:=by
 cases q with
 |ga h=>exact h
 |«at» a _ h=>exact h.elim
theorem cv.aF {l:List H} {per:List H} (ap:cH w CM K ρ s per) (q:cv w CM ρ s (.aF l) v):∃a vs n,v=.ref a/\s.heap.get? a=some (qI vs n)/\a8 w CM ρ l vs:=by
 cases q with
 |ga h=>obtain⟨a,vs,n,M,O,Y⟩:=h;exact⟨a,vs,n,M,ap.bK _ _ O,Y⟩
 |«at» a _ h=>exact h.elim
theorem cv.am {l:List H} {per:List H} (ap:cH w CM K ρ s per) (q:cv w CM ρ s (.am l) v):∃a vs n,v=.ref a/\s.heap.get? a=some (mD vs n)/\a8 w CM ρ l vs:=by
 cases q with
 |ga h=>obtain⟨a,vs,n,M,O,Y⟩:=h;exact⟨a,vs,n,M,ap.bK _ _ O,Y⟩
 |«at» a ay h=>obtain⟨vs,n,M,O⟩:=h;exact⟨a,vs,n,ay,M,O⟩
theorem cv.V {l:List (al×H)} {per:List H} (ap:cH w CM K ρ s per) (q:cv w CM ρ s (.V l) v):∃a aS,v=.ref a/\(a==sysModules)=false/\s.heap.DictOf (kk w) a aS/\dV w CM ρ l aS:=by
 cases q with
 |ga h=>obtain⟨a,ob,es,cr,aS,M,aL,O,Y,aC,bR,dK,f3,o7⟩:=h;exact⟨a,aS,M,aL,⟨ob,es,cr,ap.bK _ _ O,Y,aC,bR,dK,f3⟩,o7⟩
 |«at» a ay h=>obtain⟨ob,es,cr,aS,aL,M,O,Y,aC,bR,dK,f3⟩:=h;exact⟨a,aS,ay,aL,⟨ob,es,cr,M,O,Y,aC,bR,dK⟩,f3⟩
end
end
end Mine
end
section
open PySem PySem.W PySem.Calls PyProof.Rows
namespace Mine
section
variable(w:World) (CM:cn) (K:Top) (env:Env) (J:Scope)
noncomputable def b3 (ρ:a5) (s:Shared) (fs:X) (r:aU) (fs':X) (v:Value) (az:Shared):Prop:=
 ∃ρ',aK w CM K env J ρ' az fs'/\a2 ρ s ρ' az/\cb ρ fs.loc ρ' fs'.loc/\eP w CM ρ ρ' az fs' r v
noncomputable def TT (ρ:a5) (s:Shared) (fs:X) (x:H) (fs':X) (v:Value) (az:Shared):Prop:=
 ∃ρ',aK w CM K env J ρ' az fs'/\a2 ρ s ρ' az/\cb ρ fs.loc ρ' fs'.loc/\bX w CM ρ' x v
noncomputable def r7 (ρ:a5) (s:Shared) (fs:X) (x:List H) (fs':X) (v:List Value) (az:Shared):Prop:=
 ∃ρ',aK w CM K env J ρ' az fs'/\a2 ρ s ρ' az/\cb ρ fs.loc ρ' fs'.loc/\a8 w CM ρ' x v
noncomputable def kj (ρ:a5) (s:Shared) (fs:X) (b:Bool) (fs':X) (gh:Bool) (az:Shared):Prop:=
 gh=b/\∃ρ',aK w CM K env J ρ' az fs'/\a2 ρ s ρ' az/\cb ρ fs.loc ρ' fs'.loc
noncomputable abbrev cc:Value->Shared->Prop:=fun _ _=>False
structure cB (A:Around) (R:bk):Prop where
 ba:∀e fs r fs',R.ba e fs=some (r,fs')->∀ρ s,aK w CM K env J ρ s fs->wpAny (model aw w) A (eval e env) (b3 w CM K env J ρ s fs r fs') cc s
 dF:∀e fs b fs',R.dF e fs=some (b,fs')->∀ρ s,aK w CM K env J ρ s fs->wpAny (model aw w) A (isTrue e env (eval e env)) (kj w CM K env J ρ s fs b fs') cc s
 ro:∀e p fs,R.ba (.Starred e p) fs=none
 set:∀es k p fs,R.ba (.Set es k p) fs=none
end
section
variable{w:World} {CM:cn} {K:Top} {env:Env} {J:Scope} {A:Around} {ρ ρ₀ ρ':a5} {s c9 az:Shared} {fs fs':X} {R:bk}
theorem cH.tok {per:List H} {tk:Nat} (ap:cH w CM K ρ s per):cH w CM K ρ {s with toks:=tk} per:=⟨ap.fU,ap.fz,ap.fq,ap.bK,ap.c1,ap.gq,ap.fS,ap.inj⟩
theorem aK.tok {tk:Nat} (I:aK w CM K env J ρ s fs):aK w CM K env J ρ {s with toks:=tk} fs:=⟨I.base.tok,I.c0,I.cJ,I.fC,I.eW,I.cells,I.frees,I.apart,I.e0,I.fi⟩
theorem a2.tok {tk:Nat}:a2 ρ s ρ {s with toks:=tk}:=⟨fun _ _ h=>h,fun _ h=>h,fun _ _ h=>h,fun _ h=>h,fun _ h=>h,fun _ h=>h,fun _ _ h=>.inl h,fun _ _ _ h=>h,fun _ _ _ h=>⟨_,h⟩,⟨_,_,rfl⟩⟩
theorem aK.in (I:aK w CM K env J ρ s fs):K.f.In s.heap:=fun a x e=>I.base.bK a x (I.base.fU a x e)
theorem ew {x:H} {v:Value} {tk:Nat} (I:aK w CM K env J ρ s fs) (h:bX w CM ρ x v):b3 w CM K env J ρ s fs (.U x) fs v {s with toks:=tk}:=
 ⟨ρ,I.tok,a2.tok,cb.refl ..,h⟩
theorem n0 {x:H} {a:Addr} {h':Heap} {tk:Nat} (I:aK w CM K env J ρ s fs) (ag:∀b ob,s.heap.get? b=some ob->h'.get? b=some ob) (aE:s.heap.get? a=none)
  (h:dN w CM ρ h' a x):b3 w CM K env J ρ s fs (.own x) fs (.ref a) {s with heap:=h',toks:=tk}:=by
 have aL:ρ a=.free:=(I.base.c1 a).mpr aE
 refine⟨bP ρ h',I.dz ag,a2.dz ag,cb.dz,a,rfl,aL,?_,h.bt (fun _ _ q=>hY.mpr q) (fun _ _ q=>hf.mpr q) fun _ q=>q⟩
 refine bS h.e7 ?_;intro ob cq
 exact gD aL cq
theorem yZ {x:H} {a:Addr} {h':Heap} {tk:Nat} {ob:Obj} (I:aK w CM K env J ρ s fs) (ag:∀b ob,s.heap.get? b=some ob->h'.get? b=some ob) (aE:s.heap.get? a=none) (cq:h'.get? a=some ob)
  (h:∀ρ',(∀b o,ρ b=.be o->ρ' b=.be o)->(∀b k,ρ b=.per k->ρ' b=.per k)->ρ' a=.be ob->bX w CM ρ' x (.ref a)):b3 w CM K env J ρ s fs (.U x) fs (.ref a) {s with heap:=h',toks:=tk}:=by
 have aL:ρ a=.free:=(I.base.c1 a).mpr aE
 have hd:bP ρ h' a=.aV:=gD aL cq
 refine⟨cw (bP ρ h') a (.be ob),(I.dz ag).fK hd (h9 I aL) cq,(a2.dz ag).fK aL,cb.dz.fK aL,?_⟩
 refine h _ (fun b o e=> ?_) (fun b k e=> ?_) dI
 ·refine B (bp (d6 e aL)) ?_;exact hY.mpr e
 ·refine B (bp (d6 e aL)) ?_;exact hf.mpr e
theorem b3.trans {aN:a5} {aj ct:Shared} {fs₁ fs₂:X} {r:aU} {v:Value} (av:a2 ρ s aN aj) (dw:cb ρ fs.loc aN fs₁.loc) (q:b3 w CM K env J aN aj fs₁ r fs₂ v ct):b3 w CM K env J ρ s fs r fs₂ v ct:=by
 refine gm q ?_;clear q;intro b8 I e5 g1 h
 exact⟨b8,I,av.trans e5,dw.trans g1,h.g2 av.ic⟩
theorem kj.trans {aN:a5} {aj ct:Shared} {fs₁ fs₂:X} {b gh:Bool} (av:a2 ρ s aN aj) (dw:cb ρ fs.loc aN fs₁.loc) (q:kj w CM K env J aN aj fs₁ b fs₂ gh ct):kj w CM K env J ρ s fs b fs₂ gh ct:=by
 obtain⟨h,b8,I,e5,g1⟩:=q
 exact⟨h,b8,I,av.trans e5,dw.trans g1⟩
theorem cB.eV (S:cB w CM K env J A R) {e:Expr} {r:aU} {Q:Value->Shared->Prop} {E:Value->Shared->Prop} (q:R.ba e fs=some (r,fs')) (I:aK w CM K env J ρ s fs)
  (k:∀v aj aN,aK w CM K env J aN aj fs'->a2 ρ s aN aj->cb ρ fs.loc aN fs'.loc->eP w CM ρ aN aj fs' r v->Q v aj):wpAny (model aw w) A (eval e env) Q E s:=
 wpAny_mono (S.ba e fs r fs' q ρ s I) (fun v aj h=>h.elim fun aN h=>k v aj aN h.1 h.2.1 h.2.2.1 h.2.2.2) fun _ _ f=>f.elim
theorem cB.lx (S:cB w CM K env J A R) {e:Expr} {b:Bool} {Q:Bool->Shared->Prop} {E:Value->Shared->Prop} (q:R.dF e fs=some (b,fs')) (I:aK w CM K env J ρ s fs)
  (k:∀aj aN,aK w CM K env J aN aj fs'->a2 ρ s aN aj->cb ρ fs.loc aN fs'.loc->Q b aj):wpAny (model aw w) A (isTrue e env (eval e env)) Q E s:=
 wpAny_mono (S.dF e fs b fs' q ρ s I) (fun v aj h=>h.2.elim fun aN z=>h.1▸k aj aN z.1 z.2.1 z.2.2) fun _ _ f=>f.elim
theorem iF {aN:a5} {aj:Shared} {fs₁ fs₂:X} {r:aU} {p:Sem Value} {E:Value->Shared->Prop} (av:a2 ρ s aN aj) (dw:cb ρ fs.loc aN fs₁.loc) (h:wpAny (model aw w) A p (b3 w CM K env J aN aj fs₁ r fs₂) cc aj):wpAny (model aw w) A p (b3 w CM K env J ρ s fs r fs₂) E aj:=
 wpAny_mono h (fun _ _ h=>h.trans av dw) fun _ _ f=>f.elim
theorem rT {aN:a5} {aj:Shared} {fs₁ fs₂:X} {b:Bool} {p:Sem Bool} {E:Value->Shared->Prop} (av:a2 ρ s aN aj) (dw:cb ρ fs.loc aN fs₁.loc) (h:wpAny (model aw w) A p (kj w CM K env J aN aj fs₁ b fs₂) cc aj):wpAny (model aw w) A p (kj w CM K env J ρ s fs b fs₂) E aj:=
 wpAny_mono h (fun _ _ h=>h.trans av dw) fun _ _ f=>f.elim
theorem Jw {aN:a5} {aj:Shared} {fs₁ fs₂:X} {r:aU} {p:Sem Value} {Q E:Value->Shared->Prop} (h:wpAny (model aw w) A p (b3 w CM K env J aN aj fs₁ r fs₂) cc aj)
  (k:∀v ct b8,aK w CM K env J b8 ct fs₂->a2 aN aj b8 ct->cb aN fs₁.loc b8 fs₂.loc->eP w CM aN b8 ct fs₂ r v->Q v ct):wpAny (model aw w) A p Q E aj:=
 wpAny_mono h (fun v aj h=>h.elim fun aN h=>k v aj aN h.1 h.2.1 h.2.2.1 h.2.2.2) fun _ _ f=>f.elim
theorem WO (S:cB w CM K env J A R) {e:Expr} {x:H} (q:dY R e fs=some (x,fs')) (I:aK w CM K env J ρ s fs):
  wpAny (model aw w) A (eval e env) (TT w CM K env J ρ s fs x fs') cc s:=by
 unfold dY at q
 refine b5 q ?_ Z;clear q;intro r fs₁ bw q
 exact S.eV bw I fun v aj aN aZ a0 bv aP=>vW I aZ a0 bv aP q
theorem ra (S:cB w CM K env J A R) {e:Expr} {x:H} {Q E:Value->Shared->Prop} (q:dY R e fs=some (x,fs')) (I:aK w CM K env J ρ s fs)
  (k:∀v aj aN,aK w CM K env J aN aj fs'->a2 ρ s aN aj->cb ρ fs.loc aN fs'.loc->bX w CM aN x v->Q v aj):wpAny (model aw w) A (eval e env) Q E s:=
 wpAny_mono (WO S q I) (fun v aj h=>h.elim fun aN h=>k v aj aN h.1 h.2.1 h.2.2.1 h.2.2.2) fun _ _ f=>f.elim
theorem yy (S:cB w CM K env J A R) {e:Expr} {es:List Expr} {x:H} (q:dY R e fs=some (x,fs')):starEach (e::es) env=(false,eval e env)::starEach es env:=by
 cases e with
 |Starred e p=>unfold dY at q;rw [S.ro] at q;exact Z q
 |_=>rfl
theorem BM (S:cB w CM K env J A R) {pos:Pos} (es:List Expr):∀{xs:List H} {fs fs':X} {ρ:a5} {s:Shared},dk R es fs=some (xs,fs')->aK w CM K env J ρ s fs->
  wpAny (model aw w) A (spliced (backTo pos (starEach es env))) (r7 w CM K env J ρ s fs xs fs') cc s:=by
 induction es with
 |nil=>intro xs fs fs' ρ s q I;exact b6 q (wpAny_items_nil ⟨ρ,I,a2.refl ..,cb.refl ..,a8.nil⟩)
 |cons e es ih=>
  intro xs fs fs' ρ s q I
  refine b5 q (fun v fs₁ bw q=>b5 q (fun vs fs₂ dJ q=>b6 q ?_) Z) Z
  refine wpAny_items_cons (ra S bw I fun UI aj aN aZ a0 bv gJ=> ?_) (yy S bw)
  exact wpAny_mono (ih dJ aZ) (fun YD ct h=>h.elim fun b8 h=>⟨b8,h.1,a0.trans h.2.1,bv.trans h.2.2.1,a8.cons (bX.bt h.2.1.bK h.2.1.per gJ) h.2.2.2⟩) fun _ _ f=>f
theorem B4 (S:cB w CM K env J A R) {pos:Pos} {es:List Expr} {xs:List H} {Q:List Value->Shared->Prop} {E:Value->Shared->Prop} (q:dk R es fs=some (xs,fs')) (I:aK w CM K env J ρ s fs)
  (k:∀v aj aN,aK w CM K env J aN aj fs'->a2 ρ s aN aj->cb ρ fs.loc aN fs'.loc->a8 w CM aN xs v->Q v aj):wpAny (model aw w) A (spliced (backTo pos (starEach es env))) Q E s:=
 wpAny_mono (BM S es q I) (fun v aj h=>h.elim fun aN h=>k v aj aN h.1 h.2.1 h.2.2.1 h.2.2.2) fun _ _ f=>f.elim
theorem rH (S:cB w CM K env J A R) {pos:Pos} (es:List Expr):∀{xs:List H} {fs fs':X},dk R es fs=some (xs,fs')->(backTo pos (starEach es env)).any (·.1)=false/\(backTo pos (starEach es env)).length=es.length:=by
 induction es with
 |nil=>intro _ _ _ _;exact⟨rfl,rfl⟩
 |cons e es ih=>
  intro xs fs fs' q
  refine b5 q (fun v fs₁ bw q=>b5 q (fun vs fs₂ dJ q=> ?_) Z) Z
  refine B (yy S bw) ?_
  exact⟨(ih dJ).1,congrArg (· +1) (ih dJ).2⟩
theorem fd {h:Heap}:h.get? h.objs.size=none:=by
 cases e:h.get? h.objs.size with
 |none=>rfl
 |some o=>exact absurd (Heap.lt_size e) (Nat.lt_irrefl _)
theorem cv.C4 {l:List H} {v:Value} (q:cv w CM ρ s (.aF l) v):bX w CM ρ (.aF l) v:=by
 cases q with
 |ga h=>exact h
 |«at» a _ h=>exact h.elim
theorem wU {a:Int} {n:Nat} (h:a.natAbs<2^n):Builtin.Int.intBits a<=n:=by
 unfold Builtin.Int.intBits
 split
 ·exact Nat.zero_le _
 ·rcases Nat.eq_zero_or_pos a.natAbs with aL|an
  ·rename_i b1;exact absurd (by simpa using Int.natAbs_eq_zero.mp aL) b1
  ·have:=(Nat.log2_lt (Nat.ne_of_gt an)).mpr h
   exact yx this
theorem jb:a4<=sizeLine:=by refine B sizeLine_eq ?_;decide
theorem Un {bU:Operator} {x y z:Int} {t u:Nat} (q:GH bU x y=some z) (I:aK w CM K env J ρ s fs):
  wpAny (model aw w) A (binaryOp bU (.int x t) (.int y u)) (b3 w CM K env J ρ s fs (.U (.int z)) fs) cc s:=by
 cases bU with
 |Add=>exact cF q (PyProof.Rows.add_int (ew I ⟨_,rfl⟩))
 |Sub=>exact cF q (PyProof.Rows.sub_int (ew I ⟨_,rfl⟩))
 |Mult=>
  refine cK q (fun ah q=>cF q ?_) Z
  refine PyProof.Rows.mul_int (ew I ⟨_,rfl⟩) ?_
  exact(Bool.or_eq_true_iff.mp ah).elim (fun h=>IntMulOk.of_left (wU (of_decide_eq_true h))) fun h=>IntMulOk.of_right (wU (of_decide_eq_true h))
 |FloorDiv=>
  refine xG q (fun ah q=>cF q ?_)
  simp only [Bool.or_eq_true,decide_eq_true_eq,not_or,Nat.not_le] at ah
  exact PyProof.Rows.floordiv_int ah.1 (ew I ⟨_,rfl⟩) (.inl (PyProof.noPylong_small ah.2))
 |Mod=>exact xG q fun ah q=>cF q (PyProof.Rows.mod_int' ah (ew I ⟨_,rfl⟩))
 |Pow=>
  refine cK q (fun ah q=>cF q ?_) Z
  simp only [Bool.and_eq_true,decide_eq_true_eq] at ah
  refine PyProof.Rows.pow_int ah.1.1 ?_ (ew I ⟨_,rfl⟩)
  exact Int.le_trans (Int.mul_le_mul (Int.ofNat_le.mpr (wU ah.2)) (Int.le_of_lt ah.1.2) ah.1.1 (by decide)) (by decide)
 |_=>exact Z q
theorem VA {x y:List H} {a b:Value} (ah:x.length+y.length<=a4) (I:aK w CM K env J ρ s fs) (ae:cv w CM ρ s (.aF x) a) (aQ:cv w CM ρ s (.aF y) b):
  wpAny (model aw w) A (binaryOp .Add a b) (b3 w CM K env J ρ s fs (.U (.aF (x++y))) fs) cc s:=by
 have Pe:=ae.C4
 have WQ:=aQ.C4
 refine dH (ae.aF I.base) ?_;intro a vs n u;subst u;intro M O
 refine dH (aQ.aF I.base) ?_;intro b cZ m u;subst u;intro Y aC
 have dq:(Array.mk vs).size+(Array.mk cZ).size<=sizeLine:=by
  have:=O.length;have:=aC.length;have:=jb
  simp only [List.size_toArray];exact B5 ah (by assumption) (by assumption) this
 by_cases ak:vs=[]
 ·subst ak
  have kd:=List.eq_nil_of_length_eq_zero (O.length.symm)
  refine concat_meets ⟨_,M,rfl⟩ ⟨_,Y,rfl⟩ noFill_tuple_add seq_tuple_add PySem.F.slot_tuple_add PySem.F.entry_tuple_add (PySem.F.args_tuple_add_2 _ _)
   (tuple_addW0 a b #[] (Array.mk cZ) n m none none #[] #[] (by simp)) ⟨M,Y,?_⟩
  refine B kd ?_
  exact ew (tk:=s.toks) I WQ
 ·by_cases ar:cZ=[]
  ·subst ar
   have W2:=List.eq_nil_of_length_eq_zero (aC.length.symm)
   refine concat_meets ⟨_,M,rfl⟩ ⟨_,Y,rfl⟩ noFill_tuple_add seq_tuple_add PySem.F.slot_tuple_add PySem.F.entry_tuple_add (PySem.F.args_tuple_add_2 _ _)
    (tuple_addW1 a b (Array.mk vs) #[] n m none none #[] #[] (by simpa using ak) (by simp)) ⟨M,Y,?_⟩
   (refine B W2 ?_;refine B (List.append_nil _) ?_)
   exact ew (tk:=s.toks) I Pe
  ·refine concat_meets ⟨_,M,rfl⟩ ⟨_,Y,rfl⟩ noFill_tuple_add seq_tuple_add PySem.F.slot_tuple_add PySem.F.entry_tuple_add (PySem.F.args_tuple_add_2 _ _)
    (tuple_addW2 a b (Array.mk vs) (Array.mk cZ) n m none none #[] #[] (by simpa using ak) (by simpa using ar) dq) ⟨M,Y,?_⟩
   refine yZ (tk:=s.toks) I (fun b ob e=>Heap.get?_push_of_some _ e) fd (by simpa using Heap.get?_push_size _ rfl) fun ρ' aB an cq=> ?_
   exact⟨_,vs++cZ,0,rfl,cq,(O.append aC).bt aB an⟩
theorem WG {x y:List H} {a b:Value} (ah:x.length+y.length<=a4) (I:aK w CM K env J ρ s fs) (ae:cv w CM ρ s (.am x) a) (aQ:cv w CM ρ s (.am y) b):
  wpAny (model aw w) A (binaryOp .Add a b) (b3 w CM K env J ρ s fs (.own (.am (x++y))) fs) cc s:=by
 refine dH (ae.am I.base) ?_;intro a vs n u;subst u;intro M O
 refine dH (aQ.am I.base) ?_;intro b cZ m u;subst u;intro Y aC
 have dq:(Array.mk vs).size+(Array.mk cZ).size<=sizeLine:=by
  have:=O.length;have:=aC.length;have:=jb
  simp only [List.size_toArray];exact B5 ah (by assumption) (by assumption) this
 exact P.add_list M Y (n0 (tk:=s.toks) I (fun b ob e=>Heap.get?_push_of_some _ e) fd ⟨vs++cZ,0,by simpa using Heap.get?_push_size _ rfl,O.append aC⟩) dq
theorem Js {bU:Operator} {x y:H} {a b:Value} {r:aU} (q:ke bU x y=some r) (I:aK w CM K env J ρ s fs) (ae:cv w CM ρ s x a) (aQ:cv w CM ρ s y b):
  wpAny (model aw w) A (binaryOp bU a b) (b3 w CM K env J ρ s fs r fs) cc s:=by
 cases x with
 |int x=>
  refine bG q (fun nb M q=>bG q (fun z O q=>cF q ?_) Z) Z
  have aQ:=jK M▸aQ
  refine bS ae.int ?_;intro t u;subst u
  refine bS aQ.int ?_;intro u v;subst v
  exact Un O I
 |aF x=>
  refine bG q (fun nb M q=>cK q (fun ah q=>cF q ?_) Z) Z
  refine B (FW (Bool.and_eq_true_iff.mp ah).1) ?_
  exact VA (of_decide_eq_true (Bool.and_eq_true_iff.mp ah).2) I ae (yg M▸aQ)
 |am x=>
  refine bG q (fun nb M q=>cK q (fun ah q=>cF q ?_) Z) Z
  refine B (FW (Bool.and_eq_true_iff.mp ah).1) ?_
  exact WG (of_decide_eq_true (Bool.and_eq_true_iff.mp ah).2) I ae (qX M▸aQ)
 |_=>exact Z q
end
end Mine
end
section
open PySem PySem.W PySem.Calls PyProof.Rows
namespace Mine
open PySem.SeqAt (EqAt RcAt RcNeAt)
section
variable{w:World} {CM:cn} {K:Top} {env:Env} {J:Scope} {A:Around} {ρ ρ₀ ρ':a5} {s c9 az:Shared} {fs fs':X} {R:bk}
theorem fv {h:Heap} {a:Addr} {vs:List Value} {n:Nat} (e:h.get? a=some (mD vs n)):h.IsList a (Array.mk vs):=⟨_,e,rfl,n,rfl⟩
theorem mr {h:Heap} {a:Addr} {vs:List Value} {n:Nat} (e:h.get? a=some (qI vs n)):h.IsTuple a (Array.mk vs):=⟨_,e,rfl,n,rfl⟩
theorem tI {f:H->H->Option Bool} (xs:List H):∀{cj:List H} {b:Bool},ll f xs cj=some b->
  ∃e:Nat->Bool,(∀j x y,xs[j]? =some x->cj[j]? =some y->f x y=some (e j))/\((List.range (min xs.length cj.length)).all e&&xs.length==cj.length)=b:=by
 induction xs with
 |nil=>
  intro cj b q
  refine⟨fun _=>true,fun j x y h=>Z h,?_⟩
  cases cj with
  |nil=>exact Option.some.inj q
  |cons _ _=>(refine B List.length_nil ?_;refine B (Nat.zero_min _) ?_);exact Option.some.inj q
 |cons x r ih=>
  intro cj b q
  cases cj with
  |nil=>
   refine⟨fun _=>true,fun j x y _ h=>Z h,?_⟩
   (refine B List.length_nil ?_;refine B (Nat.min_zero _) ?_);exact Option.some.inj q
  |cons y t=>
   refine hH q (fun a c bA hc q=>cF q ?_) Z
   obtain⟨e,M,O⟩:=ih hc
   refine⟨fun j=>Nat.rec a (fun j _=>e j) j,fun j u v b2 ay=> ?_,?_⟩
   ·cases j with
    |zero=>(refine bu (Option.some.inj b2) ?_;refine bu (Option.some.inj ay) ?_);exact bA
    |succ j=>exact M j u v b2 ay
   ·(refine bu O ?_;refine B List.length_cons ?_;refine B List.length_cons ?_;refine B (Nat.add_min_add_right _ _ _) ?_;refine B List.range_succ_eq_map ?_;refine B List.all_cons ?_;refine B List.all_map ?_;refine B (Bool.and_assoc _ _ _) ?_;refine B (show(r.length+1==t.length+1)=(r.length==t.length) by simp) ?_)
    rfl
theorem ue {f:H->H->Option Bool} {A:Around} {xs cj:List H} {vs cZ:List Value} {e:Nat->Bool} (O:a8 w CM ρ xs vs) (aC:a8 w CM ρ cj cZ) (ak:∀j x y,xs[j]? =some x->cj[j]? =some y->f x y=some (e j))
  (Yp:∀{x y:H} {v u:Value} {b:Bool},bX w CM ρ x v->bX w CM ρ y u->f x y=some b->EqAt A s v u b) (j:Nat) (tx:j<(Array.mk vs).size) (qB:j<(Array.mk cZ).size):EqAt A s (Array.mk vs)[j] (Array.mk cZ)[j] (e j):=by
 have aM:=List.getElem?_eq_getElem (Nat.lt_of_lt_of_eq tx O.length)
 have a1:=List.getElem?_eq_getElem (Nat.lt_of_lt_of_eq qB aC.length)
 refine bb (O.gk aM) ?_;intro eS bZ bo
 refine bb (aC.gk a1) ?_;intro nb ee h1
 have eM:(Array.mk vs)[j]=eS:=Option.some.inj ((List.getElem?_eq_getElem tx).symm.trans bZ)
 have ka:(Array.mk cZ)[j]=nb:=Option.some.inj ((List.getElem?_eq_getElem qB).symm.trans ee)
 (refine B eM ?_;refine B ka ?_)
 exact Yp bo h1 (ak j _ _ aM a1)
theorem Ey {xs cj:List H} {vs cZ:List Value} {e:Nat->Bool} {b:Bool} (O:a8 w CM ρ xs vs) (aC:a8 w CM ρ cj cZ) (q:((List.range (min xs.length cj.length)).all e&&xs.length==cj.length)=b):((List.range (min vs.length cZ.length)).all e&&vs.length==cZ.length)=b:=by
 (refine bu q ?_;refine B O.length ?_;refine B aC.length ?_;rfl)
theorem Ez {xs cj:List H} {vs cZ:List Value} {e:Nat->Bool} {b:Bool} (O:a8 w CM ρ xs vs) (aC:a8 w CM ρ cj cZ) (aq:xs.length=cj.length) (q:((List.range (min xs.length cj.length)).all e&&xs.length==cj.length)=b):(List.range vs.length).all e=b:=by
 (refine bu q ?_;refine bu aq ?_;refine B (Nat.min_self _) ?_;refine B (beq_self_eq_true _) ?_;refine B (Bool.and_true _) ?_;refine B O.length ?_;rfl)
theorem Dy {f:H->H->Option Bool} (aB:∀{x y:H} {v:Value} {b:Bool},bX w CM ρ x v->bX w CM ρ y v->f x y=some b->b=true) (xs:List H):∀{cj:List H} {vs:List Value} {b:Bool},a8 w CM ρ xs vs->a8 w CM ρ cj vs->ll f xs cj=some b->b=true:=by
 induction xs with
 |nil=>
  intro cj vs b M O e
  replace O:=(show vs=[] from M)▸O
  cases cj with
  |nil=>exact(Option.some.inj e).symm
  |cons y t=>obtain⟨v,dW,q,_⟩:=O;cases q
 |cons x r ih=>
  intro cj vs b M O e
  refine dP M ?_;clear M;intro v dW u;subst u;intro Y aC
  cases cj with
  |nil=>cases(show _=[] from O)
  |cons y t=>
   refine dP O ?_;clear O;intro eZ Zu q bR dK
   cases q
   exact hH e (fun a c bA hc e=>cF e (by(refine B (aB Y bR bA) ?_;refine B (ih aC dK hc) ?_);rfl)) Z
theorem Xv (n:Nat):∀{x y:H} {v:Value} {b:Bool},bX w CM ρ x v->bX w CM ρ y v->eO n x y=some b->b=true:=by
 induction n with
 |zero=>intro x y v b _ _ e;exact Z e
 |succ n ih=>
  intro x y v b ae aQ e
  revert ae aQ
  refine wM e (fun _ _=>rfl) (fun i ae aQ=> ?_) (fun i ae aQ=> ?_) (fun i j ae aQ=> ?_) (fun i j ae aQ=> ?_) (fun i j b e ae aQ=> ?_) (fun i j b aq e ae aQ=> ?_) (fun i j aq ae aQ=> ?_)
  ·rw [show v=.none from ae] at aQ;obtain⟨u,q⟩:=aQ;cases q
  ·rw [show v=.none from aQ] at ae;obtain⟨u,q⟩:=ae;cases q
  ·obtain⟨t,rfl⟩:=ae;obtain⟨u,q⟩:=aQ;injection q with q;refine B q ?_;exact beq_self_eq_true _
  ·obtain⟨t,rfl⟩:=ae;obtain⟨u,q⟩:=aQ;injection q with q;refine B q ?_;exact beq_self_eq_true _
  ·obtain⟨a,vs,k,rfl,M,O⟩:=ae
   obtain⟨jo,cZ,cS,q,Y,aC⟩:=aQ
   cases q;replace Y:=M▸Y;cases Y
   exact Dy ih i O aC e
  ·obtain⟨a,vs,k,rfl,M,O⟩:=ae
   obtain⟨jo,cZ,cS,q,Y,aC⟩:=aQ
   cases q;replace Y:=M▸Y;cases Y
   exact Dy ih i O aC e
  ·obtain⟨a,vs,k,rfl,M,O⟩:=ae
   obtain⟨jo,cZ,cS,q,Y,aC⟩:=aQ
   cases q;replace Y:=M▸Y;cases Y
   exact absurd (O.length.symm.trans aC.length) aq
theorem wv {per:List H} (ap:cH w CM K ρ s per) (n:Nat):∀{A:Around} {x y:H} {v u:Value} {b:Bool},A.units+n<cLine->bX w CM ρ x v->bX w CM ρ y u->eO n x y=some b->EqAt A s v u b:=by
 induction n with
 |zero=>intro A x y v u b _ _ _ e;exact Z e
 |succ n ih=>
  intro A x y v u b b2 ae aQ e
  by_cases q0:v=u
  ·rw [<-q0] at aQ|-
   refine B (Xv (n+1) ae aQ e) ?_
   exact EqAt.same v
  have sU:A.in1.units+n<cLine:=by(refine B (Around.in1_units _) ?_;refine B (Nat.add_assoc _ _ _) ?_;refine B (Nat.add_comm 1 _) ?_);exact b2
  have jH:A.units<cLine:=Nat.lt_of_le_of_lt (Nat.le_add_right _ _) b2
  revert ae aQ
  refine wM e (fun ae aQ=> ?_) (fun i ae aQ=> ?_) (fun i ae aQ=> ?_) (fun i j ae aQ=> ?_) (fun i j ae aQ=> ?_) (fun i j b e ae aQ=> ?_) (fun i j b aq e ae aQ=> ?_) (fun i j aq ae aQ=> ?_)
  ·exact absurd ((show v=.none from ae).trans (show u=.none from aQ).symm) q0
  ·refine B (show v=.none from ae) ?_;obtain⟨dW,rfl⟩:=aQ;exact EqAt.none_int _ _
  ·refine B (show u=.none from aQ) ?_;obtain⟨dW,rfl⟩:=ae;exact EqAt.int_none _ _
  ·obtain⟨t,rfl⟩:=ae;obtain⟨dW,rfl⟩:=aQ;exact EqAt.int_int _ _ _ _
  ·obtain⟨t,rfl⟩:=ae;obtain⟨dW,rfl⟩:=aQ;exact EqAt.str_str _ _ _ _
  ·obtain⟨a,vs,k,rfl,M,O⟩:=ae
   obtain⟨jo,cZ,cS,rfl,Y,aC⟩:=aQ
   obtain⟨yN,ak,ar⟩:=tI i e
   exact EqAt.of_refs (fun q=>q0 (by(refine B q ?_;rfl))) (Ey O aC ar▸RcAt.tuples (mr (ap.bK _ _ M)) (mr (ap.bK _ _ Y)) jH (ue O aC ak (ih sU)))
  ·obtain⟨a,vs,k,rfl,M,O⟩:=ae
   obtain⟨jo,cZ,cS,rfl,Y,aC⟩:=aQ
   obtain⟨yN,ak,ar⟩:=tI i e
   exact EqAt.of_refs (fun q=>q0 (by(refine B q ?_;rfl))) (Ez O aC aq ar▸RcAt.lists (fv (ap.bK _ _ M)) (fv (ap.bK _ _ Y)) (O.length.trans (aq.trans aC.length.symm)) jH (ue O aC ak (ih sU)))
  ·obtain⟨a,vs,k,rfl,M,O⟩:=ae
   obtain⟨jo,cZ,cS,rfl,Y,aC⟩:=aQ
   exact EqAt.of_refs (fun q=>q0 (by(refine B q ?_;rfl))) (RcAt.lists_lengths (fv (ap.bK _ _ M)) (fv (ap.bK _ _ Y)) (bne_iff_ne.mpr fun q=>aq (O.length.symm.trans (Eq.trans q aC.length))) jH)
noncomputable def y9 (w:World) (A:Around) (s:Shared) (v u:Value) (b:Bool):Prop:=
 (∀(E:Value->Shared->Prop) (Q:Value->Shared->Prop),Q (.bool b) s->wpAny (model aw w) A (compareOp .Eq v u) Q E s)/\∀(E:Value->Shared->Prop) (Q:Value->Shared->Prop),Q (.bool (!b)) s->wpAny (model aw w) A (compareOp .NotEq v u) Q E s
theorem y9.of {v u:Value} {b:Bool} (h:RcAt A s v u b) (h':RcNeAt A s v u (!b)):y9 w A s v u b:=⟨fun E Q q=>h aw w E Q q,fun E Q q=>h' aw w E Q q⟩
theorem Vn {i j:List (al×H)} {b:Bool} (h:vQ i j=some b):(i.length=j.length->i=[])/\b=(i.length==j.length):=by
 cases i with
 |nil=>cases j<;>exact⟨fun _=>rfl,(Option.some.inj h).symm⟩
 |cons _ _=>cases j with
  |nil=>exact⟨fun q=>(nomatch q),(Option.some.inj h).symm⟩
  |cons _ _=>exact Z h
theorem FG {per:List H} (ap:cH w CM K ρ s per) {A:Around} {x y:H} {v u:Value} {b:Bool} (b2:A.units+eK<cLine) (ae:cv w CM ρ s x v) (aQ:cv w CM ρ s y u) (e:um x y=some b):y9 w A s v u b:=by
 have jH:A.units<cLine:=Nat.lt_of_le_of_lt (Nat.le_add_right _ _) b2
 have sU:A.in1.units+31<cLine:=by(refine B (Around.in1_units _) ?_;refine B (Nat.add_assoc _ _ _) ?_);exact b2
 refine J5 e (fun i j ak ar h=> ?_) (fun e=> ?_)
 ·obtain⟨M,O⟩:=Vn h
  obtain⟨a,vE,rfl,bA,lX,lZ⟩:=cv.V ap (ak▸ae)
  obtain⟨jo,wj,rfl,kW,Fu,AZ⟩:=cv.V ap (ar▸aQ)
  have Ha:∀kb,vE.length=wj.length->KeqHits (K:=al) kb s wj vE true:=fun kb q=>by
   refine B (show vE=[] from List.eq_nil_of_length_eq_zero (by rw [lZ.length,M (lZ.length.symm.trans (q.trans AZ.length))];rfl)) ?_;exact .nil
  have ah:b=(vE.length==wj.length&&true):=by(refine B O ?_;refine B lZ.length ?_;refine B AZ.length ?_;refine B (Bool.and_true _) ?_;rfl)
  refine B ah ?_
  exact⟨fun E Q q=>keq_eq bA kW lX Fu jH (Ha _) q,fun E Q q=>keq_ne bA kW lX Fu jH (Ha _) q⟩
 ·revert ae aQ
  refine wM (show eO (31+1) x y=some b from e) (fun ae aQ=> ?_) (fun i ae aQ=> ?_) (fun i ae aQ=> ?_) (fun i j ae aQ=> ?_) (fun i j ae aQ=> ?_) (fun i j b e ae aQ=> ?_) (fun i j b aq e ae aQ=> ?_) (fun i j aq ae aQ=> ?_)
  ·(refine B ae.none ?_;refine B aQ.none ?_);exact .of (RcAt.none_none) (RcNeAt.none_none)
  ·refine B ae.none ?_;obtain⟨dW,rfl⟩:=aQ.int;exact .of (RcAt.none_int _ _) (RcNeAt.none_int _ _)
  ·refine B aQ.none ?_;obtain⟨dW,rfl⟩:=ae.int;exact .of (RcAt.int_none _ _) (RcNeAt.int_none _ _)
  ·obtain⟨t,rfl⟩:=ae.int;obtain⟨dW,rfl⟩:=aQ.int;exact .of (RcAt.int_int _ _ _ _) (RcNeAt.int_int _ _ _ _)
  ·obtain⟨t,rfl⟩:=ae.str;obtain⟨dW,rfl⟩:=aQ.str;exact .of (RcAt.str_str _ _ _ _) (RcNeAt.str_str _ _ _ _)
  ·obtain⟨a,vs,k,rfl,M,O⟩:=ae.aF ap
   obtain⟨jo,cZ,cS,rfl,Y,aC⟩:=aQ.aF ap
   obtain⟨yN,ak,ar⟩:=tI i e
   have aX:=ue O aC ak (wv ap 31 sU)
   refine bu (Ey O aC ar) ?_
   exact .of (RcAt.tuples (mr M) (mr Y) jH aX) (RcNeAt.tuples (mr M) (mr Y) jH aX)
  ·obtain⟨a,vs,k,rfl,M,O⟩:=ae.am ap
   obtain⟨jo,cZ,cS,rfl,Y,aC⟩:=aQ.am ap
   obtain⟨yN,ak,ar⟩:=tI i e
   have aX:=ue O aC ak (wv ap 31 sU)
   have dq:(Array.mk vs).size=(Array.mk cZ).size:=O.length.trans (aq.trans aC.length.symm)
   refine bu (Ez O aC aq ar) ?_
   exact .of (RcAt.lists (fv M) (fv Y) dq jH aX) (RcNeAt.lists (fv M) (fv Y) dq jH aX)
  ·obtain⟨a,vs,k,rfl,M,O⟩:=ae.am ap
   obtain⟨jo,cZ,cS,rfl,Y,aC⟩:=aQ.am ap
   have dq:((Array.mk vs).size !=(Array.mk cZ).size)=true:=bne_iff_ne.mpr fun q=>aq (O.length.symm.trans (Eq.trans q aC.length))
   exact .of (RcAt.lists_lengths (fv M) (fv Y) dq jH) (RcNeAt.lists_lengths (fv M) (fv Y) dq jH)
theorem NX {x:Str} (l:List H):∀{b:Bool} {vs:List Value},a8 w CM ρ l vs->y8 x l=some b->(∀y∈vs,∃z t,y=.str z t)/\b=vs.any (fun y=>match y with|.str z _=>decide (z=x)|_=>false):=by
 induction l with
 |nil=>intro b vs h q;refine B (show vs=[] from h) ?_;exact⟨fun y aQ=>(nomatch aQ),(Option.some.inj q).symm⟩
 |cons y r ih=>
  intro b vs h q
  refine bG q (fun z hz q=> ?_) Z
  replace h:=(yO hz)▸h
  obtain⟨v,t,rfl,⟨tk,rfl⟩,O⟩:=h
  refine bb (Option.map_eq_some_iff.mp q) ?_;intro c hc u;subst u
  refine cl (ih O hc) ?_;intro Y aC
  refine⟨fun y aQ=> ?_,?_⟩
  ·rcases List.mem_cons.mp aQ with rfl|aQ
   ·exact⟨_,_,rfl⟩
   ·exact Y y aQ
  ·(refine B List.any_cons ?_;refine B aC ?_;rfl)
theorem bX.fG {x:H} {v:Value} (q:bX w CM ρ x v):(v==.none)=fG x:=by
 cases x with
 |none=>refine B (show v=.none from q) ?_;rfl
 |bool _=>refine B (show v=_ from q) ?_;rfl
 |int _=>exact q.elim fun t h=>by refine B h ?_;rfl
 |str _=>exact q.elim fun t h=>by refine B h ?_;rfl
 |aF _=>obtain⟨a,vs,n,h,_⟩:=q;refine B h ?_;rfl
 |am _=>obtain⟨a,vs,n,h,_⟩:=q;refine B h ?_;rfl
 |V _=>obtain⟨a,_,_,_,_,h,_⟩:=q;refine B h ?_;rfl
 |dS _ _=>obtain⟨a,_,_,_,h,_⟩:=q;refine B h ?_;rfl
 |per _=>obtain⟨a,h,_⟩:=q;refine B h ?_;rfl
theorem cv.fG {x:H} {v:Value} (q:cv w CM ρ s x v):(v==.none)=fG x:=by
 cases q with
 |ga h=>exact bX.fG h
 |«at» a ay h=>
  refine B ay ?_
  cases x<;>first|exact h.elim|rfl
theorem cv.key {x:H} {v:Value} {k:al} (q:cv w CM ρ s x v) (h:gf x=some k):iy k v=true:=by
 cases x with
 |int i=>cases h;obtain⟨t,rfl⟩:=q.int;exact X8 i t
 |str i=>cases h;obtain⟨t,rfl⟩:=q.str;exact E8 i t
 |_=>cases h
theorem MB {bU:CmpOp} {x y:H} {v u:Value} {b:Bool} (q:eF bU x y=some b) (b2:A.units+eK<cLine) (I:aK w CM K env J ρ s fs) (ae:cv w CM ρ s x v) (aQ:cv w CM ρ s y u):
  wpAny (model aw w) A (compareOp bU v u) (b3 w CM K env J ρ s fs (.U (.bool b)) fs) cc s:=by
 have cM:∀{c:Bool},c=b->b3 w CM K env J ρ s fs (.U (.bool b)) fs (.bool c) s:=fun h=>h▸ew (tk:=s.toks) I rfl
 have Fs:∀{c:Bool},c=b->b3 w CM K env J ρ s fs (.U (.bool b)) fs (.bool c) {s with toks:=s.toks+1}:=fun h=>h▸ew I rfl
 have da:∀{f:Int->Int->Bool},(fn (fY x) (fY y) fun i j=>some (f i j))=some b->∃i j t dW,v=.int i t/\u=.int j dW/\f i j=b:=fun q=>
  hH q (fun i j M O q=>(cv.int (jK M▸ae)).elim fun t e=>(cv.int (jK O▸aQ)).elim fun dW cg=>⟨i,j,t,dW,e,cg,Option.some.inj q⟩) Z
 cases bU with
 |Lt=>obtain⟨i,j,t,dW,rfl,rfl,q⟩:=da q;exact PyProof.Rows.lt_int (cM q)
 |LtE=>obtain⟨i,j,t,dW,rfl,rfl,q⟩:=da q;exact PyProof.Rows.le_int (cM q)
 |Gt=>obtain⟨i,j,t,dW,rfl,rfl,q⟩:=da q;exact PyProof.Rows.gt_int (cM q)
 |GtE=>obtain⟨i,j,t,dW,rfl,rfl,q⟩:=da q;exact PyProof.Rows.ge_int (cM q)
 |Eq=>exact(FG I.base b2 ae aQ q).1 _ _ (cM rfl)
 |NotEq=>exact(Option.map_eq_some_iff.mp q).elim fun c e=>(FG I.base b2 ae aQ e.1).2 _ _ (cM e.2)
 |Is=>
  refine cK q (fun h q=> ?_) Z
  have aQ:cv w CM ρ s .none u:=yr h▸aQ
  refine B aQ.none ?_
  exact is_none (cM (ae.fG.trans (Option.some.inj q)))
 |IsNot=>
  refine cK q (fun h q=> ?_) Z
  have aQ:cv w CM ρ s .none u:=yr h▸aQ
  refine B aQ.none ?_
  exact isNot_none (cM (by refine B ae.fG ?_;exact Option.some.inj q))
 |In=>
  cases y with
  |V l=>
   refine bb (Option.map_eq_some_iff.mp q) ?_;intro k ag u;subst u
   refine gv (aQ.V I.base) ?_;intro a aS u;subst u;intro bA lX lZ
   exact wpAny_in_of (knd:=kk w) (ae.key ag) bA lX.mapOf (Fs lZ.isSome)
  |aF l=>
   refine bG q (fun z hz q=> ?_) Z
   obtain⟨t,rfl⟩:=cv.str (yO hz▸ae)
   refine dH (aQ.aF I.base) ?_;intro a vs n u;subst u;intro M O
   refine cl (NX l O q) ?_;intro Y aC
   refine PySem.SeqAt.in_tupleAt _ (mr M) (fun y aQ=> ?_) (cM (by refine B aC ?_;simp;rfl))
   obtain⟨z,dW,rfl⟩:=Y y (by simpa using aQ)
   exact EqAt.str_str _ _ _ _
  |_=>exact Z q
 |NotIn=>
  refine bG q (fun l aq q=> ?_) Z
  refine bb (Option.map_eq_some_iff.mp q) ?_;intro k ag u;subst u
  refine gv (cv.V I.base (xa aq▸aQ)) ?_;intro a aS u;subst u;intro bA lX lZ
  exact wpAny_notIn_of (knd:=kk w) (ae.key ag) bA lX.mapOf (Fs (by(refine B lZ.isSome ?_;rfl)))
end
end Mine
end
section
open PySem PySem.W PySem.Calls PyProof.Rows
namespace Mine
section
variable{w:World} {CM:cn} {K:Top} {env:Env} {J:Scope} {A:Around} {ρ ρ₀ ρ':a5} {s c9 az:Shared} {fs fs':X} {R:bk}
theorem H7 {c:Const} {k:Nat} {pos:Pos} {r:aU} (q:A0 c fs=some (r,fs')) (I:aK w CM K env J ρ s fs):wpAny (model aw w) A (eval (.Constant c k pos) env) (b3 w CM K env J ρ s fs r fs') cc s:=by
 cases c with
 |none=>exact b6 q (wpAny_Constant_none (ew (tk:=s.toks) I rfl))
 |bool b=>exact b6 q (wpAny_Constant_bool (ew (tk:=s.toks) I rfl))
 |int i=>exact b6 q (wpAny_Constant_int (ew I ⟨_,rfl⟩))
 |str x=>exact b6 q (wpAny_Constant_str (ew I ⟨_,rfl⟩))
 |_=>exact Z q
theorem Lu {x:Str} {pos:Pos} {bh:cf} (q:getL x fs.loc=some bh) (hd:(x==("__debug__":Str))=false) (I:aK w CM K env J ρ s fs):
  wpAny (model aw w) A (eval (.Name x pos) env) (b3 w CM K env J ρ s fs (zQ x bh) fs) cc s:=by
 refine bb (I.eW x bh q) ?_;intro v M O
 have cM:b3 w CM K env J ρ s fs (zQ x bh) fs v s:=by
  refine⟨ρ,I,a2.refl ..,cb.refl ..,?_⟩
  cases bh with
  |U y=>exact O
  |aD y=>obtain⟨a,Y,aC⟩:=O;exact⟨a,Y,.inl aC⟩
 rcases M with⟨bW,cC,m,cY,dX⟩|⟨bW,cC,c,cY,dX⟩
 ·exact wpAny_Name (wpAny_loadName_local I.c0.kind cC cY dX cM) hd
 ·exact wpAny_Name (wpAny_loadName_cell I.c0.kind cC cY dX cM) hd
theorem Oa (S:cB w CM K env J A R) {pos:Pos} (es:List Expr):∀{b:Bool} {fs fs':X} {ρ:a5} {s:Shared},nR R es fs=some (b,fs')->aK w CM K env J ρ s fs->
  wpAny (model aw w) A (boolOp pos .And (evalEach es env)) (b3 w CM K env J ρ s fs (.U (.bool b)) fs') cc s:=by
 induction es with
 |nil=>intro b fs fs' ρ s q I;exact Z q
 |cons e es ih=>
  intro b fs fs' ρ s q I
  refine EK q (fun gh fs₁ bw q=> ?_) Z
  cases es with
  |nil=>exact b6 (show some (gh,fs₁)=some (b,fs') by cases gh<;>exact q) (S.ba e fs _ fs₁ bw ρ s I)
  |cons cg es=>
   show wpAny _ A (eval e env>>=fun v=>standAt pos>>=fun _=>holding [v] (truthy v)>>=fun t=>match BoolOp.And,t with
    |.And,false|.Or,true=>pure v
    |_,_=>boolOp pos .And (evalEach (cg::es) env)) _ _ s
   refine wpAny_bind (S.eV bw I fun v aj aN aZ a0 bv aP=> ?_)
   refine B (show v=.bool gh from aP) ?_
   refine wpAny_bind (wpAny_standAt (wpAny_bind (wpAny_holding (wpAny_truthy_bool ?_))))
   cases gh with
   |false=>exact b6 (show some (false,fs₁)=some (b,fs') from q) (wpAny_pure ⟨aN,aZ,a0,bv,rfl⟩)
   |true=>exact iF a0 bv (ih q aZ)
theorem NT (S:cB w CM K env J A R) {bU:BoolOp} (es:List Expr):∀{b:Bool} {fs fs':X} {ρ:a5} {s:Shared},xo R bU es fs=some (b,fs')->aK w CM K env J ρ s fs->
  wpAny (model aw w) A (allTrue bU es env) (kj w CM K env J ρ s fs b fs') cc s:=by
 induction es with
 |nil=>
  intro b fs fs' ρ s q I
  refine b6 q ?_
  cases bU
  ·exact wpAny_allTrue_And_nil ⟨rfl,ρ,I,a2.refl ..,cb.refl ..⟩
  ·exact wpAny_allTrue_Or_nil ⟨rfl,ρ,I,a2.refl ..,cb.refl ..⟩
 |cons e es ih=>
  intro b fs fs' ρ s q I
  refine b5 q (fun gh fs₁ bw q=> ?_) Z
  cases bU<;>cases gh
  ·refine wpAny_allTrue_And_cons (S.lx bw I fun aj aN aZ a0 bv=> ?_);exact b6 (show some (false,fs₁)=some (b,fs') from q) ⟨rfl,aN,aZ,a0,bv⟩
  ·exact wpAny_allTrue_And_cons (S.lx bw I fun aj aN aZ a0 bv=>rT a0 bv (ih q aZ))
  ·exact wpAny_allTrue_Or_cons (S.lx bw I fun aj aN aZ a0 bv=>rT a0 bv (ih q aZ))
  ·refine wpAny_allTrue_Or_cons (S.lx bw I fun aj aN aZ a0 bv=> ?_);exact b6 (show some (true,fs₁)=some (b,fs') from q) ⟨rfl,aN,aZ,a0,bv⟩
theorem Ir (S:cB w CM K env J A R) {bU:CmpOp} {e:Expr} {p:aU×X} (q:R.ba e fs=some p):behindInMarks bU e=false:=by
 cases e with
 |Set es k p=>exact Z ((S.set es k p fs).symm.trans q)
 |_=>rfl
theorem uG (b2:A.units+eK<cLine) {aN:a5} {aj:Shared} {fs₁:X} {bU:CmpOp} {left r:aU} {x y:H} {bh fj:Value} {c:Bool} {Q E:Value->Shared->Prop} (hc:eF bU x y=some c) (aq:eP w CM ρ₀ ρ s fs left bh)
  (ae:fs₁.cE left=some x) (aQ:fs₁.cE r=some y) (aZ:aK w CM K env J aN aj fs₁) (a0:a2 ρ s aN aj) (bv:cb ρ fs.loc aN fs₁.loc) (aP:eP w CM ρ aN aj fs₁ r fj)
  (k:∀ct b8,aK w CM K env J b8 ct fs₁->a2 ρ s b8 ct->cb ρ fs.loc b8 fs₁.loc->eP w CM ρ b8 ct fs₁ r fj->Q (.bool c) ct):wpAny (model aw w) A (compareOp bU bh fj) Q E aj:=
 Jw (MB hc b2 aZ (hT aZ (aq.bt a0 bv) ae) (hT aZ aP aQ)) fun v ct b8 cN b9 dG h=>by
  refine B (show v=.bool c from h) ?_;exact k ct b8 cN (a0.trans b9) (bv.trans dG) (aP.bt b9 dG)
theorem G2 (S:cB w CM K env J A R) (b2:A.units+eK<cLine) {pos:Pos} (e6:List CmpOp):∀{ρ₀:a5} {es:List Expr} {left:aU} {b:Bool} {fs fs':X} {ρ:a5} {s:Shared} {bh:Value},sB R left e6 es fs=some (b,fs')->aK w CM K env J ρ s fs->
  eP w CM ρ₀ ρ s fs left bh->
  wpAny (model aw w) A (compareChain pos bh e6 (markedEach e6 es (evalEach es env))) (b3 w CM K env J ρ s fs (.U (.bool b)) fs') cc s/\
  wpAny (model aw w) A (testChain pos bh e6 (markedEach e6 es (evalEach es env))) (kj w CM K env J ρ s fs b fs') cc s:=by
 induction e6 with
 |nil=>intro ρ₀ es left b fs fs' ρ s bh q;exact Z q
 |cons bU e6 ih=>
  intro ρ₀ es left b fs fs' ρ s bh q I aq
  cases es with
  |nil=>exact Z q
  |cons e es=>
   refine b5 q (fun r fs₁ bw q=>hH q (fun x y ae aQ q=>bG q (fun c hc q=> ?_) Z) Z) Z
   cases e6 with
   |nil=>
    cases es with
    |cons _ _=>exact Z q
    |nil=>
     refine b6 (show some (c,fs₁)=some (b,fs') from q) ?_
     refine B (show markedEach [bU] [e] (evalEach [e] env)=[eval e env] by show [markedBehindIn bU e (eval e env)]=_;rw [markedBehindIn_of_false (Ir S bw)]) ?_
     constructor
     ·show wpAny _ A (holding [bh] (eval e env)>>=fun fj=>standAt pos>>=fun _=>operate [bh,fj] (compareOp bU bh fj)) _ _ s
      exact wpAny_bind (wpAny_holding (S.eV bw I fun fj aj aN aZ a0 bv aP=>wpAny_bind (wpAny_standAt (wpAny_operate' (uG b2 hc aq ae aQ aZ a0 bv aP fun ct b8 cN b9 dG _=>⟨b8,cN,b9,dG,rfl⟩)))))
     ·show wpAny _ A (holding [bh] (eval e env)>>=fun fj=>standAt pos>>=fun _=>operate [bh,fj] (compareOp bU bh fj)>>=fun c=>holding [c] (truthy c)) _ _ s
      exact wpAny_bind (wpAny_holding (S.eV bw I fun fj aj aN aZ a0 bv aP=>wpAny_bind (wpAny_standAt (wpAny_bind (wpAny_operate' (uG b2 hc aq ae aQ aZ a0 bv aP fun ct b8 cN b9 dG _=>wpAny_holding (wpAny_truthy_bool ⟨rfl,b8,cN,b9,dG⟩)))))))
   |cons kz e6=>
    cases es with
    |nil=>exact Z q
    |cons cg es=>
     have q:br (ub r) (fun v=>if c=true then sB R (.U v) (kz::e6) (cg::es) fs₁ else some (false,fs₁))=some (b,fs'):=q
     refine bG q (fun v ay q=> ?_) Z
     rw [FY ay] at bw aQ
     refine B (show markedEach (bU::kz::e6) (e::cg::es) (evalEach (e::cg::es) env)=eval e env::markedEach (kz::e6) (cg::es) (evalEach (cg::es) env) from rfl) ?_
     constructor
     ·show wpAny _ A (holding [bh] (eval e env)>>=fun fj=>standAt pos>>=fun _=>holding [bh,fj] (compareOp bU bh fj)>>=fun c=>release [bh,fj] [c]>>=fun _=>holding [c,fj] (truthy c)>>=fun t=>if t=true then compareChain pos fj (kz::e6) _ else pure c) _ _ s
      refine wpAny_bind (wpAny_holding (S.eV bw I fun fj aj aN aZ a0 bv aP=>wpAny_bind (wpAny_standAt (wpAny_bind (wpAny_holding (uG b2 hc aq ae aQ aZ a0 bv aP fun ct b8 cN b9 dG nN=>wpAny_bind (PyProof.Rows.wpAny_release' (wpAny_bind (wpAny_holding (wpAny_truthy_bool ?_))))))))))
      cases c with
      |true=>exact iF b9 dG (ih ((if_pos rfl).symm.trans q) cN nN).1
      |false=>exact b6 (show some (false,fs₁)=some (b,fs') from q) (wpAny_pure ⟨b8,cN,b9,dG,rfl⟩)
     ·show wpAny _ A (holding [bh] (eval e env)>>=fun fj=>standAt pos>>=fun _=>holding [bh,fj] (compareOp bU bh fj)>>=fun c=>release [bh,fj] [c]>>=fun _=>holding [c,fj] (truthy c)>>=fun t=>if t=true then testChain pos fj (kz::e6) _ else pure false) _ _ s
      refine wpAny_bind (wpAny_holding (S.eV bw I fun fj aj aN aZ a0 bv aP=>wpAny_bind (wpAny_standAt (wpAny_bind (wpAny_holding (uG b2 hc aq ae aQ aZ a0 bv aP fun ct b8 cN b9 dG nN=>wpAny_bind (PyProof.Rows.wpAny_release' (wpAny_bind (wpAny_holding (wpAny_truthy_bool ?_))))))))))
      cases c with
      |true=>exact rT b9 dG (ih ((if_pos rfl).symm.trans q) cN nN).2
      |false=>exact b6 (show some (false,fs₁)=some (b,fs') from q) (wpAny_pure ⟨rfl,b8,cN,b9,dG⟩)
theorem NV {l:List H} {vs:List Value} (h:a8 w CM ρ l vs):vs.isEmpty=l.isEmpty:=by
 have:=h.length
 cases vs<;>cases l<;>first|rfl|exact(nomatch this)
theorem PP {x:H} {v:Value} {b:Bool} (q:Bc x=some b) (I:aK w CM K env J ρ s fs) (h:cv w CM ρ s x v):wpAny (model aw w) A (truthy v) (kj w CM K env J ρ s fs b fs) cc s:=by
 cases x with
 |bool c=>
  refine B h.bool ?_
  exact cF q (wpAny_truthy_bool ⟨rfl,ρ,I,a2.refl ..,cb.refl ..⟩)
 |am l=>
  refine cK q (fun hz q=>cF q ?_) Z
  refine dH (h.am I.base) ?_;intro a vs n u;subst u;intro M O
  refine wpAny_truthy_list (fv M) ?_ ⟨?_,ρ,I.tok,a2.tok,cb.refl ..⟩
  ·refine B (show(Array.mk vs).size=l.length from O.length) ?_;exact Int.ofNat_lt.mpr (Nat.lt_of_le_of_lt hz (by decide))
  ·refine bu (NV O) ?_;cases vs<;>rfl
 |_=>exact Z q
end
end Mine
end
section
open PySem PySem.W PySem.Calls PyProof.Rows
namespace Mine
structure zq (CM:cn) (K:Frag):Prop where
 sR:∀c C a,CM c=some C->pQ c a=true->hasDictIn K C=true/\plainGet K C a=true/\∃ol,findIn K (.ref C) a=some ol/\noGet K ol=true
section
variable{w:World} {CM:cn} {K:Top} {env:Env} {J:Scope} {A:Around} {ρ ρ₀ ρ':a5} {s c9 az:Shared} {fs fs':X} {R:bk}
theorem cH.h2 {per:List H} {a:Addr} {h':Heap} {tk:Nat} (ap:cH w CM K ρ s per) (hd:ρ a=.aV) (hs:Heap.SameBut a s.heap h') (aq:h'.get? a≠none):cH w CM K ρ {s with heap:=h',toks:=tk} per where
 fU:=ap.fU
 fz:=ap.fz
 fq:=fun b e=>let⟨M,o,O,Y⟩:=ap.fq b e;⟨M,o,(hs.2 b (fun q=>by subst q;replace M:=hd▸M;exact M)).trans O,Y⟩
 bK:=fun b ob e=>(hs.2 b (d6 e hd)).trans (ap.bK b ob e)
 c1:=fun b=>by
  by_cases q:b=a
  ·subst q;refine B hd ?_;exact⟨fun e=>(nomatch e),fun e=>absurd e aq⟩
  ·show ρ b=.free↔h'.get? b=none
   refine B (hs.2 b q) ?_;exact ap.c1 b
 gq:=ap.gq
 fS:=fun b k e=>let⟨x,M,O⟩:=ap.fS b k e;⟨x,M,O.bt (fun _ _ q=>q) (fun _ _ q=>q) fun ob q=>(hs.2 b (d6 e hd)).trans q⟩
 inj:=ap.inj
theorem aK.h2 {a:Addr} {h':Heap} {tk:Nat} (I:aK w CM K env J ρ s fs) (hd:ρ a=.aV) (eE:∀x c,J.names.lookup x=some .free->env.cells.lookup x=some c->c≠a) (hs:Heap.SameBut a s.heap h') (aq:h'.get? a≠none):
  aK w CM K env J ρ {s with heap:=h',toks:=tk} fs where
 base:=I.base.h2 hd hs aq
 c0:=I.c0
 cJ:=I.cJ
 fC:=let⟨m,e⟩:=I.fC;⟨m,e.sameBut hs (d6 I.cJ hd)⟩
 eW:=fun x bh e=>by
  refine bb (I.eW x bh e) ?_;intro v M O
  refine⟨v,?_,O⟩
  rcases M with⟨bW,cC,m,cY,dX⟩|⟨bW,cC,c,cY,dX⟩
  ·exact .inl ⟨bW,cC,m,cY.sameBut hs (d6 I.cJ hd),dX⟩
  ·refine .inr ⟨bW,cC,c,cY,dX.sameBut hs ?_⟩
   rcases bW with bW|bW
   ·intro q
    refine dP (I.cells x bW) ?_;intro c' eZ cT dE _
    replace cT:=cY▸cT;cases cT
    (replace dE:=q▸dE;replace dE:=hd▸dE);cases dE
   ·exact eE x c bW cY
 cells:=fun x e=>let⟨c,v,M,O,Y,aC⟩:=I.cells x e;⟨c,v,M,O,Y,aC.sameBut hs (d6 O hd)⟩
 frees:=I.frees
 apart:=I.apart
 e0:=fun b x e=>let⟨aL,c,M,O⟩:=I.e0 b x e;⟨aL,c,M,O.bt (fun _ _ q=>q) (fun _ _ q=>q) fun ob q=>(hs.2 b (d6 e hd)).trans q⟩
 fi:=I.fi
theorem a2.h2 {a:Addr} {h':Heap} {tk:Nat} (av:a2 ρ₀ c9 ρ s) (aL:ρ₀ a=.free) (hs:Heap.SameBut a s.heap h'):a2 ρ₀ c9 ρ {s with heap:=h',toks:=tk} where
 bK:=av.bK
 aV:=av.aV
 per:=av.per
 cJ:=av.cJ
 fc:=av.fc
 stk:=av.stk
 aD:=av.aD
 keep:=fun b ob e q=>(hs.2 b (d6 e aL)).trans (av.keep b ob e q)
 hV:=fun b ob e q=>let⟨f0,cg⟩:=av.hV b ob e q;⟨f0,(hs.2 b (d6 e aL)).trans cg⟩
 ao:=by obtain⟨h,tk,rfl⟩:=av.ao;exact⟨h',_,rfl⟩
theorem bX.Sr {x:H} {v:Value} (q:bX w CM ρ x v):handedIn v=true:=by
 cases x with
 |none=>refine B (show v=.none from q) ?_;rfl
 |bool _=>refine B (show v=_ from q) ?_;rfl
 |int _=>exact q.elim fun t h=>by refine B h ?_;rfl
 |str _=>exact q.elim fun t h=>by refine B h ?_;rfl
 |aF _=>obtain⟨a,vs,n,h,_⟩:=q;refine B h ?_;rfl
 |am _=>obtain⟨a,vs,n,h,_⟩:=q;refine B h ?_;rfl
 |V _=>obtain⟨a,_,_,_,_,h,_⟩:=q;refine B h ?_;rfl
 |dS _ _=>obtain⟨a,_,_,_,h,_⟩:=q;refine B h ?_;rfl
 |per _=>obtain⟨a,h,_⟩:=q;refine B h ?_;rfl
theorem SQ (bn:zq CM K.f) {c a:Str} {l:List (Str×H)} {x:H} {v:Value} (I:aK w CM K env J ρ s fs) (h:bX w CM ρ (.dS c l) v) (bA:pQ c a=true) (q:iO a l=some x):
  wpAny (model aw w) A (getAttr v a true) (b3 w CM K env J ρ s fs (.U x) fs) cc s:=by
 obtain⟨ad,d,hh,C,rfl,M,O,Y,aC,bR⟩:=h
 obtain⟨d9,fO,ol,hG,kC⟩:=bn.sR c C a M bA
 refine bb (bR.gk q) ?_;intro u ak ar
 have bQ:lookIn a hh=some (some u):=by
  cases e:lookIn a hh with
  |none=>replace ak:=e▸ak;exact Z ak
  |some y=>replace ak:=e▸ak;(refine B (show y=some u from ak) ?_;rfl)
 have In:InstAt s.heap ad (instObj C d) C (some hh):=⟨I.base.bK _ _ O,rfl,rfl,I.base.bK _ _ Y⟩
 exact get_value I.in In (plainGet_of fO).1 (findObj_own d9 hG kC bQ) (bX.Sr ar) (ew I ar)
theorem Sk {i:Int} {n j:Nat} (h:ko i n=some j):seqIndex? i n=some j/\j<n:=by
 unfold ko at h
 unfold seqIndex?
 split at h
 ·rename_i aL
  refine cK h ?_ Z;clear h;intro M h
  refine oD h ?_;clear h;intro u;subst u
  have bF:¬i<0:=by exact Ts aL
  simp only [bF,if_false]
  refine B (if_pos (by simp;exact Nd M bF)) ?_
  exact⟨rfl,M⟩
 ·rename_i aL
  refine cK h ?_ Z;clear h;intro M h
  refine oD h ?_;clear h;intro u;subst u
  have bF:i<0:=by exact KE aL
  simp only [bF,if_true]
  refine B (if_pos (by simp;exact W1 M bF)) ?_
  exact⟨rfl,by exact HV M bF⟩
theorem El {i:Int} (h:i.natAbs<2^62): -(2:Int)^63<=i:=by exact WZ h
theorem DT {i:Int} (h:i.natAbs<2^62):i<(2:Int)^63:=by exact X2 h
theorem WT {a:Addr} {items:Array Value} {i:Int} {t j:Nat} {v:Value} {Q E:Value->Shared->Prop} (dO:s.heap.IsList a items) (aR:i.natAbs<2^62) (hs:ko i items.size=some j) (ay:items[j]? =some v) (h:Q v s):
  wpAny (model aw w) A (getItem (.ref a) (.int i t)) Q E s:=by
 unfold ko at hs
 by_cases aL:0<=i
 ·replace hs:=(if_pos aL)▸hs
  exact cK hs (fun _ hs=>wpAny_getItem_list dO aL (DT aR) (Option.some.inj hs▸ay) h) Z
 ·replace hs:=(if_neg aL)▸hs
  exact cK hs (fun M hs=>wpAny_getItem_list_neg dO (Int.not_le.mp aL) (by exact QK M) (El aR) (Option.some.inj hs▸ay) h) Z
theorem yl {pC:Expr} (h:∀l u p,pC≠.Slice l u none p) (o i:Value):subscripted pC false o i=operate [o,i] (getItem o i):=by
 cases pC<;>try rfl
 rename_i l u ao p
 cases ao with
 |none=>exact absurd rfl (h l u p)
 |some _=>rfl
theorem Mq {x k y:H} {o i:Value} {value pC:Expr} (eA:∀l u p,pC≠.Slice l u none p) (q:ox x k=some y) (I:aK w CM K env J ρ s fs) (ae:cv w CM ρ s x o) (ag:cv w CM ρ s k i):
  wpAny (model aw w) A (subscriptTail value pC o i) (b3 w CM K env J ρ s fs (.U y) fs) cc s:=by
 cases x with
 |am l=>
  refine Dz q fun lS j e aR bF aQ=> ?_
  replace ag:=e▸ag
  refine bS ag.int ?_;intro t u;subst u
  refine dH (ae.am I.base) ?_;intro a vs n u;subst u;intro M O
  refine bb (O.gk aQ) ?_;intro v Y aC
  have dO:s.heap.IsList a (Array.mk vs):=fv M
  refine tail_any dO.typeIs slot_list_getitem.lookup ?_ (yl eA _ _)
  exact WT dO aR ((congrArg (ko lS ·) O.length).trans bF) ((List.getElem?_toArray ..).trans Y) (ew (tk:=s.toks) I aC)
 |aF l=>
  refine Dz q fun lS j e aR bF aQ=> ?_
  replace ag:=e▸ag
  refine bS ag.int ?_;intro t u;subst u
  refine dH (ae.aF I.base) ?_;intro a vs n u;subst u;intro M O
  refine bb (O.gk aQ) ?_;intro v Y aC
  have dO:IsTup s.heap a (Array.mk vs):=⟨_,M,rfl,n,rfl⟩
  refine tail_any dO.typeIs slot_tuple_getitem.lookup ?_ (yl eA _ _)
  exact PyProof.Rows.getItem_tuple dO (El aR) (DT aR) ((congrArg (seqIndex? lS ·) O.length).trans (Sk bF).1) ((List.getElem?_toArray ..).trans Y) (ew (tk:=s.toks) I aC)
 |V l=>
  refine bG q (fun XX rR q=> ?_) Z
  refine gv (ae.V I.base) ?_;intro a aS u;subst u;intro bA lX lZ
  have:=lZ.gk (k:=XX)
  replace this:=q▸this
  refine bb this ?_;clear this;intro v Y aC
  refine tail_any lX.typeIs slot_dict_getitem.lookup ?_ (yl eA _ _)
  exact wpAny_getItem_of (knd:=kk w) (ag.key rR) lX.mapOf Y (ew I aC)
 |_=>exact Z q
theorem Em {α:Type} (l:List α):∀(n a:Nat),((List.range n).map fun k=>a+k).filterMap (fun j=>l[j]?)=(l.drop a).take n
 |0,a=>by simp
 |n+1,a=>by
  (refine B List.range_succ_eq_map ?_;refine B List.map_cons ?_;refine B List.map_map ?_;refine B List.filterMap_cons ?_)
  have e:(List.map ((fun k=>a+k)∘Nat.succ) (List.range n))=(List.range n).map fun k=>(a+1)+k:=List.map_congr_left fun k _=>by simp only [Function.comp];exact JL
  (refine B e ?_;refine B (Em l n (a+1)) ?_)
  by_cases h:a<l.length
  ·have ak:l[a+0]? =some l[a]:=by simp [h]
   (refine B ak ?_;refine B (List.drop_eq_getElem_cons h) ?_)
   rfl
  ·have ak:l[a+0]? =none:=by simp;exact vN h
   have ar:l.drop a=[]:=List.drop_eq_nil_of_le (by exact vN h)
   have bQ:l.drop (a+1)=[]:=List.drop_eq_nil_of_le (by exact PJ h)
   (refine B ak ?_;refine B ar ?_;refine B bQ ?_);simp
theorem Qg {α:Type} (l:List α) (a b:Nat):(l.take b).drop a=(l.drop a).take (b-a):=by
 (refine B List.drop_take ?_;rfl)
theorem Wr (i:Int) (n:Nat):max 0 (min (if i<0 then i+n else i) (n:Int))=(ji i n:Int):=by
 unfold ji
 by_cases h:i<0
 ·(refine B (if_pos h) ?_;refine B (if_pos h) ?_;refine B (Int.min_eq_left (Int.add_le_of_le_sub_right (by rw [Int.sub_self];exact Int.le_of_lt h))) ?_;refine B (Int.ofNat_toNat _) ?_;refine B (Int.max_comm _ _) ?_;rfl)
 ·(refine B (if_neg h) ?_;refine B (if_neg h) ?_)
  obtain⟨k,rfl⟩:=Int.eq_ofNat_of_zero_le (Int.not_lt.mp h)
  refine B (Int.toNat_natCast _) ?_
  exact(Nat.le_total k n).elim (fun h=>by(refine B (Int.min_eq_left (Int.ofNat_le.mpr h)) ?_;refine B (Nat.min_eq_left h) ?_;refine B (Int.max_eq_right (Int.natCast_nonneg _)) ?_;rfl)) fun h=>by(refine B (Int.min_eq_right (Int.ofNat_le.mpr h)) ?_;refine B (Nat.min_eq_right h) ?_;refine B (Int.max_eq_right (Int.natCast_nonneg _)) ?_;rfl)
theorem KD {l:List H} {vs:List Value} {c2 aR:Option Int} (h:a8 w CM ρ l vs):a8 w CM ρ (iW l c2 aR) (slicePick (Array.mk vs) c2 aR none).toList:=by
 have bC:=h.length
 have ak:(sliceBounds c2 aR none (Array.mk vs).size)=((t1 l.length c2:Int),(uB l.length aR:Int),1):=by
  unfold sliceBounds
  simp only [Option.getD_none,show(1:Int)>0 by decide,if_true,List.size_toArray]
  refine B bC ?_
  cases c2<;>cases aR<;>simp only [t1,uB,<-Wr]<;>rfl
 generalize bc:t1 l.length c2=a at ak
 generalize pZ:uB l.length aR=b at ak
 have ar:iW l c2 aR=(l.drop a).take (b-a):=by
  unfold iW
  (refine B bc ?_;refine B pZ ?_)
  exact Qg l a b
 have bQ:(slicePick (Array.mk vs) c2 aR none).toList=(vs.drop a).take (b-a):=by
  unfold slicePick
  refine B ak ?_
  dsimp only
  refine B (sliceRange_one _ _) ?_
  have:=Em vs (b-a) a
  simpa using this
 (refine B ar ?_;refine B bQ ?_)
 exact(h.drop a).take (b-a)
theorem EH (S:cB w CM K env J A R) {e:Option Expr} {i:Option Int} {Q E:Value->Shared->Prop} (q:ni R e fs=some (i,fs')) (I:aK w CM K env J ρ s fs)
  (k:∀v az ρ',IsPart v i->aK w CM K env J ρ' az fs'->a2 ρ s ρ' az->cb ρ fs.loc ρ' fs'.loc->Q v az):wpAny (model aw w) A (evalPart e env) Q E s:=by
 cases e with
 |none=>exact b6 (G:=fun i fs'=>(∀v az ρ',IsPart v i->aK w CM K env J ρ' az fs'->a2 ρ s ρ' az->cb ρ fs.loc ρ' fs'.loc->Q v az)->_) q (fun k=>wpAny_evalPart_none (k _ s ρ .none I (a2.refl ..) (cb.refl ..))) k
 |some e=>
  refine BH q (fun j fs₁ bw q=> ?_) Z
  refine wpAny_evalPart_some (S.eV bw I fun v aj aN aZ a0 bv aP=> ?_)
  obtain⟨t,rfl⟩:=aP
  cases q
  exact k _ aj aN (.int j t) aZ a0 bv
theorem II {l:List H} {vs:List Value} {a b:Option Int} {o:Obj} (I:aK w CM K env J ρ s fs) (O:a8 w CM ρ l vs):
  b3 w CM K env J ρ s fs (.own (.am (iW l a b))) fs (.ref (s.heap.push o).objs.size) {s with heap:=(s.heap.push o).push {cls:=.type "list",data:=.seq (slicePick (Array.mk vs) a b none)}}:=by
 refine n0 (tk:=s.toks) I (fun b ob e=>Heap.get?_push_of_some _ (Heap.get?_push_of_some _ e)) ?_ ⟨(slicePick (Array.mk vs) a b none).toList,0,Heap.get?_push_size _ rfl,KD O⟩
 cases e:s.heap.get? (s.heap.push o).objs.size with
 |none=>rfl
 |some ob=>exact absurd (Heap.lt_size e) (by refine B (Heap.size_push _ _) ?_;exact Nat.not_lt.mpr (Nat.le_succ _))
theorem Ni (S:cB w CM K env J A R) {e:Expr} {c2 aR:Option Expr} {p pos:Pos} {r r':aU} {a b:Option Int} {fs₁ fs₂ fs₃:X} {l:List H}
  (bZ:R.ba e fs=some (r,fs₁)) (bo:ni R c2 fs₁=some (a,fs₂)) (ee:ni R aR fs₂=some (b,fs₃)) (h1:fs₃.cE r=some (.am l)) (hz:l.length<=a4) (I:aK w CM K env J ρ s fs):
  wpAny (model aw w) A (eval (.Subscript e (.Slice c2 aR none p) pos) env) (b3 w CM K env J ρ s fs (.own (.am (iW l a b))) fs₃) cc s:=by
 refine Subscript_ (S.eV bZ I fun v aj aN aZ a0 bv aP=> ?_)
 refine wpAny_Slice (EH S bo aZ fun DV ct b8 jr cN b9 dG=>EH S ee cN fun EI jD jm U5 hi eh k9=> ?_)
 have av:a2 ρ s jm jD:=(a0.trans b9).trans eh
 have dw:cb ρ fs.loc jm fs₃.loc:=(bv.trans dG).trans k9
 refine dH ((hT hi ((aP.bt b9 dG).bt eh k9) h1).am hi.base) ?_;intro ad vs n u;subst u;intro M O
 refine wpAny_of_eq (a:=.none) rfl ?_
 have dO:(jD.heap.push {cls:=.type "slice",data:=.fields #[DV,EI,.none]}).IsList ad (Array.mk vs):=(fv M).push _
 refine tail_any (s:={jD with heap:=jD.heap.push {cls:=.type "slice",data:=.fields #[DV,EI,.none]}}) dO.typeIs slot_list_getitem.lookup (wpAny_getItem_list_slice dO (Heap.IsSliceOf.new ..) jr U5 .none (by simp) ?_ ?_) rfl
 ·exact b3.trans av dw (II hi O)
 ·exact Nat.le_trans (Nat.le_of_eq O.length) (Nat.le_trans hz jb)
theorem RO (S:cB w CM K env J A R) {es:List Expr} {pos:Pos} {xs:List H} (q:dk R es fs=some (xs,fs')) (hz:xs.length<=a4) (I:aK w CM K env J ρ s fs):
  wpAny (model aw w) A (eval (.List es pos) env) (b3 w CM K env J ρ s fs (.own (.am xs)) fs') cc s:=by
 exact wpAny_List (B4 S q I fun vs aj aN aZ a0 bv aP=>⟨by refine B aP.length ?_;exact Nat.le_trans hz jb,b3.trans a0 bv (n0 (tk:=aj.toks) aZ (fun b ob e=>Heap.get?_push_of_some _ e) fd ⟨vs,0,Heap.get?_push_size _ rfl,aP⟩)⟩)
theorem IS (S:cB w CM K env J A R) {es:List Expr} {k:Nat} {pos:Pos} {xs:List H} (q:dk R es fs=some (xs,fs')) (hz:xs.length<=a4) (I:aK w CM K env J ρ s fs):
  wpAny (model aw w) A (eval (.Tuple es k pos) env) (b3 w CM K env J ρ s fs (.U (.aF xs)) fs') cc s:=by
 exact wpAny_Tuple (B4 S q I fun vs aj aN aZ a0 bv aP=>⟨by refine B aP.length ?_;exact Nat.le_trans hz jb,b3.trans a0 bv (yZ (tk:=aj.toks) aZ (fun b ob e=>Heap.get?_push_of_some _ e) fd (Heap.get?_push_size _ rfl) fun ρ' aB an cq=>⟨_,vs,0,rfl,cq,aP.bt aB an⟩)⟩)
inductive pi (w:World) (CM:cn) (ρ:a5):List (al×H)->List (Value×Value)->Prop
 |nil:pi w CM ρ [] []
 |cons {k:al} {x:H} {eI v:Value} {l:List (al×H)} {vs:List (Value×Value)}:iy k eI=true->bX w CM ρ x v->pi w CM ρ l vs->pi w CM ρ ((k,x)::l) ((eI,v)::vs)
theorem Ew {k:Option Expr} {ks:List (Option Expr)} {es:List Expr} {l:List (al×H)} {G:Prop} (q:pa R (k::ks) es fs=some (l,fs'))
  (g:∀n c p e t v fs₁ vs,k=some (.Constant (.str n) c p)->es=e::t->dY R e fs=some (v,fs₁)->pa R ks t fs₁=some (vs,fs')->l=(.str n,v)::vs->G):G:=by
 cases es with
 |nil=>exact Z q
 |cons e t=>
  refine bG q (fun n aE q=>b5 q (fun v fs₁ bw q=>b5 q (fun vs fs₂ dJ q=> ?_) Z) Z) Z
  obtain⟨c,p,ak⟩:=Ok aE
  exact x5 q fun u z=>g n c p e t v fs₁ vs ak rfl bw (by refine B z ?_;exact dJ) u
theorem Mk (ks:List (Option Expr)):∀{es:List Expr} {l:List (al×H)} {fs fs':X},pa R ks es fs=some (l,fs')->ks.all (·.isSome)=true/\ks.length=es.length:=by
 induction ks with
 |nil=>
  intro es l fs fs' q
  cases es with
  |nil=>exact⟨rfl,rfl⟩
  |cons _ _=>exact Z q
 |cons k ks ih=>
  intro es l fs fs' q
  refine Ew q fun n c p e t v fs₁ vs ak ar bw dJ bQ=> ?_
  (refine B ak ?_;refine B ar ?_)
  exact⟨(ih dJ).1,congrArg (· +1) (ih dJ).2⟩
theorem Rl (S:cB w CM K env J A R) {pos:Pos} (ks:List (Option Expr)):∀{es:List Expr} {l:List (al×H)} {fs fs':X} {ρ:a5} {s:Shared} {Q:List (Value×Value)->Shared->Prop} {E:Value->Shared->Prop},pa R ks es fs=some (l,fs')->aK w CM K env J ρ s fs->
  (∀vs az ρ',aK w CM K env J ρ' az fs'->a2 ρ s ρ' az->cb ρ fs.loc ρ' fs'.loc->pi w CM ρ' l vs->vs.length=ks.length->Q vs az)->
  wpAny (model aw w) A (evalPairs (pairTrees ks es env pos)) Q E s:=by
 induction ks with
 |nil=>
  intro es l fs fs' ρ s Q E q I g
  cases es with
  |nil=>cases q;exact wpAny_pure (g [] s ρ I (a2.refl ..) (cb.refl ..) .nil rfl)
  |cons e es=>exact Z q
 |cons k ks ih=>
  intro es l fs fs' ρ s Q E q I g
  refine Ew q fun n c p e t v fs₁ vs ak ar bw dJ bQ=> ?_
  (refine B ak ?_;refine B ar ?_)
  show wpAny _ A (eval (.Constant (.str n) c p) env>>=fun eI=>holding [eI] (eval e env>>=fun x=>standAt pos>>=fun _=>pure x)>>=fun qD=>(do return (eI,qD)::(<-holding [eI,qD] (evalPairs (pairTrees ks t env pos))))) _ _ s
  refine wpAny_bind (wpAny_Constant_str ?_)
  refine wpAny_bind (wpAny_holding (wpAny_bind (ra S bw (I.tok (tk:=s.toks+1)) fun v aj aN aZ a0 bv gJ=>wpAny_bind (wpAny_standAt (wpAny_pure ?_)))))
  refine wpAny_bind (wpAny_holding (ih dJ aZ fun cZ ct b8 cN b9 dG uz bC=>wpAny_pure ?_))
  refine g _ ct b8 cN ((a2.tok.trans a0).trans b9) (bv.trans dG) ?_ (congrArg (· +1) bC)
  refine B bQ ?_
  exact .cons (E8 n _) (bX.bt b9.bK b9.per gJ) uz
theorem pi.XN {l:List (al×H)} {vs:List (Value×Value)} (h:pi w CM ρ l vs):∃aS,PySem.Carries (kk w) vs aS/\dV w CM ρ l aS:=by
 induction h with
 |nil=>exact⟨[],trivial,rfl⟩
 | @cons k x eI v l vs M O _ ih=>
  refine bb ih ?_;clear ih;intro aS Y aC
  exact⟨(k,v)::aS,⟨M,rfl,Y⟩,v,aS,rfl,O,aC⟩
theorem Kq {aS:List (al×Value)} (h:(aS.map (·.1)).Nodup) (k:al) (v:Value):((stored aS k v).map (·.1)).Nodup:=by
 induction aS with
 |nil=>simp [stored]
 |cons p t ih=>
  obtain⟨cS,u⟩:=p
  refine B (v1 h) ?_
  split
  ·exact h
  ·rename_i b1
   refine cl (List.nodup_cons.mp h) ?_;intro M O
   refine List.nodup_cons.mpr ⟨fun aY=> ?_,ih O⟩
   have:∀{t:List (al×Value)},(t.map (·.1)).Nodup->cS∈(stored t k v).map (·.1)->cS∈t.map (·.1):=by
    intro t
    induction t with
    |nil=>intro _ aY;simp [stored] at aY;exact absurd aY.symm b1
    |cons p t ih=>
     obtain⟨Zd,sb⟩:=p
     intro aE aY
     replace aY:=(v1 aE)▸aY
     split at aY
     ·exact aY
     ·rcases List.mem_cons.mp aY with rfl|aY
      ·exact List.mem_cons_self
      ·exact List.mem_cons_of_mem _ (ih (List.nodup_cons.mp aE).2 aY)
   exact M (this O aY)
theorem dV.merged:∀{l:List (al×H)} {aS:List (al×Value)} {d:List (al×H)} {mb:List (al×Value)},dV w CM ρ l aS->dV w CM ρ d mb->(mb.map (·.1)).Nodup->
  dV w CM ρ (l.foldl (fun d p=>cU p.1 p.2 d) d) (PySem.merged mb aS)
 |[],aS,d,mb,h,hd,_=>by refine B (show aS=[] from h) ?_;exact hd
 |(k,x)::r,aS,d,mb,⟨v,t,M,O,Y⟩,hd,aE=>by
  refine B M ?_
  show dV w CM ρ (r.foldl _ (cU k x d)) (PySem.merged (stored mb k v) t)
  exact dV.merged Y (hd.set aE O) (Kq aE k v)
theorem q5 {a:Addr} (iZ:∃ob,K.f.lookup sysModules=some ob) (I:aK w CM K env J ρ s fs) (aE:s.heap.get? a=none):(a==sysModules)=false:=by
 refine bS iZ ?_;clear iZ;intro ob h
 rw [beq_eq_false_iff_ne]
 rintro rfl
 replace aE:=(I.in _ _ h)▸aE;exact ii aE
theorem Ig (iZ:∃ob,K.f.lookup sysModules=some ob) (S:cB w CM K env J A R) {ks:List (Option Expr)} {es:List Expr} {pos:Pos} {l:List (al×H)} (q:pa R ks es fs=some (l,fs')) (hz:ks.length<=15) (I:aK w CM K env J ρ s fs):
  wpAny (model aw w) A (eval (.Dict ks es pos) env) (b3 w CM K env J ρ s fs (.own (.V (l.foldl (fun d p=>cU p.1 p.2 d) []))) fs') cc s:=by
 by_cases aL:ks=[]
 ·subst aL
  cases es with
  |cons e es=>exact Z q
  |nil=>
   refine b6 (show some ([],fs)=some (l,fs') from q) ?_
   exact wpAny_Dict_empty (n0 (tk:=s.toks) I (fun b ob e=>Heap.get?_push_of_some _ e) fd
    ⟨_,#[],0,[],q5 iZ I fd,Heap.get?_push_size _ rfl,⟨rfl,rfl,rfl⟩,rfl,fun e aX=>by simp at aX,.nil,.nil,rfl⟩)
 ·have eE:ρ s.heap.objs.size=.free:=(I.base.c1 _).mpr fd
  have hs:=Mk ks q
  refine wpAny_Dict_walk (knd:=kk w) hs.1 hs.2 aL hz (Rl S (pos:=pos) ks q (I.dz (h':=s.heap.push {cls:=.type "dict",data:=.dict #[]}) (tk:=s.toks) (fun b ob e=>Heap.get?_push_of_some _ e)) fun vs aj aN aZ a0 bv gJ bC=> ?_)
  refine bb gJ.XN ?_;intro aS hc hd
  have z6:Heap.get? (s.heap.push {cls:=.type "dict",data:=.dict #[]}) s.heap.objs.size=some {cls:=.type "dict",data:=.dict #[]}:=Heap.get?_push_size _ rfl
  have sV:bP ρ (s.heap.push {cls:=.type "dict",data:=.dict #[]}) s.heap.objs.size=.aV:=by unfold bP;refine B eE ?_;simp [z6]
  have AM:=a0.aV _ sV
  have fy:aj.heap.get? s.heap.objs.size=some {cls:=.type "dict",data:=.dict #[]}:=a0.keep _ _ sV z6
  refine⟨aS,hc,⟨_,#[],0,fy,⟨rfl,rfl,rfl⟩,rfl,fun e aX=>by simp at aX,.nil,.nil⟩,fun h' dQ pZ=> ?_⟩
  have WI:a2 ρ s (bP ρ (s.heap.push {cls:=.type "dict",data:=.dict #[]})) {s with heap:=s.heap.push {cls:=.type "dict",data:=.dict #[]}}:=a2.dz (tk:=s.toks) (fun b ob e=>Heap.get?_push_of_some _ e)
  have av:=WI.trans a0
  have dw:cb ρ fs.loc aN fs'.loc:=cb.dz.trans bv
  refine qC dQ ?_;clear dQ;intro ob d2 cr ak ar bQ cX dn fg
  refine⟨aN,aZ.h2 AM (h9 I eE) pZ (by refine B ak ?_;simp),av.h2 eE pZ,dw,_,rfl,eE,AM,ob,d2,cr,_,q5 iZ I fd,ak,ar,bQ,cX,dn,fg,?_⟩
  exact dV.merged hd rfl .nil
end
end Mine
end
section
open PySem PySem.W PySem.Calls PyProof.Rows
namespace Mine
noncomputable def l3:cV->Prop
 |.aV=>True
 |.aD _=>True
 |.frame=>True
 |.cell=>True
 |.stack=>True
 |.free=>False
 |.be _=>False
 |.per _=>False
noncomputable def e4:cV->cV
 |.aD _=>.aV
 |.cell=>.aV
 |.frame=>.stack
 |.free=>.free
 |.aV=>.aV
 |.be ob=>.be ob
 |.per k=>.per k
 |.stack=>.stack
noncomputable def bl (ρ:a5):a5:=fun a=>e4 (ρ a)
noncomputable def yf (r r':cV):cV:=match r with
 |.aD x=>.aD x
 |.cell=>.cell
 |.frame=>.frame
 |.free=>r'
 |.aV=>r'
 |.be _=>r'
 |.per _=>r'
 |.stack=>r'
noncomputable def fo (ρ ρ':a5):a5:=fun a=>yf (ρ a) (ρ' a)
structure CH (J:Scope) (ps:List Str):Prop where
 kind:J.kind=.function
 gen:J.isGenerator=false
 s8:J.isCoroutine=false
 par:∀x∈ps,J.names.lookup x=some .local\/J.names.lookup x=some .cell
 ev:ps.Nodup
 c1:∀x,J.names.lookup x≠some .free
 fc:∀n x,J.names.lookup x=some .cell->((cellsFrom n J.names []).lookup x).isSome=true
 Yy:∀n x c,(cellsFrom n J.names []).lookup x=some c->J.names.lookup x=some .cell
structure jY (F:Frag) (ao:Stmt) (a:Addr) (ob:Obj) (bJ:FuncData):Prop where
 gx:F.lookup a=some ob
 data:ob.data=.func bJ
 body:bJ.body=.stmts (g0 ao)
 scope:bJ.scope=bN ao
 uM:bJ.globals=mainGlobals
 lr:bJ.builtins=builtinsNs
 uD:bJ.closure=[]
 code:codeIn F bJ.code bJ.qualname=true
 keep:keepIn F (.ref a)=true
 bind:∀bf:List Value,bf.length=(params ao).length->bJ.defaults=.none->bindArgs bJ ⟨bf,[]⟩=pure ((params ao).zip bf)
 J:CH (bN ao) (params ao)
noncomputable abbrev dM:=Str->Option Addr
structure qF (CM:cn) (bj:dM) (F:Frag):Prop extends zq CM F where
 sm:∃ob,F.lookup sysModules=some ob
 qS:∀h:Heap,F.In h->h.NoLimit
 sL:∀x ao,ds x=some ao->∃a ob bJ,bj x=some a/\jY F ao a ob bJ/\bJ.defaults=.none
noncomputable def r8 (ob:Obj):Prop:=ob.isFreed=false/\∃vs,ob.data=.fields vs/\2<vs.size/\vs[2]? =some .none
noncomputable def f4 (K:Top) (A:Around):Prop:=match K.eD with
 |none=>A.handled=none
 |some (e,ob)=>A.handled=some (.ref e)/\r8 ob
noncomputable def xI (K:Top) (A:Around):Prop:=∃l,A.frames=some l/\∀env∈l,env.scope.kind≠.module/\∃L,env.frame=some L/\L∈K.frames
structure ek (K:Top) (k:Nat) (A:Around):Prop where
 eD:f4 K A
 frames:xI K A
 depth:A.depth+2*k+8<recursionLimit
 units:A.units+16*k+400<cLine
 zh:k%2=1->K.eD=none
noncomputable def vJ (CM:cn) (P:Addr->Prop) (h:Heap) (a:Addr):Prop:=
 ∃C ob vs,CM "TreeFault"=some C/\h.get? a=some ob/\ob.isFreed=false/\ob.cls=.ref C/\ob.data=.fields vs/\2<vs.size/\vs[2]? =some .none/\
  (vs[1]? =some .none\/∃T lA ts,vs[1]? =some (.ref T)/\P T/\T≠a/\h.get? T=some lA/\lA.data=.fields ts/\ts[3]? =some .none)
theorem vJ.imp {CM:cn} {P CY:Addr->Prop} {h:Heap} {a:Addr} (an:∀T,P T->CY T) (q:vJ CM P h a):vJ CM CY h a:=
 Exists.imp (fun C=>Exists.imp fun ob=>Exists.imp fun vs q=>⟨q.1,q.2.1,q.2.2.1,q.2.2.2.1,q.2.2.2.2.1,q.2.2.2.2.2.1,q.2.2.2.2.2.2.1,q.2.2.2.2.2.2.2.imp id fun q=>q.imp fun T q=>q.imp fun lA q=>q.imp fun ts q=>⟨q.1,an T q.2.1,q.2.2⟩⟩) q
noncomputable def uH (aT ρ:a5) (a:Addr):Prop:=aT a=.free/\ρ a=.aV
noncomputable def gy (CM:cn) (aT ρ:a5) (h:Heap) (a:Addr):Prop:=uH aT ρ a/\vJ CM (uH aT ρ) h a
theorem gy.imp {CM:cn} {aT ρ Ga ρ':a5} {h:Heap} {a:Addr} (an:∀T,uH aT ρ T->uH Ga ρ' T) (q:gy CM aT ρ h a):gy CM Ga ρ' h a:=⟨an a q.1,q.2.imp an⟩
section
variable(w:World) (CM:cn)
noncomputable def mM (ρ₀ ρ:a5) (s:Shared):aU->Value->Prop
 |.U x,v=>bX w CM ρ x v
 |.own x,v=>∃a,v=.ref a/\ρ₀ a=.free/\ρ a=.aV/\dN w CM ρ s.heap a x
 |.var _,_=>False
noncomputable def Bs (K:Top) (ρ:a5) (s:Shared) (ai:bE) (per:List H) (v:Value) (az:Shared):Prop:=
 match ai with
 |.ret r=>∃ρ',cH w CM K ρ' az per/\a2 ρ s ρ' az/\iH ρ'/\mM w CM ρ ρ' az r v
 |_=>False
noncomputable def Dv (K:Top) (ρ:a5) (s:Shared) (ai:bE) (per:List H) (e:Value) (az:Shared):Prop:=
 ai=.dC/\∃ρ' a,cH w CM K ρ' az per/\a2 ρ s ρ' az/\iH ρ'/\e=.ref a/\gy CM ρ ρ' az.heap a
structure A1 (bj:dM) (F:Frag) (K:Top) (A:Around) (f:Str) (args:List H) (per:List H) (ai:bE) (dg:List H) (a:Addr):Prop where
 w9:bj f=some a
 sL:∃ao ob bJ,jY F ao a ob bJ
 wp:∀ρ s bf,cH w CM K ρ s per->iH ρ->a8 w CM ρ args bf->wpAny (model aw w) A (call (.ref a) bf) (Bs w CM K ρ s ai dg) (Dv w CM K ρ s ai dg) s
noncomputable def gM (bj:dM) (F:Frag) (k:Nat) (C:cs):Prop:=
 ∀f args per ai dg,C f args per=some (ai,dg)->∀(K:Top) A,K.f=F->ek K k A->∃a,A1 w CM bj F K A f args per ai dg a
noncomputable def r3 (K:Top) (env:Env) (J:Scope) (ρ:a5) (s:Shared) (fs:X) (ai:bE) (fs':X) (v:Value) (az:Shared):Prop:=match ai with
 |.ret r=>b3 w CM K env J ρ s fs r fs' v az
 |_=>False
noncomputable def q3 (K:Top) (env:Env) (J:Scope) (ρ:a5) (s:Shared) (fs:X) (ai:bE) (fs':X) (e:Value) (az:Shared):Prop:=
 ai=.dC/\∃ρ' a,aK w CM K env J ρ' az fs'/\a2 ρ s ρ' az/\cb ρ fs.loc ρ' fs'.loc/\e=.ref a/\gy CM ρ ρ' az.heap a
end
section
variable{w:World} {CM:cn} {bj:dM} {F:Frag} {K:Top} {env:Env} {J:Scope} {A:Around} {ρ ρ₀ ρ':a5} {s c9 az:Shared} {fs fs':X} {R:bk}
theorem l4 {a:Addr} {ob:Obj}:bl ρ a=.be ob↔ρ a=.be ob:=by
 show e4 (ρ a)=_↔_
 cases ρ a<;>first|exact Iff.rfl|exact⟨fun h=>cV.noConfusion h,fun h=>cV.noConfusion h⟩
theorem o9 {a:Addr} {k:Nat}:bl ρ a=.per k↔ρ a=.per k:=by
 show e4 (ρ a)=_↔_
 cases ρ a<;>first|exact Iff.rfl|exact⟨fun h=>cV.noConfusion h,fun h=>cV.noConfusion h⟩
theorem g5 {a:Addr}:bl ρ a=.free↔ρ a=.free:=by
 show e4 (ρ a)=_↔_
 cases ρ a<;>first|exact Iff.rfl|exact⟨fun h=>cV.noConfusion h,fun h=>cV.noConfusion h⟩
theorem hR (ρ:a5):iH (bl ρ):=fun a=>by
 show(∀x,e4 (ρ a)≠.aD x)/\e4 (ρ a)≠.frame/\e4 (ρ a)≠.cell
 cases ρ a<;>exact⟨fun _ h=>cV.noConfusion h,fun h=>cV.noConfusion h,fun h=>cV.noConfusion h⟩
theorem jj {a:Addr} {r:cV} (e:ρ a=r):fo ρ ρ' a=yf r (ρ' a):=congrArg (fun r=>yf r (ρ' a)) e
theorem z5 {a:Addr} {r:cV} (e:ρ' a=r) (M:∀x,ρ a=.aD x->ρ' a≠r) (O:ρ a=.cell->ρ' a≠r) (Y:ρ a=.frame->ρ' a≠r):fo ρ ρ' a=r:=by
 cases q:ρ a with
 |aD x=>exact absurd e (M x q)
 |cell=>exact absurd e (O q)
 |frame=>exact absurd e (Y q)
 |_=>exact(jj q).trans e
theorem Yn {a:Addr} {x:Str} (e:fo ρ ρ' a=.aD x):ρ a=.aD x\/ρ' a=.aD x:=by
 cases q:ρ a with
 |aD y=>exact .inl ((jj q).symm.trans e)
 |cell=>exact cV.noConfusion ((jj q).symm.trans e)
 |frame=>exact cV.noConfusion ((jj q).symm.trans e)
 |_=>exact .inr ((jj q).symm.trans e)
theorem lc {a:Addr} {r:cV} (h:ρ' a=ρ a\/(l3 (ρ a)/\l3 (ρ' a)/\(e3 (ρ a)->e3 (ρ' a)))) (aP:¬l3 r):ρ a=r↔ρ' a=r:=
 h.elim (fun q=>by(refine B q ?_;rfl)) fun q=>⟨fun e=>absurd (e▸q.1) aP,fun e=>absurd (e▸q.2.1) aP⟩
theorem cH.pr {per:List H} (ap:cH w CM K ρ s per) (h:∀a,ρ' a=ρ a\/(l3 (ρ a)/\l3 (ρ' a)/\(e3 (ρ a)->e3 (ρ' a)))):cH w CM K ρ' s per:=
 ⟨fun a x e=>(lc (h a) id).mp (ap.fU a x e),fun a x e=>(lc (h a) id).mp (ap.fz a x e),fun a e=>⟨(h a).elim (fun q=>q▸(ap.fq a e).1) fun q=>q.2.2 (ap.fq a e).1,(ap.fq a e).2⟩,fun a ob e=>ap.bK a ob ((lc (h a) id).mpr e),fun a=>(lc (h a) id).symm.trans (ap.c1 a),fun k q=>(ap.gq k q).imp fun a e=>(lc (h a) id).mp e,
  fun a k e=>(ap.fS a k ((lc (h a) id).mpr e)).imp fun x q=>⟨q.1,q.2.bt (fun a _=>(lc (h a) id).mp) (fun a _=>(lc (h a) id).mp) fun _ e=>e⟩,fun a b k ak ar=>ap.inj a b k ((lc (h a) id).mpr ak) ((lc (h b) id).mpr ar)⟩
theorem cH.bl {per:List H} (ap:cH w CM K ρ s per):cH w CM K (bl ρ) s per:=ap.pr fun a=>by
 show e4 (ρ a)=_\/(l3 (ρ a)/\l3 (e4 (ρ a))/\(e3 (ρ a)->e3 (e4 (ρ a))))
 cases ρ a<;>first|exact .inl rfl|exact .inr ⟨trivial,trivial,id⟩
theorem bX.bl {x:H} {v:Value} (h:bX w CM ρ x v):bX w CM (bl ρ) x v:=h.bt (fun a ob e=>l4.mpr e) (fun a ob e=>o9.mpr e)
theorem a8.bl {x:List H} {v:List Value} (h:a8 w CM ρ x v):a8 w CM (bl ρ) x v:=h.bt (fun a ob e=>l4.mpr e) (fun a ob e=>o9.mpr e)
theorem a2.oo (av:a2 (Mine.bl ρ) s ρ' az):(∀a x,ρ a=.aD x->ρ' a=.aV)/\(∀a,ρ a=.cell->ρ' a=.aV)/\(∀a,ρ a=.frame->ρ' a=.stack):=
 ⟨fun a x e=>av.aV a (congrArg e4 e),fun a e=>av.aV a (congrArg e4 e),fun a e=>av.stk a (congrArg e4 e)⟩
theorem pe (av:a2 (Mine.bl ρ) s ρ' az):(∀a ob,ρ' a=.be ob->fo ρ ρ' a=.be ob)/\(∀a k,ρ' a=.per k->fo ρ ρ' a=.per k):=
 ⟨fun a ob e=>z5 e (fun x q z=>cV.noConfusion ((av.oo.1 a x q).symm.trans z)) (fun q z=>cV.noConfusion ((av.oo.2.1 a q).symm.trans z)) fun q z=>cV.noConfusion ((av.oo.2.2 a q).symm.trans z),
  fun a ob e=>z5 e (fun x q z=>cV.noConfusion ((av.oo.1 a x q).symm.trans z)) (fun q z=>cV.noConfusion ((av.oo.2.1 a q).symm.trans z)) fun q z=>cV.noConfusion ((av.oo.2.2 a q).symm.trans z)⟩
theorem aK.sg {dg:List H} (I:aK w CM K env J ρ s fs) (lv:cH w CM K ρ' az dg) (av:a2 (Mine.bl ρ) s ρ' az) (hc:iH ρ'):
  aK w CM K env J (fo ρ ρ') az {fs with per:=dg}/\a2 ρ s (fo ρ ρ') az/\cb ρ fs.loc (fo ρ ρ') fs.loc:=by
 refine ef av.oo ?_;intro ey eC h7
 refine cl (pe av) ?_;intro aB an
 have bz:∀a ob,ρ a=.be ob->fo ρ ρ' a=.be ob:=fun a ob e=>aB a ob (av.bK a ob (l4.mpr e))
 have i7:∀a ob,ρ a=.per ob->fo ρ ρ' a=.per ob:=fun a ob e=>an a ob (av.per a ob (o9.mpr e))
 have eX:∀a x,ρ a=.aD x->fo ρ ρ' a=.aD x:=fun a x e=>jj e
 have eY:∀a,ρ a=.frame->fo ρ ρ' a=.frame:=fun a e=>jj e
 have wZ:∀a,ρ a=.cell->fo ρ ρ' a=.cell:=fun a e=>jj e
 have dQ:∀a,ρ a=.aV->fo ρ ρ' a=.aV:=fun a e=>(jj e).trans (av.aV a (congrArg e4 e))
 have mL:∀a,ρ a=.stack->fo ρ ρ' a=.stack:=fun a e=>(jj e).trans (av.stk a (congrArg e4 e))
 have r1:∀a ob,ρ a=.cell->s.heap.get? a=some ob->az.heap.get? a=some ob:=fun a ob h e=>av.keep a ob (congrArg e4 h) e
 have EV:∀a ob,ρ a=.aV->s.heap.get? a=some ob->az.heap.get? a=some ob:=fun a ob h e=>av.keep a ob (congrArg e4 h) e
 have dm:∀m,s.heap.Ns env.locals m->az.heap.Ns env.locals m:=fun m ⟨o,es,cr,bZ,q⟩=>(av.hV _ _ (congrArg e4 I.cJ) bZ).elim fun f0 im=>⟨_,es,cr,im,q⟩
 have vw:∀a x,fo ρ ρ' a=.aD x->ρ a=.aD x:=fun a x e=>(Yn e).elim id fun q=>absurd q ((hc a).1 x)
 refine⟨⟨lv.pr fun a=> ?_,I.c0,eY _ I.cJ,I.fC.imp dm,fun x bh e=> ?_,fun x e=> ?_,fun x c ak ar=>dQ _ (I.frees x c ak ar),I.apart,fun a x e=> ?_,fun a b x ak ar=>I.fi a b x (vw a x ak) (vw b x ar)⟩,
  ⟨bz,dQ,i7,eY,wZ,mL,fun a x e=>.inl (eX a x e),EV,fun a ob h e=>av.hV a ob (congrArg e4 h) e,av.ao⟩,⟨fun _ _ e=>e,fun a x e=>.inl (eX a x e),vw⟩⟩
 ·cases q:ρ a with
  |aD y=>exact .inr ⟨by refine B (ey a y q) ?_;trivial,by refine B (eX a y q) ?_;trivial,by refine B (ey a y q) ?_;exact fun h=>h.elim⟩
  |cell=>exact .inr ⟨by refine B (eC a q) ?_;trivial,by refine B (wZ a q) ?_;trivial,by refine B (eC a q) ?_;exact fun h=>h.elim⟩
  |frame=>exact .inr ⟨by refine B (h7 a q) ?_;trivial,by refine B (eY a q) ?_;trivial,by refine B (eY a q) ?_;exact fun _=>trivial⟩
  |_=>exact .inl (jj q)
 ·refine bb (I.eW x bh e) ?_;intro v M O
  refine⟨v,M.imp (fun q=>⟨q.1,q.2.1,q.2.2.imp fun m q=>⟨dm m q.1,q.2⟩⟩) (fun q=>⟨q.1,q.2.1,q.2.2.imp fun c z=>⟨z.1,z.2.imp fun o y=>⟨q.1.elim (fun bW=> ?_) fun bW=>EV c o (I.frees x c bW z.1) y.1,y.2⟩⟩⟩),O.bt bz i7 eX⟩
  refine dP (I.cells x bW) ?_;intro c' eZ bZ bo _
  replace bZ:=z.1▸bZ;cases(bZ)
  exact r1 c o bo y.1
 ·exact(I.cells x e).imp fun c q=>q.imp fun v q=>⟨q.1,wZ _ q.2.1,q.2.2.1,q.2.2.2.imp fun o z=>⟨r1 c o q.2.1 z.1,z.2⟩⟩
 ·have cg:=vw a x e
  exact⟨(I.e0 a x cg).1,(I.e0 a x cg).2.imp fun c q=>⟨q.1,q.2.bt bz i7 fun ob z=>av.keep a ob (congrArg e4 cg) z⟩⟩
theorem kH {a:Addr} (bR:Mine.bl ρ a=.free):fo ρ ρ' a=ρ' a:=by
 exact jj (g5.mp bR)
theorem mM.out {r:aU} {v:Value} (q:mM w CM (Mine.bl ρ) ρ' az r v) (av:a2 (Mine.bl ρ) s ρ' az):eP w CM ρ (fo ρ ρ') az fs' r v:=by
 refine cl (pe av) ?_;intro aB an
 cases r with
 |U x=>exact bX.bt aB an q
 |own x=>
  refine gm q ?_;clear q;intro a M O Y aC
  exact⟨a,M,g5.mp O,by refine B (kH O) ?_;exact Y,aC.bt aB an fun _ e=>e⟩
 |var x=>exact q.elim
theorem gy.out {h:Heap} {a:Addr} (q:gy CM (Mine.bl ρ) ρ' h a):gy CM ρ (fo ρ ρ') h a:=
 q.imp fun T z=>⟨g5.mp z.1,(kH z.1).trans z.2⟩
theorem gy.base {aT:a5} {h:Heap} {a:Addr} (q:gy CM ρ ρ' h a) (ah:∀a,ρ a=.free->aT a=.free):gy CM aT ρ' h a:=
 q.imp fun T z=>⟨ah T z.1,z.2⟩
theorem aK.BL {f:Str} {args dg:List H} {ai:bE} {a:Addr} (c4:A1 w CM bj F K A f args fs.per ai dg a) (I:aK w CM K env J ρ s fs) {bf:List Value} (ay:a8 w CM ρ args bf):
  wpAny (model aw w) A (call (.ref a) bf) (r3 w CM K env J ρ s fs ai {fs with per:=dg}) (q3 w CM K env J ρ s fs ai {fs with per:=dg}) s:=by
 refine wpAny_mono (c4.wp (Mine.bl ρ) s bf I.base.bl (hR ρ) ay.bl) (fun v az h=> ?_) fun e az h=> ?_
 ·cases ai with
  |ret r=>
   refine gm h ?_;clear h;intro ρ' lv av hc aP
   refine ef (I.sg lv av hc) ?_;intro hg e5 g1
   exact⟨_,hg,e5,g1,aP.out av⟩
  |_=>exact h
 ·refine⟨h.1,?_⟩
  refine qb h.2 ?_;clear h;intro ρ' a lv av hc e bR
  refine ef (I.sg lv av hc) ?_;intro hg e5 g1
  exact⟨_,a,hg,e5,g1,e,bR.out⟩
theorem r3.trans {aN:a5} {aj:Shared} {fs₁:X} {ai:bE} {v:Value} (av:a2 ρ s aN aj) (dw:cb ρ fs.loc aN fs₁.loc) (h:r3 w CM K env J aN aj fs₁ ai fs' v az):r3 w CM K env J ρ s fs ai fs' v az:=by
 cases ai with
 |ret r=>exact b3.trans av dw h
 |_=>exact h
theorem q3.trans {aN:a5} {aj:Shared} {fs₁:X} {ai:bE} {v:Value} (av:a2 ρ s aN aj) (dw:cb ρ fs.loc aN fs₁.loc) (h:q3 w CM K env J aN aj fs₁ ai fs' v az):q3 w CM K env J ρ s fs ai fs' v az:=
 ⟨h.1,h.2.imp fun ρ' h=>h.imp fun a h=>⟨h.1,av.trans h.2.1,dw.trans h.2.2.1,h.2.2.2.1,h.2.2.2.2.base av.ic⟩⟩
end
end Mine
end
section
open PySem PySem.W PySem.Calls PyProof.Rows
namespace Mine
noncomputable def hr (F:Frag) (x:Str):Option Value:=br (nsIn F mainGlobals x) fun v=>match v with
 |some v=>some v
 |none=>br (nsIn F builtinsNs x) id
structure u0 (CM:cn) (bj:dM) (F:Frag):Prop extends qF CM bj F where
 Gx:∀x a,bj x=some a->kl x=true->hr F x=some (.ref a)
section
variable{w:World} {CM:cn} {bj:dM} {F:Frag} {K:Top} {env:Env} {J:Scope} {A:Around} {ρ ρ₀ ρ':a5} {s c9 az:Shared} {fs fs':X} {R:bk}
theorem oR {x:Str} {pos:Pos} {v:Value} {Q:Value->Shared->Prop} {E:Value->Shared->Prop} (g:hr F x=some v) (ae:J.names.lookup x=some .globalImplicit) (hP:nP env J) (av:F.In s.heap) (hd:(x==("__debug__":Str))=false) (h:Q v s):
  wpAny (model aw w) A (eval (.Name x pos) env) Q E s:=by
 refine Name_function_global hP.kind (hP.imp x ae) ?_ hd
 unfold loadGlobal
 refine B hP.uM ?_
 refine bG g (fun u e g=> ?_) Z
 refine wpAny_bind ((looks_nsIn av e).here ?_)
 cases u with
 |some eZ=>exact wpAny_pure (Option.some.inj (show some eZ=some v from g)▸h)
 |none=>
  refine bG g (fun u cg g=> ?_) Z
  refine B hP.lr ?_
  replace cg:=(show u=some v from g)▸cg
  exact wpAny_bind ((looks_nsIn av cg).here (wpAny_pure h))
theorem tb {pos:Pos} {t:Sem Value} {l:List (Bool×Sem Value)}:backTo pos ((false,t)::l)=(false,t)::backTo pos l:=rfl
theorem wa (S:cB w CM K env J A R) {pos:Pos} {f:Value} {args:List Expr} {vs:List H} {Q:Args->Shared->Prop} {E:Value->Shared->Prop} (q:dk R args fs=some (vs,fs')) (I:aK w CM K env J ρ s fs)
  (h:∀bf aj,r7 w CM K env J ρ s fs vs fs' bf aj->Q ⟨bf,[]⟩ aj):wpAny (model aw w) A (evalArgs f true (backTo pos (starEach args env)) []) Q E s:=by
 cases args with
 |nil=>exact b6 (G:=fun vs fs'=>(∀bf aj,r7 w CM K env J ρ s fs vs fs' bf aj->Q ⟨bf,[]⟩ aj)->wpAny (model aw w) A (evalArgs f true (backTo pos (starEach [] env)) []) Q E s) q (fun h=>evalArgs_nil3 (h [] s ⟨ρ,I,a2.refl ..,cb.refl ..,a8.nil⟩)) h
 |cons e es=>
  refine b5 q (fun x fs₁ ak _=> ?_) Z
  have c4:=BM S (pos:=pos) _ q I
  rw [yy S ak,tb] at c4|-
  exact evalArgs_plain (wpAny_mono c4 (fun bf aj p=>h bf aj p) fun _ _ f=>f.elim)
theorem CL (S:cB w CM K env J A R) {pos:Pos} {f:Value} {args:List Expr} {vs:List H} {Q:Args->Shared->Prop} {E:Value->Shared->Prop} (q:dk R args fs=some (vs,fs')) (I:aK w CM K env J ρ s fs)
  (k:∀v aj aN,aK w CM K env J aN aj fs'->a2 ρ s aN aj->cb ρ fs.loc aN fs'.loc->a8 w CM aN vs v->Q ⟨v,[]⟩ aj):wpAny (model aw w) A (evalArgs f true (backTo pos (starEach args env)) []) Q E s:=
 wa S q I fun v aj h=>h.elim fun aN h=>k v aj aN h.1 h.2.1 h.2.2.1 h.2.2.2
theorem FF (S:cB w CM K env J A R) {pos:Pos} {f:Value} {args:List Expr} {vs:List H} {first:List Value} {Q:Value->Shared->Prop} {E:Value->Shared->Prop} (ag:keepIn K.f f=true) (q:dk R args fs=some (vs,fs')) (I:aK w CM K env J ρ s fs)
  (h:∀bf aj,r7 w CM K env J ρ s fs vs fs' bf aj->wpAny (model aw w) A (call f (first++bf)) Q E aj):wpAny (model aw w) A (callWith pos f first (backTo pos (starEach args env)) []) Q E s:=by
 refine callWith_of (P:=K.f.In) ?_ (keeps_K ag) (wa S q I fun bf aj p=>⟨?_,h bf aj p⟩)
 ·refine B ((rH S _ q).1) ?_;rfl
 ·obtain⟨aN,aZ,_⟩:=p;exact aZ.in
theorem xR (S:cB w CM K env J A R) {pos:Pos} {f:Value} {args:List Expr} {vs:List H} {first:List Value} {Q:Value->Shared->Prop} {E:Value->Shared->Prop} (ag:keepIn K.f f=true) (q:dk R args fs=some (vs,fs')) (I:aK w CM K env J ρ s fs)
  (k:∀v aj aN,aK w CM K env J aN aj fs'->a2 ρ s aN aj->cb ρ fs.loc aN fs'.loc->a8 w CM aN vs v->wpAny (model aw w) A (call f (first++v)) Q E aj):wpAny (model aw w) A (callWith pos f first (backTo pos (starEach args env)) []) Q E s:=
 FF S ag q I fun v aj h=>h.elim fun aN h=>k v aj aN h.1 h.2.1 h.2.2.1 h.2.2.2
theorem BG (S:cB w CM K env J A R) {pos:Pos} {id:String} {args:List Expr} {vs:List H} {first:List Value} {Q:Value->Shared->Prop} {E:Value->Shared->Prop} (q:dk R args fs=some (vs,fs')) (I:aK w CM K env J ρ s fs)
  (h:∀bf aj,r7 w CM K env J ρ s fs vs fs' bf aj->wpAny (model aw w) A (call (.builtin id) (first++bf)) Q E aj):wpAny (model aw w) A (callWith pos (.builtin id) first (backTo pos (starEach args env)) []) Q E s:=
 callWith_builtin (rH S _ q).1 (wa S q I fun bf aj p=>h bf aj p)
theorem Ps (S:cB w CM K env J A R) {pos:Pos} {f:Value} {e:Expr} {r:aU} {Q:Args->Shared->Prop} {E:Value->Shared->Prop} (q:R.ba e fs=some (r,fs')) (I:aK w CM K env J ρ s fs)
  (h:∀v aj,b3 w CM K env J ρ s fs r fs' v aj->Q ⟨[v],[]⟩ aj):(backTo pos (starEach [e] env)).any (·.1)=false/\wpAny (model aw w) A (evalArgs f true (backTo pos (starEach [e] env)) []) Q E s:=by
 have ak:starEach [e] env=[(false,eval e env)]:=by
  cases e with
  |Starred e p=>rw [S.ro] at q;exact Z q
  |_=>rfl
 (refine B ak ?_;refine B tb ?_)
 refine⟨rfl,evalArgs_plain (KI ?_)⟩
 exact wpAny_mono (S.ba e fs r fs' q ρ s I) (fun v aj p=>h v aj p) fun _ _ f=>f.elim
where KI {t:Sem Value} {Q:List Value->Shared->Prop} {E:Value->Shared->Prop} {s:Shared} (h:wpAny (model aw w) A t (fun v aj=>Q [v] aj) E s):wpAny (model aw w) A (spliced [(false,t)]) Q E s:=
 spliced_cons (wpAny_mono h (fun v aj p=>spliced_nil p) fun _ _ f=>f)
theorem s6 (S:cB w CM K env J A R) {pos:Pos} {f:Value} {e:Expr} {r:aU} {Q:Args->Shared->Prop} {E:Value->Shared->Prop} (q:R.ba e fs=some (r,fs')) (I:aK w CM K env J ρ s fs)
  (k:∀v aj aN,aK w CM K env J aN aj fs'->a2 ρ s aN aj->cb ρ fs.loc aN fs'.loc->eP w CM ρ aN aj fs' r v->Q ⟨[v],[]⟩ aj):(backTo pos (starEach [e] env)).any (·.1)=false/\wpAny (model aw w) A (evalArgs f true (backTo pos (starEach [e] env)) []) Q E s:=
 Ps S q I fun v aj h=>h.elim fun aN h=>k v aj aN h.1 h.2.1 h.2.2.1 h.2.2.2
theorem lN {f:Str} {p pos:Pos} {args:List Expr} {v:Value} {Q:Value->Shared->Prop} {E:Value->Shared->Prop} (g:hr K.f f=some v) (ae:J.names.lookup f=some .globalImplicit) (I:aK w CM K env J ρ s fs) (hd:(f==("__debug__":Str))=false)
  (h:wpAny (model aw w) A (callWith pos v [] (backTo pos (starEach args env)) []) Q E s):wpAny (model aw w) A (eval (.Call (.Name f p) args [] pos) env) Q E s:=
 Call_Name rfl (oR g ae I.c0 I.in hd h)
theorem U7 {f:Str} (h:kl f=true):(f==("__debug__":Str))=false:=by
 cases q:(f==("__debug__":Str)) with
 |false=>rfl
 |true=>replace h:=(beq_iff_eq.mp q)▸h;exact absurd h (by decide+kernel)
theorem G1 (bn:u0 CM bj F) (bz:K.f=F) {k:Nat} {C:cs} (c4:gM w CM bj F k C) (bc:ek K k A) (S:cB w CM K env J A R) {f:Str} {p pos:Pos} {args:List Expr} {vs:List H} {ai:bE} {dg:List H} {fs₁:X}
  (an:kl f=true) (ae:J.names.lookup f=some .globalImplicit) (bZ:dk R args fs=some (vs,fs₁)) (bo:C f vs fs₁.per=some (ai,dg)) (I:aK w CM K env J ρ s fs):
  wpAny (model aw w) A (eval (.Call (.Name f p) args [] pos) env) (r3 w CM K env J ρ s fs ai {fs₁ with per:=dg}) (q3 w CM K env J ρ s fs ai {fs₁ with per:=dg}) s:=by
 refine bS (c4 f vs fs₁.per ai dg bo K A bz bc) ?_;intro a h
 refine qz h.sL ?_;intro ao ob bJ aB
 refine lN (bz▸bn.Gx f a h.w9 an) ae I (U7 an) (xR S (bz▸aB.keep) bZ I fun bf aj aN aZ a0 bv gJ=> ?_)
 exact wpAny_mono (aZ.BL h gJ) (fun v az h=>h.trans a0 bv) fun e az h=>h.trans a0 bv
end
end Mine
end
section
open PySem PySem.W PySem.Calls PyProof.Rows
namespace Mine
section
variable(w:World) (CM:cn) (K:Top) (env:Env) (J:Scope)
structure cp (aT:a5) (a7:Shared) (ρ:a5) (s:Shared) (fs:X):Prop where
 dA:aK w CM K env J ρ s fs
 ext:a2 aT a7 ρ s
 gK:∀a x,ρ a=.aD x->aT a=.free
noncomputable def eg (aT:a5) (a7:Shared) (ρ:a5) (s:Shared) (ai:bE) (fs':X) (f:Flow) (az:Shared):Prop:=match ai with
 |.next=>f=.next/\∃ρ',cp w CM K env J aT a7 ρ' az fs'/\a2 ρ s ρ' az
 |.brk=>f=.brk/\∃ρ',cp w CM K env J aT a7 ρ' az fs'/\a2 ρ s ρ' az
 |.ret r=>∃v,f=.ret v/\∃ρ',cp w CM K env J aT a7 ρ' az fs'/\mM w CM aT ρ' az r v
 |.dC=>False
noncomputable def hD (aT:a5) (a7:Shared) (ai:bE) (fs':X) (e:Value) (az:Shared):Prop:=
 ai=.dC/\∃ρ' a,cp w CM K env J aT a7 ρ' az fs'/\e=.ref a/\gy CM aT ρ' az.heap a
structure fE (A:Around) (R:bk):Prop extends cB w CM K env J A R where
 de:∀ao fs ai fs',R.de ao fs=some (ai,fs')->∀aT a7 ρ s,cp w CM K env J aT a7 ρ s fs->wpAny (model aw w) A (exec ao env) (eg w CM K env J aT a7 ρ s ai fs') (hD w CM K env J aT a7 ai fs') s
 xF:∀elt gens aW pos y jE oP fs r fs' tu,swapsWith (.ListComp elt gens aW pos) (some (.Name y jE)) oP.line env=pure true->R.ba (.ListComp elt gens aW pos) fs=some (r,fs')->eQ J y r fs'=some tu->
  ∀aT a7 ρ s,cp w CM K env J aT a7 ρ s fs->wpAny (model aw w) A (exec (.Assign [.Name y jE] (.ListComp elt gens aW pos) oP) env) (eg w CM K env J aT a7 ρ s .next tu) cc s
 zz:∀elt gens aW pos fs r fs',R.ba (.ListComp elt gens aW pos) fs=some (r,fs')->∃v,r=.own v
 zd:∀e g c p fs,R.ba (.SetComp e g c p) fs=none
 wP:∀e v g c p fs,R.ba (.DictComp e v g c p) fs=none
end
section
variable{w:World} {CM:cn} {bj:dM} {F:Frag} {K:Top} {env:Env} {J:Scope} {A:Around} {ρ ρ₀ aT ρ':a5} {s c9 a7 az:Shared} {fs fs':X} {R:bk}
theorem cp.step (a3:cp w CM K env J aT a7 ρ s fs) (I:aK w CM K env J ρ' az fs') (av:a2 ρ s ρ' az) (dw:cb ρ fs.loc ρ' fs'.loc):cp w CM K env J aT a7 ρ' az fs':=
 ⟨I,a3.ext.trans av,fun a x e=>a3.gK a x (dw.gl a x e)⟩
theorem eg.ext {aN:a5} {aj:Shared} {ai:bE} {f:Flow} (av:a2 ρ s aN aj) (h:eg w CM K env J aT a7 aN aj ai fs' f az):eg w CM K env J aT a7 ρ s ai fs' f az:=by
 cases ai with
 |next=>exact⟨h.1,h.2.imp fun _ z=>⟨z.1,av.trans z.2⟩⟩
 |brk=>exact⟨h.1,h.2.imp fun _ z=>⟨z.1,av.trans z.2⟩⟩
 |ret r=>exact h
 |dC=>exact h
theorem eg.Ke {ai:bE} {f:Flow} (h:eg w CM K env J aT a7 ρ s ai fs' f az) (aE:ai≠.next):f≠.next:=fun q=>by
 cases ai with
 |next=>exact aE rfl
 |brk=>exact Flow.noConfusion (h.1.symm.trans q)
 |ret r=>exact h.elim fun v z=>Flow.noConfusion (z.1.symm.trans q)
 |dC=>exact h
theorem oN (S:fE w CM K env J A R) (body:List Stmt):∀{fs fs':X} {ai:bE} {ρ:a5} {s:Shared},cO R body fs=some (ai,fs')->cp w CM K env J aT a7 ρ s fs->
  wpAny (model aw w) A (execs body env) (eg w CM K env J aT a7 ρ s ai fs') (hD w CM K env J aT a7 ai fs') s:=by
 induction body with
 |nil=>intro fs fs' ai ρ s q a3;exact b6 q (wpAny_execs_nil ⟨rfl,ρ,a3,a2.refl ..⟩)
 |cons ao body ih=>
  intro fs fs' ai ρ s q a3
  refine b5 q (fun gX fs₁ bw q=> ?_) Z
  have go:=S.de ao fs gX fs₁ bw aT a7 ρ s a3
  have skip:gX≠.next->some (gX,fs₁)=some (ai,fs')->wpAny (model aw w) A (execs (ao::body) env) (eg w CM K env J aT a7 ρ s ai fs') (hD w CM K env J aT a7 ai fs') s:=fun aE q=>by
   cases q
   refine wpAny_execs_cons (wpAny_mono go (fun f aj h=> ?_) fun e aj h=>h)
   cases f with
   |next=>exact absurd rfl (h.Ke aE)
   |_=>exact h
  cases gX with
  |next=>
   refine wpAny_execs_cons (wpAny_mono go (fun f aj h=> ?_) fun e aj h=>nomatch h.1)
   refine cl h ?_;clear h;intro u h;subst u
   refine bb h ?_;clear h;intro aN aZ a0
   exact wpAny_mono (ih q aZ) (fun f ct h=>h.ext a0) fun _ _ h=>h
  |brk=>exact skip (fun q=>bE.noConfusion q) q
  |ret r=>exact skip (fun q=>bE.noConfusion q) q
  |dC=>exact skip (fun q=>bE.noConfusion q) q
theorem Ww {kind:Str->Option NameKind} (l:List (Str×Value)):∀{m:Str->Option Value} {x:Str},x∉l.map (·.1)->bindL kind l m x=m x:=by
 induction l with
 |nil=>intro m x _;rfl
 |cons p r ih=>
  intro m x h
  refine(ih (fun q=>h (List.mem_cons_of_mem _ q))).trans ?_
  by_cases ag:kind p.1=some .local
  ·refine B (if_pos ag) ?_;exact if_neg (fun q:x=p.1=>h (by refine B q ?_;exact List.mem_cons_self))
  ·(refine B (if_neg ag) ?_;rfl)
theorem Rp {kind:Str->Option NameKind} (l:List (Str×Value)):∀{m:Str->Option Value} {x:Str},x∉l.map (·.1)->bindC kind l m x=m x:=by
 induction l with
 |nil=>intro m x _;rfl
 |cons p r ih=>
  intro m x h
  refine(ih (fun q=>h (List.mem_cons_of_mem _ q))).trans ?_
  by_cases ag:kind p.1=some .local
  ·(refine B (if_pos ag) ?_;rfl)
  ·refine B (if_neg ag) ?_;exact if_neg (fun q:x=p.1=>h (by refine B q ?_;exact List.mem_cons_self))
theorem Wv {kind:Str->Option NameKind} (l:List (Str×Value)):∀{m:Str->Option Value} {x:Str} {v:Value},(l.map (·.1)).Nodup->(x,v)∈l->kind x=some .local->bindL kind l m x=some v:=by
 induction l with
 |nil=>intro m x v _ aY;exact(List.not_mem_nil aY).elim
 |cons p r ih=>
  intro m x v aE aY ag
  refine cl (List.nodup_cons.mp aE) ?_;intro M O
  rcases List.mem_cons.mp aY with e|e
  ·rw [<-e] at M|-
   exact(Ww r M).trans (by rw [if_pos ag,if_pos rfl])
  ·exact ih O e ag
theorem Od {kind:Str->Option NameKind} (l:List (Str×Value)):∀{m:Str->Option Value} {x:Str} {v:Value},(l.map (·.1)).Nodup->(x,v)∈l->kind x≠some .local->bindC kind l m x=some v:=by
 induction l with
 |nil=>intro m x v _ aY;exact(List.not_mem_nil aY).elim
 |cons p r ih=>
  intro m x v aE aY ag
  refine cl (List.nodup_cons.mp aE) ?_;intro M O
  rcases List.mem_cons.mp aY with e|e
  ·rw [<-e] at M|-
   exact(Rp r M).trans (by rw [if_neg ag,if_pos rfl])
  ·exact ih O e ag
theorem Fd (ps:List Str):∀{args:List H} {loc:List (Str×cf)},jq ps args=some loc->ps.length=args.length:=by
 induction ps with
 |nil=>
  intro args loc q
  cases args with
  |nil=>rfl
  |cons _ _=>exact Z q
 |cons x r ih=>
  intro args loc q
  cases args with
  |nil=>exact Z q
  |cons v t=>exact bG q (fun l h _=>congrArg (· +1) (ih h)) Z
theorem ED (ps:List Str):∀{args:List H} {bf:List Value} {loc:List (Str×cf)} {x:Str} {bh:cf},jq ps args=some loc->a8 w CM ρ args bf->getL x loc=some bh->
  ∃y v,bh=.U y/\(x,v)∈ps.zip bf/\bX w CM ρ y v:=by
 induction ps with
 |nil=>
  intro args bf loc x bh q ay g
  cases args with
  |nil=>cases q;exact Z g
  |cons _ _=>exact Z q
 |cons p r ih=>
  intro args bf loc x bh q ay g
  cases args with
  |nil=>exact Z q
  |cons a t=>
   refine bG q (fun l aC bR=> ?_) Z
   cases bR
   refine dP ay ?_;intro v vs u O Y;subst u
   by_cases e:x=p
   ·rw [e] at g|-
    exact⟨a,v,(Option.some.inj ((if_pos rfl).symm.trans g)).symm,List.mem_cons_self,O⟩
   ·exact(ih aC Y ((if_neg e).symm.trans g)).imp fun y z=>z.imp fun u z=>⟨z.1,List.mem_cons_of_mem _ z.2.1,z.2.2⟩
open Classical in
noncomputable def hS (ρ:a5) (h':Heap) (L:Addr) (fL:List (Str×Addr)):a5:=fun a=>
 if a=L then .frame else if∃n,fL.lookup n=some a then .cell else bP ρ h' a
theorem AJ {P:cV->Prop} {h':Heap} {L b:Addr} {fL:List (Str×Addr)} (M:b=L->P .frame) (O:∀n,fL.lookup n=some b->P .cell) (Y:P (bP ρ h' b)):P (hS ρ h' L fL b):=by
 unfold hS
 by_cases e:b=L
 ·refine B (if_pos e) ?_;exact M e
 ·refine B (if_neg e) ?_
  by_cases c:∃n,fL.lookup n=some b
  ·refine B (if_pos c) ?_;exact c.elim O
  ·refine B (if_neg c) ?_;exact Y
theorem q8 (ps:List Str):∀{bf:List Value},ps.length=bf.length->(ps.zip bf).map (·.1)=ps:=by
 induction ps with
 |nil=>intro bf _;rfl
 |cons p r ih=>
  intro bf h
  cases bf with
  |nil=>exact(nomatch h)
  |cons v t=>exact congrArg (p:: ·) (ih (Nat.succ.inj h))
theorem cH.frames {per:List H} {K':Top} (ap:cH w CM K ρ s per) (aB:K'.f=K.f) (bx:K'.eD=K.eD) (hs:∀L∈K'.frames,e3 (ρ L)/\∃o,s.heap.get? L=some o/\DM o):cH w CM K' ρ s per:=
 ⟨fun a x e=>ap.fU a x (aB▸e),fun a x e=>ap.fz a x (bx▸e),hs,ap.bK,ap.c1,ap.gq,ap.fS,ap.inj⟩
theorem m4 {ao:Stmt} {a:Addr} {ob:Obj} {bJ:FuncData} {bf:List Value} {aj:Shared} (bV:jY F ao a ob bJ) (fw:(params ao).length=bf.length) {L:Addr} (dO:env=callEnvC bJ L a)
  (x:InCallC s env.locals (bindL env.kindOf ((params ao).zip bf) fun _=>none) env.cells (bindC env.kindOf ((params ao).zip bf) fun _=>none) aj) {y:Str} {v:Value} (O:(y,v)∈(params ao).zip bf):
  e2 env (bN ao) aj.heap y v:=by
 have tG:env.scope=bN ao:=by refine B dO ?_;exact bV.scope
 have yC:env.cells=cellsFrom (L+1) (bN ao).names []:=by(refine B dO ?_;refine bu bV.scope ?_);rfl
 have kS:∀y,env.kindOf y=(bN ao).names.lookup y:=fun y=>by unfold Env.kindOf;(refine B tG ?_;rfl)
 have oM:=q8 _ fw
 have aQ:y∈params ao:=by refine bu oM ?_;exact List.mem_map.mpr ⟨_,O,rfl⟩
 have iM:(((params ao).zip bf).map (·.1)).Nodup:=by refine B oM ?_;exact bV.J.ev
 rcases bV.J.par y aQ with q|q
 ·exact .inl ⟨q,by refine B (kS _) ?_;exact q,_,x.toInCall.ns,Wv _ iM O (by refine B (kS _) ?_;exact q)⟩
 ·refine bS (Option.isSome_iff_exists.mp (bV.J.fc (L+1) y q)) ?_;intro c fW
  replace fW:=(Eq.symm yC)▸fW
  refine .inr ⟨.inl q,by refine B (kS _) ?_;exact q,c,fW,?_⟩
  have:=x.cell y c fW
  rw [Od _ iM O (by rw [kS,q];exact fun z=>NameKind.noConfusion (Option.some.inj z))] at this
  exact this
theorem tN {ao:Stmt} {a:Addr} {ob:Obj} {bJ:FuncData} {per:List H} {bf:List Value} {loc:List (Str×cf)} {aj:Shared} (bV:jY F ao a ob bJ) (fw:(params ao).length=bf.length)
  (VH:∀x bh,getL x loc=some bh->∃y v,bh=.U y/\(x,v)∈(params ao).zip bf/\bX w CM ρ y v)
  (ap:cH w CM K ρ s per) (hc:iH ρ) {L:Addr} (dO:env=callEnvC bJ L a)
  (x:InCallC s env.locals (bindL env.kindOf ((params ao).zip bf) fun _=>none) env.cells (bindC env.kindOf ((params ao).zip bf) fun _=>none) aj):
  cp w CM {K with frames:=env.locals::K.frames} env (bN ao) ρ s (hS ρ aj.heap env.locals env.cells) aj ⟨loc,per⟩:=by
 have tG:env.scope=bN ao:=by refine B dO ?_;exact bV.scope
 have yC:env.cells=cellsFrom (L+1) (bN ao).names []:=by(refine B dO ?_;refine bu bV.scope ?_);rfl
 have kS:∀y,env.kindOf y=(bN ao).names.lookup y:=fun y=>by unfold Env.kindOf;(refine B tG ?_;rfl)
 have uj:=bV.J
 have nl:=x.toInCall.keep
 have eA:=x.toInCall.ns
 refine i9 x.toInCall.same ?_;intro bw tk s0
 subst s0
 have h8:∀b,s.heap.objs.size<=b->ρ b=.free:=fun b h=>(ap.c1 b).mpr (by
  cases e:s.heap.get? b with
  |none=>rfl
  |some o=>exact absurd (Heap.lt_size e) (Nat.not_lt.mpr h))
 have GM:ρ env.locals=.free:=h8 _ x.toInCall.fresh
 have tc:∀n b,env.cells.lookup n=some b->ρ b=.free/\b≠env.locals:=fun n b h=>by
  have O:=x.above n b (mem_of_lookup h)
  exact⟨h8 _ (Nat.le_of_lt (Nat.lt_of_le_of_lt x.toInCall.fresh O)),Nat.ne_of_gt O⟩
 have DL:hS ρ bw env.locals env.cells env.locals=.frame:=if_pos rfl
 have t5:∀n b,env.cells.lookup n=some b->hS ρ bw env.locals env.cells b=.cell:=fun n b h=>by
  unfold hS;(refine B (if_neg (tc n b h).2) ?_;refine B (if_pos ⟨n,h⟩) ?_;rfl)
 have ju:∀b,ρ b≠.free->hS ρ bw env.locals env.cells b=ρ b:=fun b h=>by
  unfold hS
  (refine B (if_neg (fun q=>h (by rw [q];exact GM))) ?_;refine B (if_neg (fun⟨n,q⟩=>h (tc n b q).1)) ?_;refine B (lY h) ?_;rfl)
 have D5:∀b ob,ρ b=.be ob->hS ρ bw env.locals env.cells b=.be ob:=fun b ob h=>by refine B (ju b (by rw [h];exact fun z=>cV.noConfusion z)) ?_;exact h
 have AK:∀b k,ρ b=.per k->hS ρ bw env.locals env.cells b=.per k:=fun b ob h=>by refine B (ju b (by rw [h];exact fun z=>cV.noConfusion z)) ?_;exact h
 have zU:∀b y,hS ρ bw env.locals env.cells b≠.aD y:=fun b y h=>by
  exact AJ (P:=fun r=>r=.aD y->False) (fun _ z=>cV.noConfusion z) (fun n _ z=>cV.noConfusion z) (fun z=>(hc b).1 y (gg.mp z)) h
 refine dH (id eA) ?_;intro us XO Oy qR yG _
 have TR:cH w CM K (bP ρ bw) {s with heap:=bw,toks:=tk} per:=ap.dz nl
 have L9:bP ρ bw env.locals=.aV:=gD GM qR
 have AY:cH w CM K (hS ρ bw env.locals env.cells) {s with heap:=bw,toks:=tk} per:=TR.pr fun b=>by
  refine AJ (P:=fun r=>r=bP ρ bw b\/(l3 (bP ρ bw b)/\l3 r/\(e3 (bP ρ bw b)->e3 r))) (fun e=> ?_) (fun n e=> ?_) (.inl rfl)
  ·(refine B e ?_;refine B L9 ?_);exact .inr ⟨trivial,trivial,fun h=>h.elim⟩
  ·refine bb (x.cell n b e) ?_;intro o cq _
   refine B (gD (tc n b e).1 cq) ?_;exact .inr ⟨trivial,trivial,fun h=>h.elim⟩
 refine⟨⟨AY.frames rfl rfl fun b ah=> ?_,⟨?_,?_,?_,fun y h=> ?_,fun y h=> ?_,fun y h=> ?_,fun y h=> ?_⟩,DL,⟨_,eA⟩,fun y bh h=> ?_,fun y h=> ?_,fun y c M O=>absurd M (uj.c1 y),fun y z c M O=> ?_,fun b y h=>absurd h (zU b y),fun b c y h _=>absurd h (zU b y)⟩,
  ⟨D5,fun b h=> ?_,AK,fun b h=> ?_,fun b h=> ?_,fun b h=> ?_,fun b y h=>absurd h ((hc b).1 y),fun b ob h e=>nl b ob e,fun b ob h e=>⟨_,nl b ob e⟩,⟨_,_,rfl⟩⟩,fun b y h=>absurd h (zU b y)⟩
 ·rcases List.mem_cons.mp ah with e|e
  ·subst e
   exact⟨by refine B DL ?_;trivial,us,qR,fun vs q=>by replace q:=yG▸q;cases q⟩
  ·exact AY.fq b e
 ·refine B tG ?_;exact uj.kind
 ·refine B dO ?_;exact bV.uM
 ·refine B dO ?_;exact bV.lr
 ·refine B (kS _) ?_;exact h
 ·refine B (kS _) ?_;exact h
 ·exact absurd h (uj.c1 y)
 ·refine B (kS _) ?_;exact h
 ·refine dP (VH _ _ h) ?_;intro z v u;subst u;intro O Y
  exact⟨v,m4 bV fw dO x O,bX.bt D5 AK Y⟩
 ·refine bS (Option.isSome_iff_exists.mp (uj.fc (L+1) y h)) ?_;intro c fW
  replace fW:=(Eq.symm yC)▸fW
  exact⟨c,_,fW,t5 y c fW,(tc y c fW).2,x.cell y c fW⟩
 ·exact name_of_addr x.apart (mem_of_lookup M) (mem_of_lookup O)
 ·refine B (ju b (by rw [h];exact fun z=>cV.noConfusion z)) ?_;exact h
 ·exact absurd h (hc b).2.1
 ·exact absurd h (hc b).2.2
 ·refine B (ju b (by rw [h];exact fun z=>cV.noConfusion z)) ?_;exact h
theorem cp.un {K':Top} (iZ:K'.f=K.f) (bx:K'.eD=K.eD) (hs:∀L∈K.frames,L∈K'.frames) (a3:cp w CM K' env J ρ s ρ' az fs) (hc:iH ρ):
  cH w CM K (bl ρ') az fs.per/\a2 ρ s (bl ρ') az/\iH (bl ρ'):=by
 obtain⟨I,av,gK⟩:=a3
 refine⟨I.base.bl.frames iZ.symm bx.symm fun L h=>I.base.bl.fq L (hs L h),⟨fun a ob e=>l4.mpr (av.bK a ob e),fun a e=> ?_,fun a k e=>o9.mpr (av.per a k e),fun a e=>absurd e (hc a).2.1,fun a e=>absurd e (hc a).2.2,fun a e=> ?_,fun a x e=>absurd e ((hc a).1 x),av.keep,av.hV,av.ao⟩,hR _⟩
 ·exact congrArg e4 (av.aV a e)
 ·exact congrArg e4 (av.stk a e)
theorem mM.bl {r:aU} {v:Value} (q:mM w CM ρ ρ' s r v):mM w CM ρ (Mine.bl ρ') s r v:=by
 cases r with
 |U x=>exact bX.bl q
 |own x=>
  refine gm q ?_;clear q;intro a M O Y aC
  exact⟨a,M,O,congrArg e4 Y,aC.bt (fun _ _ e=>l4.mpr e) (fun _ _ e=>o9.mpr e) fun _ e=>e⟩
 |var x=>exact q.elim
theorem gy.bl {h:Heap} {a:Addr} (q:gy CM ρ ρ' h a):gy CM ρ (Mine.bl ρ') h a:=q.imp fun T z=>⟨z.1,congrArg e4 z.2⟩
noncomputable def Ai (w:World) (CM:cn):Prop:=∀(K:Top) (env:Env) (J:Scope) (A:Around) (aT ρ:a5) (a7 s:Shared) (fs:X) (a:Addr) (l:List Env),(∀x,J.names.lookup x≠some .free)->cp w CM K env J aT a7 ρ s fs->gy CM aT ρ s.heap a->A.frames=some (env::l)->xI K A->
 ∀E,wpAny (model aw w) A (leaving env (.ref a)) (fun _ az=>∃ρ',cp w CM K env J aT a7 ρ' az fs/\gy CM aT ρ' az.heap a) E s
theorem MD (x9:Ai w CM) (bn:qF CM bj F) (bz:K.f=F) {k:Nat} (bc:ek K (k+2) A) {b:Bool} {ao:Stmt} {a:Addr} {ob:Obj} {bJ:FuncData} {args per:List H} {bf:List Value} {C CQ:cs} {ai:bE} {dg:List H} (bV:jY F ao a ob bJ) (sr:bJ.defaults=.none)
  (q:jR b C CQ ao args per=some (ai,dg)) (ap:cH w CM K ρ s per) (hc:iH ρ) (ay:a8 w CM ρ args bf)
  (c4:∀L env,env=callEnvC bJ L a->fE w CM {K with frames:=env.locals::K.frames} env (bN ao) (A.deeper env) (aJ b C CQ li (bN ao))):
  wpAny (model aw w) A (call (.ref a) bf) (Bs w CM K ρ s ai dg) (Dv w CM K ρ s ai dg) s:=by
 refine bG q (fun loc ah q=>b5 q (fun qx fs' aP q=> ?_) Z) Z
 have fw:bf.length=(params ao).length:=by(refine B (Fd _ ah) ?_;refine B ay.length ?_;rfl)
 have eX:F.In s.heap:=fun b x e=>ap.bK b x (ap.fU b x (bz▸e))
 have hm:=q8 _ fw.symm
 refine wpAny_call (codeAny_call_cells (Nat.lt_of_le_of_lt (by exact Qn) bc.depth) (eX _ _ bV.gx) bV.data (bn.qS _ eX) (codeRec_of eX bV.code) bV.body (bV.bind bf fw sr) bV.uD (fun y aQ=> ?_) (fun aj x=> ?_) (by refine B bV.scope ?_;exact bV.J.s8) (by refine B bV.scope ?_;exact bV.J.gen) (by refine B bV.scope ?_;exact bV.J.kind))
 ·have:y.1∈params ao:=by refine bu hm ?_;exact List.mem_map.mpr ⟨_,aQ,rfl⟩
  refine B bV.scope ?_
  rcases bV.J.par _ this with q|q
  ·exact .inl q
  ·exact .inr ⟨q,bV.J.fc _ _ q⟩
 ·have a3:=tN bV fw.symm (fun y bh g=>ED _ ah ay g) ap hc rfl x
  have S:=c4 s.heap.objs.size _ rfl
  have g2:∀{ρ':a5} {az:Shared},cp w CM {K with frames:=(callEnvC bJ s.heap.objs.size a).locals::K.frames} (callEnvC bJ s.heap.objs.size a) (bN ao) ρ s ρ' az fs'->
    cH w CM K (Mine.bl ρ') az fs'.per/\a2 ρ s (Mine.bl ρ') az/\iH (Mine.bl ρ'):=fun oc=>
   cp.un (K:=K) (K':={K with frames:=(callEnvC bJ s.heap.objs.size a).locals::K.frames}) rfl rfl (fun L h=>List.mem_cons_of_mem _ h) oc hc
  refine wpAny_mono (oN S _ aP a3) (fun f az h=> ?_) fun e az h=> ?_
  ·cases qx with
   |next=>
    refine b6 (show some (.ret (.U .none),fs'.per)=some (ai,dg) from q) ?_
    refine cl h ?_;clear h;intro u h;subst u
    exact h.elim fun ρ' z=>⟨_,(g2 z.1).1,(g2 z.1).2.1,(g2 z.1).2.2,rfl⟩
   |brk=>exact Z q
   |ret r=>
    refine b6 (show some (.ret r,fs'.per)=some (ai,dg) from q) ?_
    refine bb h ?_;clear h;intro v u h;subst u
    exact h.elim fun ρ' z=>⟨_,(g2 z.1).1,(g2 z.1).2.1,(g2 z.1).2.2,z.2.bl⟩
   |dC=>exact h.elim
  ·refine cl h ?_;clear h;intro u h;subst u
   refine b6 (show some (.dC,fs'.per)=some (ai,dg) from q) ?_
   refine dP h ?_;clear h;intro ρ' b oc u ae;subst u
   refine bb bc.frames ?_;intro l lI hO
   refine wpAny_mono (x9 _ _ _ _ _ _ _ _ _ _ l (fun y=>bV.J.c1 y) oc ae (Around.frames_deeper lI) ⟨_,Around.frames_deeper lI,fun cg aX=> ?_⟩ (fun _ _=>False)) (fun _ ti h=> ?_) fun _ _ h=>h.elim
   ·rcases List.mem_cons.mp aX with e|e
    ·subst e
     refine⟨?_,_,rfl,List.mem_cons_self⟩
     show bJ.scope.kind≠.module
     (refine B bV.scope ?_;refine B bV.J.kind ?_);nofun
    ·exact⟨(hO cg e).1,(hO cg e).2.imp fun L z=>⟨z.1,List.mem_cons_of_mem _ z.2⟩⟩
   ·refine bb h ?_;clear h;intro YE M3 rI
    refine ef (g2 M3) ?_;intro cT dE mf
    exact⟨rfl,_,b,cT,dE,mf,rfl,rI.bl⟩
end
end Mine
end
section
open PySem PySem.W PySem.Calls PyProof.Rows
namespace Mine
theorem Cg:entryFor table "proto.unchain"=some Builtin.«proto.unchain»:=entryFor_of_tree (by kernel_rfl)
theorem D4:plainId "proto.unchain"=true:=by decide+kernel
noncomputable def dv (A:Around) (h:Heap):Prop:=match A.handled with
 |none=>True
 |some (.ref e)=>∃ob,h.get? e=some ob/\r8 ob
 |_=>False
noncomputable def dT (A:Around):List Addr:=match A.handled with
 |some (.ref e)=>[e]
 |_=>[]
theorem dv.fa {A:Around} {h:Heap} {G:Prop} (x:dv A h) (k0:A.handled=none->G) (k:∀e ob,A.handled=some (.ref e)->h.get? e=some ob->r8 ob->G):G:=by
 unfold dv at x
 generalize A.handled=t at x k0 k
 cases t with
 |none=>exact k0 rfl
 |some v=>cases v with
  |ref e=>exact k e _ rfl x.choose_spec.1 x.choose_spec.2
  |_=>exact x.elim
theorem dv.keeps {A:Around} {h h':Heap} (x:dv A h) (ag:∀b∈dT A,∀o,h.get? b=some o->h'.get? b=some o):dv A h':=by
 refine x.fa (fun e=> ?_) (fun e ob aX M O=> ?_)
 ·unfold dv;refine B e ?_;trivial
 ·unfold dT at ag
  replace ag:=aX▸ag
  unfold dv;refine B aX ?_
  exact⟨ob,ag e (List.mem_singleton.mpr rfl) ob M,O⟩
section
variable{w:World} {A:Around} {E:Value->Shared->Prop} {s:Shared}
theorem qn {α:Type} {Q:α->Shared->Prop} (bx:dv A s.heap)
  (cW:∀h' e,(∀b o,s.heap.get? b=some o->h'.get? b=some o)->(∃ob,h'.get? e=some ob/\ob.cls=.type "StopIteration")->E (.ref e) {s with heap:=h'}):
  wpAny (model aw w) A (newExc (.type "StopIteration") []>>=fun e=>raiseNew e) Q E s:=by
 refine wpAny_bind ?_
 delta newExc newTuple
 refine wpAny_bind (wpAny_newObj_type ?_ (by size_fits))
 refine wpAny_bind (m:=firstArgMember _ _) (wpAny_of_eq (a:=Value.none) (by first|rfl|(simp only [firstArgMember];rfl)) ?_)
 refine wpAny_newObj_type ?_ (by first|exact Nat.le_of_ble_eq_true rfl|exact of_decide_eq_true rfl)
 delta raiseNew
 refine wpAny_bind (wpAny_handled ?_)
 refine bx.fa (fun e=> ?_) (fun e ob aX M O=> ?_)<;>clear bx
 ·refine B e ?_
  exact wpAny_bind (wpAny_pure (wpAny_throw (cW _ _ (fun b o q=>Heap.get?_push_of_some _ (Heap.get?_push_of_some _ q)) ⟨_,Heap.get?_push_size _ rfl,rfl⟩)))
 ·refine B aX ?_
  obtain⟨aB,vs,O,Y,aC⟩:=O
  have cy:=Heap.lt_size M
  have bH:∀(pv hC:Obj),((s.heap.push pv).push hC).get? e=some ob:=fun pv hC=>Heap.get?_push_of_some _ (Heap.get?_push_of_some _ M)
  have b1:e≠(s.heap.push {cls:=.type "tuple",dict:=none,data:=.seq ([]:List Value).toArray}).objs.size:=by refine B (Heap.size_push _ _) ?_;exact Nat.ne_of_lt (Nat.lt_succ_of_lt cy)
  dsimp only
  refine B (if_pos (show(Value.ref e !=Value.ref _)=true from by simpa using b1)) ?_
  refine wpAny_bind (wpAny_holding (wpAny_runValue (codeAny_builtin Cg ?_)))
  refine B (Around.under_plainId D4 _) ?_
  unfold Builtin.«proto.unchain»
  refine wpAny_bind (wpAny_field (bH _ _) O aC ?_)
  refine B (if_pos (by decide)) ?_
  refine wpAny_pure ?_
  unfold updateField
  refine wpAny_bind (wpAny_bind (wpAny_load (Heap.get?_push_size _ rfl) ?_))
  dsimp only
  refine B (if_pos (show 2<Array.size _ from Nat.lt_of_lt_of_le (show 2<6 by decide) (by rw [Array.size_append];exact Nat.le_add_right ..))) ?_
  refine wpAny_update (Heap.get?_push_size _ rfl) (wpAny_throw (cW _ _ (fun b o q=> ?_) ⟨_,Heap.get?_update_self _ (Heap.get?_push_size _ rfl) (Obj.isFreed_of_fields (Obj.data_mapFields rfl _)),Obj.cls_mapFields ..⟩))
  have ah:=Heap.lt_size q
  exact(Heap.get?_update_other _ _ (by refine B (Heap.size_push _ _) ?_;exact Nat.ne_of_gt (Nat.lt_succ_of_lt ah))).trans (Heap.get?_push_of_some _ (Heap.get?_push_of_some _ q))
theorem Jj {di l:Addr} {i:Nat} {items} {Q:Option Value->Shared->Prop} (bx:dv A s.heap) (ep:s.heap.IsListIter di l i) (aq:s.heap.IsList l items) (ae:items[i]? =none) (aE:di∉dT A)
  (cW:∀h',Heap.ExtBut di s.heap h'->Q none {s with heap:=h'}):wpAny (model aw w) A (pyNext (.ref di)) Q E s:=by
 refine et (id ep) ?_;intro o cq hc hd
 obtain⟨Vx,y7,_,Uz,zo⟩:=aq
 unfold pyNext
 refine wpAny_bind (wpAny_attempt (wpAny_callSpecial?_slot (name:=Str.ofString "__next__") ep.typeIs slot_listiter_next
  (wpAny_call_entry slot_listiter_next ep.typeIs entry_listiter_next ?_ (args_listiter_next _))))
 show wpAny _ _ (field (.ref di) 0>>=_) _ _ s
 refine wpAny_bind (wpAny_field cq hd (x:=.ref l) rfl ?_)
 show wpAny _ _ (if(Value.ref l==Value.none)=true then _ else _) _ _ s
 refine B (if_neg (show¬((Value.ref l==Value.none)=true) from Bool.false_ne_true)) ?_
 show wpAny _ _ (field (.ref di) 1>>=_) _ _ s
 refine wpAny_bind (wpAny_field cq hd (x:=.int i 0) rfl ?_)
 show wpAny _ _ (seqItems? (.ref l)>>=_) _ _ s
 refine wpAny_bind (wpAny_seqItems y7 zo ?_)
 simp only [Int.toNat_natCast,ae]
 refine wpAny_bind (wpAny_rule (wpAny_bind (wpAny_setField cq hd (by simp) ?_)))
 have ag:=(Heap.SameBut.update s.heap di (Obj.mapFields (·.setIfInBounds 0 .none)))
 refine qn (dv.keeps bx fun b ah o q=>(ag.2 b (fun e=>aE (e▸ah))).trans q) fun h' e eB aX=> ?_
 refine bb aX ?_;clear aX;intro ob iQ ix
 refine wpAny_bind (wpAny_isInstance (T:="StopIteration") (b:=true) ⟨ob,iQ,ix⟩ isSubtype_stop ?_)
 exact wpAny_pure (cW _ fun b o ah q=>eB b o ((ag.2 b ah).trans q))
theorem Jm {di t:Addr} {i:Nat} {items} {Q:Option Value->Shared->Prop} (bx:dv A s.heap) (ep:s.heap.IsTupleIter di t i) (aG:s.heap.IsTuple t items) (ae:items[i]? =none) (aE:di∉dT A)
  (cW:∀h',Heap.ExtBut di s.heap h'->Q none {s with heap:=h'}):wpAny (model aw w) A (pyNext (.ref di)) Q E s:=by
 refine et (id ep) ?_;intro o cq hc hd
 obtain⟨Vx,y7,_,Uz,zo⟩:=aG
 unfold pyNext
 refine wpAny_bind (wpAny_attempt (wpAny_callSpecial?_slot (name:=Str.ofString "__next__") ep.typeIs F.slot_tuple_iterator_next
  (wpAny_call_entry F.slot_tuple_iterator_next ep.typeIs F.entry_tuple_iterator_next ?_ (F.args_tuple_iterator_next_1 _))))
 show wpAny _ _ (field (.ref di) 0>>=_) _ _ s
 refine wpAny_bind (wpAny_field cq hd (x:=.ref t) rfl ?_)
 show wpAny _ _ (if(Value.ref t==Value.none)=true then _ else _) _ _ s
 refine B (if_neg (show¬((Value.ref t==Value.none)=true) from Bool.false_ne_true)) ?_
 show wpAny _ _ (field (.ref di) 1>>=_) _ _ s
 refine wpAny_bind (wpAny_field cq hd (x:=.int i 0) rfl ?_)
 show wpAny _ _ (seqItems? (.ref t)>>=_) _ _ s
 refine wpAny_bind (wpAny_seqItems y7 zo ?_)
 simp only [Int.toNat_natCast,ae]
 refine wpAny_bind (wpAny_rule (wpAny_bind (wpAny_setField cq hd (by simp) ?_)))
 have ag:=(Heap.SameBut.update s.heap di (Obj.mapFields (·.setIfInBounds 0 .none)))
 refine qn (dv.keeps bx fun b ah o q=>(ag.2 b (fun e=>aE (e▸ah))).trans q) fun h' e eB aX=> ?_
 refine bb aX ?_;clear aX;intro ob iQ ix
 refine wpAny_bind (wpAny_isInstance (T:="StopIteration") (b:=true) ⟨ob,iQ,ix⟩ isSubtype_stop ?_)
 exact wpAny_pure (cW _ fun b o ah q=>eB b o ((ag.2 b ah).trans q))
theorem Yg {di:Addr} {x left step:Int} {Q:Option Value->Shared->Prop} (bx:dv A s.heap) (ep:IsRangeIter s.heap di x left step) (XC:left<=0)
  (cW:∀h',Heap.ExtBut di s.heap h'->Q none {s with heap:=h'}):wpAny (model aw w) A (pyNext (.ref di)) Q E s:=by
 have gR:s.TypeIs (.ref di) "range_iterator":=⟨_,ep,rfl⟩
 unfold pyNext
 refine wpAny_bind (wpAny_attempt (wpAny_callSpecial?_slot (name:=Str.ofString "__next__") gR F.slot_range_iterator_next
  (wpAny_call_entry F.slot_range_iterator_next gR F.entry_range_iterator_next ?_ (F.args_range_iterator_next_1 _))))
 show wpAny _ _ (field (.ref di) 0>>=_) _ _ s
 refine wpAny_bind (wpAny_field ep rfl (x:=rawInt x) rfl ?_)
 show wpAny _ _ (field (.ref di) 1>>=_) _ _ s
 refine wpAny_bind (wpAny_field ep rfl (x:=rawInt left) rfl ?_)
 show wpAny _ _ (field (.ref di) 2>>=_) _ _ s
 refine wpAny_bind (wpAny_field ep rfl (x:=rawInt step) rfl ?_)
 show wpAny _ _ (if left<=0 then _ else _) _ _ s
 refine B (if_pos XC) ?_
 refine wpAny_bind (wpAny_rule ?_)
 refine wpAny_bind ?_
 refine qn bx fun h' e eB aX=> ?_
 refine bb aX ?_;clear aX;intro ob iQ ix
 refine wpAny_bind (wpAny_isInstance (T:="StopIteration") (b:=true) ⟨ob,iQ,ix⟩ isSubtype_stop ?_)
 exact wpAny_pure (cW _ fun b o ah q=>eB b o q)
theorem Sx {di l:Addr} {Q:Option Value->Shared->Prop} (bx:dv A s.heap) (ep:s.heap.IsRevIter di l (-1))
  (cW:∀h',Heap.ExtBut di s.heap h'->Q none {s with heap:=h'}):wpAny (model aw w) A (pyNext (.ref di)) Q E s:=by
 refine et (id ep) ?_;intro o cq hc hd
 unfold pyNext
 refine wpAny_bind (wpAny_attempt (wpAny_callSpecial?_slot (name:=Str.ofString "__next__") ep.typeIs F.slot_lri_next
  (wpAny_call_entry F.slot_lri_next ep.typeIs F.entry_lri_next ?_ (F.args_lri_next_1 _))))
 unfold Builtin.«list_reverseiterator.__next__»
 refine wpAny_bind (wpAny_of_eq (a:=(Value.ref di,[])) rfl ?_)
 try dsimp only
 refine wpAny_bind (wpAny_field cq hd (x:=rawInt (-1)) rfl ?_)
 show wpAny _ _ (if(-1:Int)<0 then _ else _) _ _ s
 refine B (if_pos (by decide)) ?_
 refine wpAny_bind (wpAny_rule ?_)
 first
 |refine qn bx fun h' e eB aX=> ?_
 |(refine wpAny_bind ?_;refine qn bx fun h' e eB aX=> ?_)
 refine bb aX ?_;clear aX;intro ob iQ ix
 refine wpAny_bind (wpAny_isInstance (T:="StopIteration") (b:=true) ⟨ob,iQ,ix⟩ isSubtype_stop ?_)
 exact wpAny_pure (cW _ fun b o ah q=>eB b o q)
theorem Rv {di d:Addr} {i cr:Nat} {K:Type} [DecidableEq K] {knd:KeyKind aw w K} {aS:List (K×Value)} {Q:Option Value->Shared->Prop} (bx:dv A s.heap) (ep:s.heap.IsKeyIter di d i aS.length cr)
  (aY:s.heap.DictAt knd d aS cr) (ae:aS[i]? =none) (O4:di∉dT A)
  (cW:∀h',Heap.ExtBut di s.heap h'->Q none {s with heap:=h'}):wpAny (model aw w) A (pyNext (.ref di)) Q E s:=by
 refine et (id ep) ?_;intro o cq hc hd
 refine u5 (id aY) ?_;intro hh es Bk sN jU ag an aE
 unfold pyNext
 refine wpAny_bind (wpAny_attempt (wpAny_callSpecial?_slot (name:=Str.ofString "__next__") ep.typeIs F.slot_dict_keyiterator_next
  (wpAny_call_entry F.slot_dict_keyiterator_next ep.typeIs F.entry_dict_keyiterator_next ?_ (F.args_dict_keyiterator_next_1 _))))
 refine wpAny_bind (wpAny_pure ?_)
 refine wpAny_bind ?_
 refine wpAny_bind ?_
 first|refine wpAny_bind (wpAny_typeNameOfWhole_keyiter ep.typeIs (wpAny_pure ?_))|refine wpAny_bind (wpAny_typeNameOf_keyiter ep.typeIs (wpAny_pure ?_))
 refine wpAny_bind (wpAny_fieldsOf cq hd ?_)
 have Y2:Builtin.Dict_items.ownsTuple "dict_keyiterator"=false:=by decide
 show wpAny _ _ (if(Value.ref d==Value.none)=true then _ else _) _ _ s
 refine B (if_neg (show¬((Value.ref d==Value.none)=true) from Bool.false_ne_true)) ?_
 refine wpAny_bind (wpAny_pure ?_)
 refine wpAny_bind (wpAny_dictEntries Bk jU ?_)
 have dq:es.size=aS.length:=by refine bu an.length ?_;simp
 refine B (if_neg (by rw [dq];simp)) ?_
 refine wpAny_bind (wpAny_pure ?_)
 refine wpAny_bind (wpAny_dictEpoch Bk jU ?_)
 refine B (if_neg (by simp)) ?_
 refine wpAny_pure ?_
 have rA:es.size<=i:=by refine B dq ?_;simpa using ae
 simp only [show¬((i:Int)<0) from by exact D3,if_false,Int.toNat_natCast,Array.getElem?_eq_none rA]
 refine wpAny_bind ?_
 first|refine wpAny_bind (wpAny_typeNameOfWhole_keyiter ep.typeIs (wpAny_pure ?_))|refine wpAny_bind (wpAny_typeNameOf_keyiter ep.typeIs (wpAny_pure ?_))
 show wpAny _ _ (setField (.ref di) 0 .none>>=_) _ _ s
 refine wpAny_bind (wpAny_setField cq hd (by simp) ?_)
 have ag:=(Heap.SameBut.update s.heap di (Obj.mapFields (·.setIfInBounds 0 .none)))
 refine qn (dv.keeps bx fun b ah o q=>(ag.2 b (fun e=>O4 (e▸ah))).trans q) fun h' e eB aX=> ?_
 refine bb aX ?_;clear aX;intro ob iQ ix
 refine wpAny_bind (wpAny_isInstance (T:="StopIteration") (b:=true) ⟨ob,iQ,ix⟩ isSubtype_stop ?_)
 exact wpAny_pure (cW _ fun b o ah q=>eB b o ((ag.2 b ah).trans q))
theorem zJ (I ax:Addr) (b1:ax≠I) (fA:I∉dT A) (items:Array Value):
  Walks aw w A I (I::ax::dT A) [I] items.size (fun i v=>items[i]? =some v) (fun i h=>(h.IsListIter I ax i/\h.IsList ax items)/\dv A h) where
 sub:=fun b ah=>by simp at ah;simp [ah]
 frame:=fun _ _ _ ao ag=>⟨⟨ao.1.1.at fun o e=>ag I (by simp) o e,ao.1.2.at fun o e=>ag ax (by simp) o e⟩,ao.2.keeps fun b ah o e=>ag b (by simp [ah]) o e⟩
 item:=fun i s Q E aR ao cW=>by
  refine wpAny_pyNext_list_item ao.1.1 ao.1.2 (x:=items[i]) (by simp [aR]) fun h' j3 fD=> ?_
  exact cW _ h' s.toks (by simp [aR]) ⟨⟨j3,ao.1.2.extBut fD.extBut b1⟩,ao.2.keeps fun b ah o e=>(fD.2 b (fun q=>fA (q▸ah))).trans e⟩ fun b o ah e=>fD.extBut b o (fun h=>ah (by simp [h])) e
 done:=fun s Q E ao cW=>Jj ao.2 ao.1.1 ao.1.2 (by simp) fA fun h' hB=>cW h' s.toks fun b o ah e=>hB b o (fun h=>ah (by simp [h])) e
 self:=fun _ _ _ _ ao cW=>wpAny_pyIter_listiter ao.1.1 cW
theorem Bi (I ax:Addr) (b1:ax≠I) (fA:I∉dT A) (items:Array Value):
  Walks aw w A I (I::ax::dT A) [I] items.size (fun i v=>items[i]? =some v) (fun i h=>(h.IsTupleIter I ax i/\h.IsTuple ax items)/\dv A h) where
 sub:=fun b ah=>by simp at ah;simp [ah]
 frame:=fun _ _ _ ao ag=>⟨⟨ao.1.1.at fun o e=>ag I (by simp) o e,ao.1.2.at fun o e=>ag ax (by simp) o e⟩,ao.2.keeps fun b ah o e=>ag b (by simp [ah]) o e⟩
 item:=fun i s Q E aR ao cW=>by
  refine wpAny_pyNext_tuple_item ao.1.1 ao.1.2 (x:=items[i]) (by simp [aR]) fun h' j3 fD=> ?_
  exact cW _ h' s.toks (by simp [aR]) ⟨⟨j3,ao.1.2.extBut fD.extBut b1⟩,ao.2.keeps fun b ah o e=>(fD.2 b (fun q=>fA (q▸ah))).trans e⟩ fun b o ah e=>fD.extBut b o (fun h=>ah (by simp [h])) e
 done:=fun s Q E ao cW=>Jm ao.2 ao.1.1 ao.1.2 (by simp) fA fun h' hB=>cW h' s.toks fun b o ah e=>hB b o (fun h=>ah (by simp [h])) e
 self:=fun _ _ _ _ ao cW=>wpAny_pyIter_tupleiter ao.1.1 cW
theorem Cz {K:Type} [DecidableEq K] {knd:KeyKind aw w K} (I d:Addr) (b1:d≠I) (fA:I∉dT A) (aS:List (K×Value)) (cr:Nat):
  Walks aw w A I (I::d::dT A) [I] aS.length (fun i v=>∃k x,aS[i]? =some (k,x)/\knd.is k v=true) (fun i h=>(h.IsKeyIter I d i aS.length cr/\h.DictAt knd d aS cr)/\dv A h) where
 sub:=fun b ah=>by simp at ah;simp [ah]
 frame:=fun _ _ _ ao ag=>⟨⟨ao.1.1.at fun o e=>ag I (by simp) o e,ao.1.2.at' fun o e=>ag d (by simp) o e⟩,ao.2.keeps fun b ah o e=>ag b (by simp [ah]) o e⟩
 item:=fun i s Q E aR ao cW=>by
  obtain⟨⟨k,x⟩,ae⟩:∃p,aS[i]? =some p:=⟨aS[i],by simp [aR]⟩
  refine wpAny_pyNext_dict_item ao.1.1 ao.1.2 ae fun key h' hm j3 fD=> ?_
  exact cW key h' s.toks ⟨k,x,ae,hm⟩ ⟨⟨j3,ao.1.2.extBut fD.extBut b1⟩,ao.2.keeps fun b ah o e=>(fD.2 b (fun q=>fA (q▸ah))).trans e⟩ fun b o ah e=>fD.extBut b o (fun h=>ah (by simp [h])) e
 done:=fun s Q E ao cW=>Rv ao.2 ao.1.1 ao.1.2 (by simp) fA fun h' hB=>cW h' s.toks fun b o ah e=>hB b o (fun h=>ah (by simp [h])) e
 self:=fun _ _ _ _ ao cW=>wpAny_pyIter_keyiter ao.1.1 cW
theorem Sy (I:Addr) (fA:I∉dT A) (a c:Int) (n:Nat):
  Walks aw w A I (I::dT A) [I] n (fun i v=>∃t,v=.int (a+i*c) t) (fun i h=>IsRangeIter h I (a+(i:Nat)*c) ((n:Int)-(i:Nat)) c/\dv A h) where
 sub:=fun _ ah=>by simp at ah;simp [ah]
 frame:=fun _ _ _ ao ag=>⟨ag I (by simp) _ ao.1,ao.2.keeps fun b ah o e=>ag b (by simp [ah]) o e⟩
 item:=fun i s Q E aR ao cW=>by
  refine wpAny_pyNext_range_item ao.1 (by exact Tr aR) fun h' j3 fD=> ?_
  refine cW _ h' _ ⟨_,rfl⟩ ⟨?_,ao.2.keeps fun b ah o e=>(fD.2 b (fun q=>fA (q▸ah))).trans e⟩ fun b o ah e=>fD.extBut b o (fun h=>ah (by simp [h])) e
  have ak:a+((i+1:Nat):Int)*c=a+(i:Int)*c+c:=by push_cast;(refine B (Int.add_mul _ _ _) ?_;refine B (Int.one_mul _) ?_;refine B (Int.add_assoc _ _ _) ?_;rfl)
  have ar:(n:Int)-((i+1:Nat):Int)=(n:Int)-(i:Int)-1:=by push_cast;exact UM
  (refine B ak ?_;refine B ar ?_);exact j3
 done:=fun s Q E ao cW=>Yg ao.2 ao.1 (by exact Vi) fun h' hB=>cW h' s.toks fun b o ah e=>hB b o (fun h=>ah (by simp [h])) e
 self:=fun _ _ _ _ ao cW=>wpAny_pyIter_rangeiter ao.1 cW
theorem QW (I l:Addr) (b1:l≠I) (fA:I∉dT A) (items:Array Value):
  Walks aw w A I (I::l::dT A) [I] items.size (fun i v=>items[items.size-1-i]? =some v) (fun i h=>(i<=items.size/\h.IsRevIter I l ((items.size:Int)-1-(i:Int))/\h.IsList l items)/\dv A h) where
 sub:=fun b ah=>by simp at ah;simp [ah]
 frame:=fun _ _ _ x ag=>⟨⟨x.1.1,x.1.2.1.at fun o e=>ag I (by simp) o e,x.1.2.2.at fun o e=>ag l (by simp) o e⟩,x.2.keeps fun b ah o e=>ag b (by simp [ah]) o e⟩
 item:=fun i s Q E aR x cW=>by
  have e:(items.size:Int)-1-(i:Int)=((items.size-1-i:Nat):Int):=by exact WF aR
  have ep:=x.1.2.1
  replace ep:=e▸ep
  have ae:items[items.size-1-i]? =some (items[items.size-1-i]'(by exact C6 e)):=Array.getElem?_eq_getElem (by exact C6 e)
  refine wpAny_pyNext_rev_item ep x.1.2.2 ae fun h' j3 fD=> ?_
  have ar:((items.size-1-i:Nat):Int)-1=(items.size:Int)-1-((i+1:Nat):Int):=by omega
  replace j3:=ar▸j3
  exact cW _ h' s.toks ae ⟨⟨aR,j3,x.1.2.2.at fun o x1=>(fD.2 l b1).trans x1⟩,x.2.keeps fun b ah o e=>(fD.2 b (fun q=>fA (q▸ah))).trans e⟩ fun b o ah x1=>fD.extBut b o (fun h=>ah (by simp [h])) x1
 done:=fun s Q E x cW=>by
  have e:(items.size:Int)-1-(items.size:Int)= -1:=by exact PV
  have ep:=x.1.2.1
  replace ep:=e▸ep
  exact Sx x.2 ep fun h' hB=>cW h' s.toks fun b o ah e=>hB b o (fun h=>ah (by simp [h])) e
 self:=fun _ _ _ _ x cW=>wpAny_pyIter_revIter x.1.2.1 cW
end
end Mine
end
section
open PySem PySem.W PySem.Calls PyProof.Rows
namespace Mine
structure jL (CM:cn) (bj:dM) (F:Frag):Prop extends u0 CM bj F where
 lr:∀f:String,f∈["len","abs","sum","sorted","min","isinstance"]->hr F (Str.ofString f)=some (.builtin f)
 tV:∀f:String,f∈["int","tuple","dict","range","reversed","bool","list"]->hr F (Str.ofString f)=some (.type f)
section
variable{w:World} {CM:cn} {bj:dM} {F:Frag} {K:Top} {env:Env} {J:Scope} {A:Around} {ρ ρ₀ ρ':a5} {s c9 az:Shared} {fs fs':X} {R:bk}
theorem f4.fa {A:Around} {G:Prop} (h:f4 K A) (k0:A.handled=none->G) (k:∀e ob,K.eD=some (e,ob)->A.handled=some (.ref e)->r8 ob->G):G:=by
 unfold f4 at h
 generalize K.eD=t at h k
 cases t with
 |none=>exact k0 h
 |some p=>exact k p.1 p.2 rfl h.1 h.2
theorem cH.lE {per:List H} (ap:cH w CM K ρ s per) (h:f4 K A):dv A s.heap:=by
 unfold dv
 refine h.fa (fun e=> ?_) (fun e ob q ak ar=> ?_)
 ·refine B e ?_;trivial
 ·refine B ak ?_;exact⟨ob,ap.bK _ _ (ap.fz _ _ q),ar⟩
theorem cH.dT {per:List H} (ap:cH w CM K ρ s per) (h:f4 K A):∀b∈dT A,∃ob,ρ b=.be ob:=by
 unfold Mine.dT
 refine h.fa (fun e=> ?_) (fun e ob q ak ar=> ?_)
 ·refine B e ?_;exact fun b ah=>(List.not_mem_nil ah).elim
 ·refine B ak ?_
  exact fun b ah=>⟨ob,by refine B (List.mem_singleton.mp ah) ?_;exact ap.fz _ _ q⟩
theorem cH.Gw {per:List H} {a:Addr} (ap:cH w CM K ρ s per) (h:f4 K A) (aE:∀ob,ρ a≠.be ob):a∉Mine.dT A:=fun q=>
 let⟨ob,e⟩:=ap.dT h a q;aE ob e
theorem NS (l:List H):∀{ns:List Int} {vs:List Value},th l=some ns->a8 w CM ρ l vs->∃xs:Array (Int×Tok),vs=(intItems xs).toList/\xs.toList.map (·.1)=ns:=by
 induction l with
 |nil=>intro ns vs q h;cases q;refine B (show vs=[] from h) ?_;exact⟨#[],by simp [intItems],rfl⟩
 |cons x r ih=>
  intro ns vs q h
  refine hH q (fun i t aR aG q=>cF q ?_) Z
  replace h:=(jK aR)▸h
  obtain⟨v,t,rfl,⟨tk,rfl⟩,Y⟩:=h
  refine bb (ih aG Y) ?_;intro xs aC bR
  refine⟨⟨(i,tk)::xs.toList⟩,?_,by simp [bR]⟩
  refine B aC ?_;simp [intItems]
theorem J2 {n:Nat} (h:n<=a4):(n:Int)<2^63:=Int.ofNat_lt.mpr (Nat.lt_of_le_of_lt h (by decide))
theorem QB {v:H} {x:Value} {n:Nat} (q:we v=some n) (hz:n<=a4) (I:aK w CM K env J ρ s fs) (ae:cv w CM ρ s v x):
  wpAny (model aw w) A (call (.builtin "len") [x]) (b3 w CM K env J ρ s fs (.U (.int n)) fs) cc s:=by
 have cM:∀{m:Nat} {tk:Tok},m=n->b3 w CM K env J ρ s fs (.U (.int n)) fs (.int m tk) {s with toks:=s.toks+1+1}:=fun{m tk} e=>by refine B e ?_;exact ew (tk:=s.toks+1+1) I ⟨tk,rfl⟩
 have aE:∀{m:Nat},m=n->(m:Int)<2^63:=fun e=>e▸J2 hz
 cases v with
 |am l=>
  refine dH (ae.am I.base) ?_;intro a vs k u;subst u;intro M O
  have Y:(Array.mk vs).size=n:=O.length.trans (Option.some.inj q)
  exact call_len_list (fv M) (aE Y) (cM Y)
 |aF l=>
  refine dH (ae.aF I.base) ?_;intro a vs k u;subst u;intro M O
  have Y:(Array.mk vs).size=n:=O.length.trans (Option.some.inj q)
  exact PyProof.Rows.len_tuple (items:=Array.mk vs) ⟨_,M,rfl,k,rfl⟩ (aE Y) (cM Y)
 |V l=>
  refine gv (ae.V I.base) ?_;intro a aS u;subst u;intro aL M O
  have Y:aS.length=n:=O.length.trans (Option.some.inj q)
  exact call_len_dict aL M (aE Y) (cM Y)
 |_=>exact Z q
theorem I5 {v:H} {x:Value} {r:aU} (q:AV v=some r) (I:aK w CM K env J ρ s fs) (ae:cv w CM ρ s v x):
  wpAny (model aw w) A (call (.type "int") [x]) (b3 w CM K env J ρ s fs r fs) cc s:=by
 cases v with
 |int i=>
  refine cF q ?_
  refine bS ae.int ?_;intro t u;subst u
  exact call_int_int (ew (tk:=s.toks) I ⟨_,rfl⟩)
 |bool b=>
  refine cF q ?_
  refine B ae.bool ?_
  exact call_int_bool (ew I ⟨_,rfl⟩)
 |_=>exact Z q
theorem IB {i:Int} {x:Value} (I:aK w CM K env J ρ s fs) (ae:cv w CM ρ s (.int i) x):
  wpAny (model aw w) A (call (.builtin "abs") [x]) (b3 w CM K env J ρ s fs (.U (.int (if i<0 then-i else i))) fs) cc s:=by
 refine bS ae.int ?_;intro t u;subst u
 exact call_abs_int fun u tk=>ew I ⟨_,rfl⟩
theorem TJ {l:List H} {ns:List Int} {x:Value} (M:th l=some ns) (bc:f4 K A) (I:aK w CM K env J ρ s fs) (ae:cv w CM ρ s (.am l) x):
  wpAny (model aw w) A (call (.builtin "sum") [x]) (b3 w CM K env J ρ s fs (.U (.int ns.sum)) fs) cc s:=by
 refine dH (ae.am I.base) ?_;intro a vs n u;subst u;intro O Y
 refine bb (NS _ M Y) ?_;intro xs aC bR
 have aq:s.heap.IsList a (intItems xs):=by
  have:=fv O
  replace this:=aC▸this
  exact this
 have h8:s.heap.get? s.heap.objs.size=none:=fd
 have d8:∀ob,ρ s.heap.objs.size≠.be ob:=fun ob e=>by replace e:=((I.base.c1 _).mpr h8)▸e;cases e
 refine call_sum_walkG (iter_intList aq fun ct e ao Fo Pj=> ?_)
 subst e
 refine⟨_,_,_,_,_,_,numAt xs,rfl,zJ (A:=A.in1) _ a Pj (I.base.Gw (A:=A) bc d8) (intItems xs),⟨ao,?_⟩,fun b ah=> ?_,(fun _ _=>intItems_at),fun h' tk dW ag=> ?_⟩
 ·exact dv.keeps (A:=A.in1) (I.base.lE (A:=A) bc) fun b _ o e=>Heap.get?_push_of_some _ e
 ·rcases List.mem_cons.mp ah with e|ah
  ·exact Fo b (by refine B e ?_;simp)
  ·rcases List.mem_cons.mp ah with e|ah
   ·exact Fo b (by refine B e ?_;simp)
   ·refine bS (I.base.dT (A:=A) bc b ah) ?_;intro ob e
    exact Heap.lt_size (Heap.get?_push_of_some _ (I.base.bK _ _ e))
 ·have z:preSum (numAt xs) (intItems xs).size=ns.sum:=by
   (refine B (preSum_eq _ _) ?_;refine bu bR ?_;refine B (List.take_of_length_le (by simp [intItems])) ?_;rfl)
  refine B z ?_
  have eB:=old_kept ag
  refine b3.trans (a2.dz eB) cb.dz (ew (tk:=tk) (s:={s with heap:=h',toks:=tk}) (I.dz (tk:=tk) eB) ⟨dW,rfl⟩)
theorem Tm {a b:Int} {t u:Tok} (bc:f4 K A) (I:aK w CM K env J ρ s fs):
  wpAny (model aw w) A (call (.builtin "min") [.int a t,.int b u]) (b3 w CM K env J ρ s fs (.U (.int (if b<a then b else a))) fs) cc s:=by
 have gR:(s.heap.push {cls:=.type "tuple",data:=.seq #[.int a t,.int b u]}).IsTuple s.heap.objs.size (intItems #[(a,t),(b,u)]):=⟨_,Heap.get?_push_size _ rfl,rfl,0,by simp [intItems]⟩
 refine call_min_two (wpAny_pyIter_tuple gR ?_)
 have dq:(s.heap.push {cls:=.type "tuple",data:=.seq #[.int a t,.int b u]}).objs.size=s.heap.objs.size+1:=Heap.size_push ..
 have h8:s.heap.get? (s.heap.objs.size+1)=none:=by
  cases e:s.heap.get? (s.heap.objs.size+1) with
  |none=>rfl
  |some ob=>exact absurd (Heap.lt_size e) (Nat.not_lt.mpr (Nat.le_succ _))
 have d8:∀ob,ρ (s.heap.objs.size+1)≠.be ob:=fun ob e=>by replace e:=((I.base.c1 _).mpr h8)▸e;cases e
 refine⟨_,_,[_],_,_,_,_,rfl,Bi (A:=A.in1) _ s.heap.objs.size (by refine B dq ?_;exact Nat.ne_of_lt (Nat.lt_succ_self _)) (by refine B dq ?_;exact I.base.Gw (A:=A) bc d8) (intItems #[(a,t),(b,u)]),
  ⟨⟨⟨_,Heap.get?_push_size _ rfl,rfl,rfl⟩,gR.push _⟩,dv.keeps (A:=A.in1) (I.base.lE (A:=A) bc) fun b _ o e=>Heap.get?_push_of_some _ (Heap.get?_push_of_some _ e)⟩,fun c hc=> ?_,by simp [intItems],CmpOf.ints_lt (numAt #[(a,t),(b,u)]) (fun _ _=>intItems_at),fun v h' tk i7 ag=> ?_⟩
 ·show c<((s.heap.push _).push _).objs.size
  (refine B (Heap.size_push _ _) ?_;refine B dq ?_)
  rcases List.mem_cons.mp hc with e|hc
  ·(refine B e ?_;refine B dq ?_);exact Nat.lt_succ_self _
  ·rcases List.mem_cons.mp hc with e|hc
   ·refine B e ?_;exact Nat.lt_succ_of_lt (Nat.lt_succ_self _)
   ·refine bS (I.base.dT (A:=A) bc c hc) ?_;intro ob e
    exact Nat.lt_succ_of_lt (Nat.lt_succ_of_lt (Heap.lt_size (I.base.bK _ _ e)))
 ·have oj:∀c o,s.heap.get? c=some o->h'.get? c=some o:=fun c o e=>by
   refine ag c o (fun aY=> ?_) (Heap.get?_push_of_some _ (Heap.get?_push_of_some _ e))
   rcases List.mem_cons.mp aY with ak|aY
   ·have:=Heap.lt_size e;(replace this:=ak▸this;replace this:=dq▸this);exact Nat.lt_irrefl _ (Nat.lt_of_succ_lt this)
   ·cases aY
  have ay:v=if b<a then Value.int b u else Value.int a t:=by
   have p0:(intItems #[(a,t),(b,u)])[argBest (fun i j=>decide (numAt #[(a,t),(b,u)] i<numAt #[(a,t),(b,u)] j)) 1]? =some v:=by
    have Ib:(intItems #[(a,t),(b,u)]).size-1=1:=by simp [intItems]
    refine bu Ib ?_;exact i7
   by_cases iR:b<a
   ·have e:argBest (fun i j=>decide (numAt #[(a,t),(b,u)] i<numAt #[(a,t),(b,u)] j)) 1=1:=by simp [argBest,numAt,iR]
    replace p0:=e▸p0
    simpa [intItems,iR] using p0.symm
   ·have e:argBest (fun i j=>decide (numAt #[(a,t),(b,u)] i<numAt #[(a,t),(b,u)] j)) 1=0:=by simp [argBest,numAt,iR]
    replace p0:=e▸p0
    simpa [intItems,iR] using p0.symm
  refine b3.trans (a2.dz oj) cb.dz (ew (tk:=tk) (s:={s with heap:=h',toks:=tk}) (I.dz (tk:=tk) oj) ?_)
  refine B ay ?_
  by_cases iR:b<a
  ·(refine B (if_pos iR) ?_;refine B (if_pos iR) ?_);exact⟨_,rfl⟩
  ·(refine B (if_neg iR) ?_;refine B (if_neg iR) ?_);exact⟨_,rfl⟩
theorem MR {l:List H} {x:Value} (hz:l.length<=a4) (I:aK w CM K env J ρ s fs) (ae:cv w CM ρ s (.am l) x):
  wpAny (model aw w) A (call (.type "tuple") [x]) (b3 w CM K env J ρ s fs (.U (.aF l)) fs) cc s:=by
 refine dH (ae.am I.base) ?_;intro a vs n u;subst u;intro M O
 have Y:=O.length
 refine call_tuple_list (fv M) (fun h' ag=> ?_) (by(refine B List.size_toArray ?_;refine B Y ?_);exact Nat.le_trans hz jb)
 refine b3.trans (a2.dz (tk:=s.toks) ag) cb.dz (yZ (tk:=s.toks) (s:={s with heap:=h'}) (I.dz (tk:=s.toks) ag) (fun b ob e=>Heap.get?_push_of_some _ e) fd (Heap.get?_push_size _ rfl) fun ρ' aB an cq=> ?_)
 exact⟨_,vs,0,rfl,cq,O.bt (fun b o e=>aB _ _ (hY.mpr e)) (fun b o e=>an _ _ (hf.mpr e))⟩
theorem I7 (iZ:∃ob,K.f.lookup sysModules=some ob) {l:List (al×H)} {x:Value} (hz:l.length<=a4) (I:aK w CM K env J ρ s fs) (ae:cv w CM ρ s (.V l) x):
  wpAny (model aw w) A (call (.type "dict") [x]) (b3 w CM K env J ρ s fs (.own (.V l)) fs) cc s:=by
 refine gv (ae.V I.base) ?_;intro a aS u;subst u;intro aL M O
 have Y:=O.length
 refine kt_call_dict aL M (by refine B Y ?_;exact Nat.le_trans hz jb) fun h' dQ pZ=> ?_
 have nl:∀b ob,s.heap.get? b=some ob->h'.get? b=some ob:=fun b ob e=>by
  refine B (pZ.2 b (Nat.ne_of_lt (Heap.lt_size e))) ?_;exact Heap.get?_push_of_some _ e
 refine n0 (tk:=s.toks) I nl fd ?_
 refine qC dQ ?_;clear dQ;intro ob d2 cr ak ar bQ cX dn fg
 exact⟨ob,d2,cr,aS,q5 iZ I fd,ak,ar,bQ,cX,dn,fg,O⟩
end
end Mine
end
section
open PySem PySem.W PySem.Calls PyProof.Rows
namespace Mine
noncomputable def i6 (CM:cn) (c:Str):Option Value:=
 if sK.contains c then some (.type c.toString) else if hE.contains c then(CM c).map .ref else none
noncomputable def wn (T:String) (c:Str):Bool:=
 if T="bool" then decide (c=("bool":Str))||decide (c=("int":Str)) else if T="int" then decide (c=("int":Str)) else if T="list" then decide (c=("list":Str)) else if T="dict" then decide (c=("dict":Str)) else false
structure pV (CM:cn) (bj:dM) (F:Frag):Prop extends jL CM bj F where
 lf:∀T,T∈["NoneType","bool","int","str","list","dict","tuple"]->∀c eH,i6 CM c=some eH->kitOne F (.type T) eH=some (wn T c)
 r1:∀d D c eH,CM d=some D->(d=("Shelf":Str)\/hE.contains d=true)->i6 CM c=some eH->kitOne F (.ref D) eH=some (decide (c=d))
 He:∀d D,CM d=some D->(d=("Shelf":Str)\/hE.contains d=true)->plainGet F D "__class__"=true/\hasDictIn F D=true/\findIn F (.ref D) "__class__"=some (some (.builtin "object.__class__"))/\mroIn F D (.type "object")=some true
 zl:specialIn F (.builtin "object.__class__") "__get__"=some (some (.builtin "getset_descriptor.__get__"))/\takesIn F (.builtin "object.__class__")=some true
 cls:∀c,hE.contains c=true->∃C,CM c=some C
 GB:∀c eH,i6 CM c=some eH->hr F c=some eH
section
variable{w:World} {CM:cn} {bj:dM} {F:Frag} {K:Top} {env:Env} {J:Scope} {A:Around} {ρ ρ₀ ρ':a5} {s c9 az:Shared} {fs fs':X} {R:bk}
theorem pV.i6 (bn:pV CM bj F) {c:Str} (h:(sK.contains c||hE.contains c)=true):∃eH,Mine.i6 CM c=some eH:=by
 unfold Mine.i6
 split
 ·exact⟨_,rfl⟩
 ·rename_i e
  have hc:hE.contains c=true:=by
   rcases Bool.or_eq_true_iff.mp h with h|h
   ·exact absurd h e
   ·exact h
  refine B (if_pos hc) ?_
  refine bS (bn.cls c hc) ?_;intro C q
  exact⟨_,by refine B q ?_;rfl⟩
theorem Lz (bn:pV CM bj F) (bz:K.f=F) {v:H} {x eH:Value} {c:Str} {b:Bool} (q:gB v c=some b) (hc:Mine.i6 CM c=some eH) (I:aK w CM K env J ρ s fs) (ae:cv w CM ρ s v x):
  wpAny (model aw w) A (call (.builtin "isinstance") [x,eH]) (b3 w CM K env J ρ s fs (.U (.bool b)) fs) cc s:=by
 subst bz
 refine cK q ?_ Z;clear q;intro aA q
 have av:=I.in
 have lf:∀T,T∈["NoneType","bool","int","str","list","dict","tuple"]->kitOne K.f (.type T) eH=some (wn T c):=fun T gR=>bn.lf T gR c eH hc
 have cM:∀{c:Bool},some c=some b->∀tk,b3 w CM K env J ρ s fs (.U (.bool b)) fs (.bool c) {s with toks:=tk}:=fun h tk=>ew I (congrArg Value.bool (Option.some.inj h))
 cases v with
 |none=>
  refine B ae.none ?_
  exact kia_one kitx_none av trivial (lf "NoneType" (by decide)) (fun z=>Value.noConfusion z) (cM q)
 |bool y=>
  refine B ae.bool ?_
  exact kia_one kitx_bool av trivial (lf "bool" (by decide)) (fun z=>Value.noConfusion z) (cM q)
 |int y=>
  refine bS ae.int ?_;intro t u;subst u
  exact kia_one kitx_int av trivial (lf "int" (by decide)) (fun z=>Value.noConfusion z) (cM q)
 |str y=>
  refine bS ae.str ?_;intro t u;subst u
  exact kia_one kitx_str av trivial (lf "str" (by decide)) (fun z=>Value.noConfusion z) (cM q)
 |aF l=>
  refine dH (ae.aF I.base) ?_;intro a vs n u;subst u;intro M O
  exact kia_one kitx_tuple av ⟨_,M,rfl⟩ (lf "tuple" (by decide)) (fun z=>Value.noConfusion z) (cM q)
 |am l=>
  refine dH (ae.am I.base) ?_;intro a vs n u;subst u;intro M O
  exact kia_one kitx_list av ⟨_,M,rfl⟩ (lf "list" (by decide)) (fun z=>Value.noConfusion z) (cM q)
 |V l=>
  refine gv (ae.V I.base) ?_;intro a aS u;subst u;intro aL M O
  exact kia_one kitx_dict av M.typeIs (lf "dict" (by decide)) (fun z=>Value.noConfusion z) (cM q)
 |dS d l=>
  refine cK q ?_ Z;clear q;intro hd q
  have hL:d=("Shelf":Str)\/hE.contains d=true:=by simpa using hd
  obtain⟨ad,dd,hh,C,rfl,M,O,Y,aC,bR⟩:=ae.dS
  refine nO (bn.He d C M hL) ?_;intro d9 fO hG kC
  have In:InstAt s.heap ad (instObj C dd) C (some hh):=⟨I.base.bK _ _ O,rfl,rfl,I.base.bK _ _ Y⟩
  exact kia_one (kitx_own d9 fO hG bn.zl.1 bn.zl.2 kC) av In (bn.r1 d C c eH M hL hc) (fun z=>Value.noConfusion z) (cM q)
 |per k=>exact Z q
end
end Mine
end
section
open PySem PySem.W PySem.Calls PyProof.Rows
namespace Mine
theorem oQ {A:Around} {h:Heap} (x:dv A h):∀b∈dT A,b<h.objs.size:=by
 unfold dT
 refine x.fa (fun e=> ?_) fun e ob aX M _=> ?_
 ·refine B e ?_;exact fun b ah=>(List.not_mem_nil ah).elim
 ·refine B aX ?_
  exact fun b ah=>by refine B (List.mem_singleton.mp ah) ?_;exact Heap.lt_size M
section
variable{w:World} {A:Around} {E:Value->Shared->Prop} {s:Shared} {K:Type} [DecidableEq K] {knd:KeyKind aw w K} {d:Addr} {aS:List (K×Value)} {cr:Nat}
noncomputable abbrev vH (knd:KeyKind aw w K) (aS:List (K×Value)):Nat->Value->Prop:=fun i v=>∃k x,aS[i]? =some (k,x)/\knd.is k v=true
theorem T0 {R:Result->Shared->Prop} (bx:dv A s.heap) (c2:(d==sysModules)=false) (aY:s.heap.DictAt knd d aS cr) (S:Addr) (G7:S≠d) (zR:S∉dT A) (res:Value) (BN:Nat) (mL:s.heap.get? S=some {cls:=.type "list",data:=.seq #[] BN})
  (gc:∀h' tk ha c',(∀b o,b≠S->s.heap.get? b=some o->h'.get? b=some o)->h'.get? S=some {cls:=.type "list",dict:=none,data:=.seq ha c',slots:= #[]}->ItemsOf (vH knd aS) ha aS.length->R (.ok (.ret res)) {s with heap:=h',toks:=tk}) (aE:aS.length<=sizeLine):
  wpAny (model aw w) A.in1 (Builtin.List.listExtendWith (.ref S) (.ref d) res)
   (fun cM az=>match cM with|.done f=>R (.ok f) az|.again c'=>c'.quiet=true/\codeAny (model aw w) A c' R az) (fun e az=>R (.error e) az) s:=by
 have rU:S≠s.heap.objs.size:=Nat.ne_of_lt (Heap.lt_size mL)
 have hd:=aY.lt_size
 have VV:s.heap.objs.size∉dT A:=fun q=>Nat.lt_irrefl _ (oQ bx _ q)
 have tC:S∉s.heap.objs.size::d::dT A:=by simp only [List.mem_cons,not_or];exact⟨rU,G7,zR⟩
 have W:=Cz (w:=w) (A:=A.in1) (knd:=knd) s.heap.objs.size d (Nat.ne_of_lt hd) VV aS cr
 have key:∀(h:Heap) (ul tk:Nat),((h.IsKeyIter s.heap.objs.size d 0 aS.length cr/\h.DictAt knd d aS cr)/\dv A.in1 h)->(∀b o,b≠S->s.heap.get? b=some o->h.get? b=some o)->
   h.get? S=some {cls:=.type "list",data:=.seq #[] ul}->codeAny (model aw w) A (.builtin "list.extend.loop" ⟨[.ref S,.ref s.heap.objs.size,res],[]⟩) R {s with heap:=h,toks:=tk}:=by
  intro h ul tk eN ag om
  refine codeAny_extend_loopS W.toS aE S tC res aS.length 0 _ #[] ul rfl (Nat.zero_le _) eN om (ItemsOf.nil _) fun az ha c' nf oX il=> ?_
  refine B (Moved.eq_with nf) ?_
  refine gc az.heap az.toks ha c' (fun b o ah e=>nf.heap b o (fun ya=> ?_) (ag b o ah e)) oX il
  rcases List.mem_cons.mp ya with cg|ya
  ·exact ah cg
  ·exact absurd (Heap.lt_size e) (by refine B (List.mem_singleton.mp ya) ?_;exact Nat.lt_irrefl _)
 unfold Builtin.List.listExtendWith
 refine wpAny_bind (wpAny_typeOf (T:="dict") aY.dictOf.typeIs ?_)
 have M:Builtin.List.listSameRef (.ref S) (.ref d)=false:=by simp [Builtin.List.listSameRef,G7]
 simp only [M,show(Value.type "dict"==Value.type "list")=false from by decide,show(Value.type "dict"==Value.type "tuple")=false from by decide,Bool.or_false,Bool.false_eq_true,if_false]
 refine wpAny_bind (wpAny_pyIter_dict c2 aY ?_)
 have om:=Heap.get?_push_of_some {cls:=.type "dict_keyiterator",data:=.fields #[.ref d,.int 0 0,.int aS.length 0,.int cr 0]} mL
 have ao:(((s.heap.push {cls:=.type "dict_keyiterator",data:=.fields #[.ref d,.int 0 0,.int aS.length 0,.int cr 0]}).IsKeyIter s.heap.objs.size d 0 aS.length cr/\(s.heap.push {cls:=.type "dict_keyiterator",data:=.fields #[.ref d,.int 0 0,.int aS.length 0,.int cr 0]}).DictAt knd d aS cr)/\dv A.in1 (s.heap.push {cls:=.type "dict_keyiterator",data:=.fields #[.ref d,.int 0 0,.int aS.length 0,.int cr 0]})):=
  ⟨⟨⟨_,Heap.get?_push_size _ rfl,rfl,rfl⟩,aY.push _⟩,dv.keeps (A:=A.in1) bx fun b _ o e=>Heap.get?_push_of_some _ e⟩
 refine wpAny_bind (wpAny_holding (kdl_hint_dict (aY.push _).dictOf.typeIs ?_))
 refine wpAny_ite_split (fun _=> ?_) (fun _=>wpAny_pure ⟨plainId_quiet PySem.F.plain_extend_loop _,key _ BN _ ao (fun b o _ e=>Heap.get?_push_of_some _ e) om⟩)
 refine wpAny_bind (wpAny_rule ?_)
 refine wpAny_bind ?_
 show wpAny _ _ (updateSeq S (·.push .none)>>=fun _=>updateSeq S (·.pop)) _ _ _
 refine wpAny_bind (wpAny_updateSeq om rfl ?_)
 have Am:=Heap.get?_update_self (Obj.mapSeq (·.push Value.none)) om rfl
 refine wpAny_updateSeq (hz:=by seq_fits) Am rfl ?_
 have NW:=Heap.get?_update_self (Obj.mapSeq (·.pop)) Am rfl
 refine wpAny_pure ⟨plainId_quiet PySem.F.plain_extend_loop _,key _ _ _ ?_ (fun b o ah e=> ?_) NW⟩
 ·refine W.frame 0 _ _ ao fun b ah o e=> ?_
  have BR:b≠S:=fun h=>tC (h▸ah)
  exact(Heap.get?_update_other _ _ (Ne.symm BR)).trans ((Heap.get?_update_other _ _ (Ne.symm BR)).trans e)
 ·exact(Heap.get?_update_other _ _ (Ne.symm ah)).trans ((Heap.get?_update_other _ _ (Ne.symm ah)).trans (Heap.get?_push_of_some _ e))
theorem QI {R:List Value->Shared->Prop} (bx:dv A s.heap) (c2:(d==sysModules)=false) (aY:s.heap.DictAt knd d aS cr) (aE:aS.length<=sizeLine)
  (h:∀(h':Heap) (tk:Nat) (cm:Array Value),(∀b o,s.heap.get? b=some o->h'.get? b=some o)->ItemsOf (vH knd aS) cm aS.length->R cm.toList {s with heap:=h',toks:=tk}):
  wpAny (model aw w) A (collect (.ref d)) R E s:=by
 have cy:=aY.lt_size
 unfold collect
 refine wpAny_bind (wpAny_runValue (codeAny_builtin entry_proto_collect' ?_))
 refine B (Around.under_plainId PySem.F.plain_proto_collect _) ?_
 show wpAny _ A.in1 (newList []>>=fun l=>again (.builtin "list.__iadd__" ⟨[l,.ref d],[]⟩)) _ _ s
 refine wpAny_bind (wpAny_newObj_type ?_)
 refine wpAny_pure ⟨plainId_quiet PySem.F.plain_list_iadd _,codeAny_builtin entry_list_iadd' ?_⟩
 refine B (Around.under_plainId PySem.F.plain_list_iadd _) ?_
 have om:(s.heap.push {cls:=.type "list",data:=.seq ([]:List Value).toArray}).get? s.heap.objs.size=some {cls:=.type "list",data:=.seq #[]}:=Heap.get?_push_size _ rfl
 show wpAny _ A.in1 (Builtin.List.listExtendWith (.ref s.heap.objs.size) (.ref d) (.ref s.heap.objs.size)) _ _ _
 have key:=T0 (A:=A) (s:={s with heap:=s.heap.push {cls:=.type "list",data:=.seq ([]:List Value).toArray}})
  (R:=fun(q:Result) (az:Shared)=>∃(h':Heap) (tk:Nat) (ha:Array Value) (c':Nat),q=.ok (.ret (.ref s.heap.objs.size))/\az={s with heap:=h',toks:=tk}/\
   (∀b o,s.heap.get? b=some o->h'.get? b=some o)/\h'.get? s.heap.objs.size=some {cls:=.type "list",dict:=none,data:=.seq ha c',slots:= #[]}/\ItemsOf (vH knd aS) ha aS.length)
  (bx.keeps fun b _ o e=>Heap.get?_push_of_some _ e) c2 (aY.push _) s.heap.objs.size (Nat.ne_of_gt cy) (fun q=>Nat.lt_irrefl _ (oQ bx _ q)) (.ref s.heap.objs.size) 0 om
  (fun h' tk ha c' ag oX il=>⟨h',tk,ha,c',rfl,rfl,fun b o e=>ag b o (Nat.ne_of_lt (Heap.lt_size e)) (Heap.get?_push_of_some _ e),oX,il⟩) aE
 refine wpAny_mono key (fun cM az x=> ?_) fun e az x=> ?_
 ·cases cM with
  |done f=>
   refine A6 x ?_;clear x;intro h' tk ha c' e u;subst u;intro ag oX il
   cases e
   show wpAny _ A (load s.heap.objs.size>>=_) _ _ _
   refine wpAny_bind (wpAny_load oX ?_)
   exact wpAny_pure (h h' tk ha ag il)
  |again ul=>
   refine⟨x.1,codeAny_mono x.2 fun q ct y=> ?_⟩
   refine A6 y ?_;clear y;intro h' tk ha c' u;subst u;intro u;subst u;intro ag oX il
   show wpAny _ A (load s.heap.objs.size>>=_) _ _ _
   refine wpAny_bind (wpAny_load oX ?_)
   exact wpAny_pure (h h' tk ha ag il)
 ·refine qp x ?_;clear x;intro _ _ _ _ cg _
  cases cg
theorem SI {Q:Value->Shared->Prop} (bx:dv A s.heap) (c2:(d==sysModules)=false) (aY:s.heap.DictAt knd d aS cr) (aE:aS.length<=sizeLine)
  (h:∀(h':Heap) (tk:Nat) (vs:List Value),(∀b o,s.heap.get? b=some o->h'.get? b=some o)->vs.length=aS.length->(∀(j:Nat) (v:Value),vs[j]? =some v->vH knd aS j v)->
   wpAny (model aw w) A.in1.in1 (Builtin.«list.sort» ⟨[.ref h'.objs.size],[]⟩) (fun cM az=>cM=.done (.ret .none)/\Q (.ref h'.objs.size) az) E {s with heap:=h'.push (seqObj "list" vs.toArray 0),toks:=tk}):
  wpAny (model aw w) A (call (.builtin "sorted") [.ref d]) Q E s:=by
 refine call_function_entry kind_sorted plain_sorted entry_sorted (args_sorted1 _) ?_
 unfold Builtin.«sorted»
 refine wpAny_bind (m:=checkCount "sorted" 1 1 _) (wpAny_pure ?_)
 refine wpAny_bind (QI (A:=A.in1) bx c2 aY aE fun h' tk cm ag il=> ?_)
 have aq:cm.toList.length=aS.length:=by refine B Array.length_toList ?_;exact il.1
 refine wpAny_bind (wpAny_newList ?_ (by refine B aq ?_;exact aE))
 have bi:=h h' tk cm.toList ag aq (fun j v e=>il.2 j v (by refine bu Array.getElem?_toList ?_;exact e))
 have WK:(h'.push (seqObj "list" cm.toList.toArray 0)).get? h'.objs.size=some (seqObj "list" cm.toList.toArray 0):=Heap.get?_push_size _ rfl
 refine wpAny_bind (wpAny_holding (wpAny_call_entry (s:={s with heap:=h'.push (seqObj "list" cm.toList.toArray 0),toks:=tk}) slot_list_sort ⟨_,WK,rfl⟩ entry_list_sort (wpAny_mono bi (fun cM az x=> ?_) fun _ _ e=>e) (args_list_sort _)))
 refine cl x ?_;clear x;intro u;subst u;intro x
 exact⟨_,rfl,wpAny_pure ⟨_,rfl,x⟩⟩
end
end Mine
end
section
open PySem PySem.W PySem.Calls PyProof.Rows
namespace Mine
theorem v2 (a:Int):∀l:List Int,(jw a l).Perm (a::l)
 |[]=>.refl _
 |b::r=>by
  unfold jw
  split
  ·exact .refl _
  ·exact((v2 a r).cons b).trans (.swap ..)
theorem DS (a:Int):∀l:List Int,l.Pairwise (· <= ·)->(jw a l).Pairwise (· <= ·)
 |[],_=>by simp [jw]
 |b::r,h=>by
  have M:=List.pairwise_cons.mp h
  unfold jw
  split
  ·rename_i cy
   exact List.pairwise_cons.mpr ⟨fun c hc=>by
    rcases List.mem_cons.mp hc with rfl|hc
    ·exact Vb cy
    ·have:=M.1 c hc;exact X6 cy this,h⟩
  ·rename_i rA
   refine List.pairwise_cons.mpr ⟨fun c hc=> ?_,DS a r M.2⟩
   rcases List.mem_cons.mp ((v2 a r).mem_iff.mp hc) with rfl|hc
   ·exact PH rA
   ·exact M.1 c hc
theorem D8:∀(l cm:List Int),cm.Pairwise (· <= ·)->(l.foldl (fun cm a=>jw a cm) cm).Perm (l++cm)/\(l.foldl (fun cm a=>jw a cm) cm).Pairwise (· <= ·)
 |[],cm,h=>⟨.refl _,h⟩
 |a::r,cm,h=>by
  refine cl (D8 r (jw a cm) (DS a cm h)) ?_;intro M O
  refine⟨M.trans ?_,O⟩
  exact(List.Perm.append_left r (v2 a cm)).trans List.perm_middle
theorem UO {l k:List Int} (an:k.Perm l) (hs:k.Pairwise (· <= ·)):k=qE l:=by
 refine cl (D8 l [] .nil) ?_;intro M O
 exact List.Perm.eq_of_pairwise (fun _ _ _ _ a b=>Int.le_antisymm a b) hs O (an.trans (by replace M:=(List.append_nil _)▸M;exact M.symm))
noncomputable abbrev lb (a b:Str):Prop:=a.cps.toList<=b.cps.toList
theorem DW {a b:Str}:x2 a b=true↔a.cps.toList<b.cps.toList:=by unfold x2;simp
theorem v5 (a:Str):∀l:List Str,(kV a l).Perm (a::l)
 |[]=>.refl _
 |b::r=>by
  unfold kV
  split
  ·exact .refl _
  ·exact((v5 a r).cons b).trans (.swap ..)
theorem DO (a:Str):∀l:List Str,l.Pairwise lb->(kV a l).Pairwise lb
 |[],_=>by simp [kV]
 |b::r,h=>by
  have M:=List.pairwise_cons.mp h
  unfold kV
  split
  ·rename_i cy
   have Bd:lb a b:=List.le_of_lt (DW.mp cy)
   exact List.pairwise_cons.mpr ⟨fun c hc=>by
    rcases List.mem_cons.mp hc with rfl|hc
    ·exact Bd
    ·exact List.le_trans Bd (M.1 c hc),h⟩
  ·rename_i rA
   have iR:lb b a:=List.not_lt.mp (fun q=>rA (DW.mpr q))
   refine List.pairwise_cons.mpr ⟨fun c hc=> ?_,DO a r M.2⟩
   rcases List.mem_cons.mp ((v5 a r).mem_iff.mp hc) with rfl|hc
   ·exact iR
   ·exact M.1 c hc
theorem D2:∀(l cm:List Str),cm.Pairwise lb->(l.foldl (fun cm a=>kV a cm) cm).Perm (l++cm)/\(l.foldl (fun cm a=>kV a cm) cm).Pairwise lb
 |[],cm,h=>⟨.refl _,h⟩
 |a::r,cm,h=>by
  refine cl (D2 r (kV a cm) (DO a cm h)) ?_;intro M O
  refine⟨M.trans ?_,O⟩
  exact(List.Perm.append_left r (v5 a cm)).trans List.perm_middle
theorem Rz {a b:Str} (h:a.cps.toList=b.cps.toList):a=b:=by
 cases a;cases b;simp only [Str.mk.injEq];exact Array.toList_inj.mp h
theorem OD {l k:List Str} (an:k.Perm l) (hs:k.Pairwise lb):k=Mine.xQ l:=by
 refine cl (D2 l [] .nil) ?_;intro M O
 exact List.Perm.eq_of_pairwise (fun _ _ _ _ a b=>Rz (List.le_antisymm a b)) hs O (an.trans (by replace M:=(List.append_nil _)▸M;exact M.symm))
theorem Fn:∀(p:Str) (l:List Str),risingS p l=true->(p::l).Pairwise lb
 |p,[],_=>by simp
 |p,x::r,h=>by
  unfold risingS at h
  simp only [Bool.and_eq_true,Bool.not_eq_true'] at h
  have ih:=Fn x r h.2
  have Go:lb p x:=by
   replace h:=(ltCps_eq _ _)▸h
   exact List.not_lt.mp (of_decide_eq_false h.1)
  refine List.pairwise_cons.mpr ⟨fun c hc=> ?_,ih⟩
  rcases List.mem_cons.mp hc with rfl|hc
  ·exact Go
  ·exact List.le_trans Go ((List.pairwise_cons.mp ih).1 c hc)
theorem Jd:∀{l:List Str},PyProof.Rows.sortedS l=true->l.Pairwise lb
 |[],_=>.nil
 |x::r,h=>Fn x r h
section
variable{w:World} {CM:cn} {bj:dM} {F:Frag} {K:Top} {env:Env} {J:Scope} {A:Around} {ρ ρ₀ ρ':a5} {s c9 az:Shared} {fs fs':X} {R:bk}
theorem AA:∀{vs:List Value} {ns:List Int},vs.length=ns.length->(∀(j:Nat) v n,vs[j]? =some v->ns[j]? =some n->∃t,v=Value.int n t)->IntsAre vs ns
 |[],[],_,_=>.nil
 |v::vs,n::ns,h,ay=>by
  refine bS (ay 0 v n rfl rfl) ?_;intro t u;subst u
  exact .cons n t (AA (by simpa using h) fun j u m M O=>ay (j+1) u m (by simpa using M) (by simpa using O))
 |[],_::_,h,_=>by cases h
 |_::_,[],h,_=>by cases h
theorem DX:∀{vs:List Value} {ns:List Str},vs.length=ns.length->(∀(j:Nat) v n,vs[j]? =some v->ns[j]? =some n->∃t,v=Value.str n t)->StrsAre vs ns
 |[],[],_,_=>.nil
 |v::vs,n::ns,h,ay=>by
  refine bS (ay 0 v n rfl rfl) ?_;intro t u;subst u
  exact .cons n t (DX (by simpa using h) fun j u m M O=>ay (j+1) u m (by simpa using M) (by simpa using O))
 |[],_::_,h,_=>by cases h
 |_::_,[],h,_=>by cases h
theorem a8.ints:∀{vs:List Value} {ns:List Int},IntsAre vs ns->a8 w CM ρ (ns.map H.int) vs
 |_,_,.nil=>a8.nil
 |_,_,.cons n t h=>a8.cons ⟨t,rfl⟩ (a8.ints h)
theorem a8.strs:∀{vs:List Value} {ns:List Str},StrsAre vs ns->a8 w CM ρ (ns.map H.str) vs
 |_,_,.nil=>a8.nil
 |_,_,.cons n t h=>a8.cons ⟨t,rfl⟩ (a8.strs h)
theorem P3 (l:List (al×H)):∀{ns:List Int},ow l=some ns->l.map (·.1)=ns.map al.int:=by
 induction l with
 |nil=>intro ns q;exact cF q rfl
 |cons p r ih=>
  intro ns q
  refine hH q (fun i t aR aG q=>cF q ?_) Z
  (refine B List.map_cons ?_;refine B (ih aG) ?_)
  generalize p.1=k at aR
  cases k with
  |int j=>exact cF aR rfl
  |str _=>exact Z aR
theorem Tv (l:List (al×H)):∀{ns:List Str},uW l=some ns->l.map (·.1)=ns.map al.str:=by
 induction l with
 |nil=>intro ns q;exact cF q rfl
 |cons p r ih=>
  intro ns q
  refine hH q (fun i t aR aG q=>cF q ?_) Z
  (refine B List.map_cons ?_;refine B (ih aG) ?_)
  generalize p.1=k at aR
  cases k with
  |str j=>exact cF aR rfl
  |int _=>exact Z aR
theorem I3 {l:List (al×H)} {x:Value} {r:aU} (q:qQ l=some r) (hz:l.length<64) (bc:f4 K A) (I:aK w CM K env J ρ s fs) (ae:cv w CM ρ s (.V l) x):
  wpAny (model aw w) A (call (.builtin "sorted") [x]) (b3 w CM K env J ρ s fs r fs) cc s:=by
 refine gv (ae.V I.base) ?_;intro a aS u;subst u;intro aL M O
 have bC:=O.length
 have oM:=O.zL
 refine bS M.dictAt ?_;intro cr fy
 have dq:aS.length<=sizeLine:=by(refine B bC ?_;refine B sizeLine_eq ?_);exact J4 hz
 refine SI (I.base.lE bc) aL fy dq fun h' tk vs ag aq ay=> ?_
 have cM:∀{xs:List H} (out:Array Value),a8 w CM ρ xs out.toList->b3 w CM K env J ρ s fs (.own (.am xs)) fs (.ref h'.objs.size) {s with heap:=sortedHeap (h'.push (seqObj "list" vs.toArray 0)) h'.objs.size vs out,toks:=tk}:=fun{xs} out aP=>by
  refine bS (sortedHeap_at (h:=h'.push (seqObj "list" vs.toArray 0)) (a:=h'.objs.size) (vs:=vs) (n:=0) (out:=out) (Heap.get?_push_size _ rfl)) ?_;intro e aX
  refine b3.trans (a2.dz (tk:=tk) ag) cb.dz ?_
  refine n0 (tk:=tk) (s:={s with heap:=h',toks:=tk}) (I.dz (tk:=tk) ag) (fun b ob e=> ?_) fd ?_
  ·have ah:b<h'.objs.size:=Heap.lt_size e
   (refine B (sortedHeap_old (Nat.ne_of_lt ah) (by rw [size_push'];exact Nat.lt_succ_of_lt ah)) ?_;refine B (Heap.get?_push_ne _ _ _ (Nat.ne_of_lt ah)) ?_)
   exact e
  ·exact⟨out.toList,e,by simpa using aX,aP.bt (fun b o e=>hY.mpr e) (fun b k e=>hf.mpr e)⟩
 refine Mu q (fun ns eA=> ?_) fun ns eA=> ?_
 ·have eB:aS.map (·.1)=ns.map al.int:=oM.trans (P3 l eA)
  have fA:IntsAre vs ns:=AA (by(refine B aq ?_;refine bu (List.length_map (f:=(·.1)) (as:=aS)) ?_;refine B eB ?_;refine B (List.length_map _) ?_;rfl)) fun j v n ak ar=>by
   refine hw (ay j v ak) ?_;intro k y bQ cX
   have dn:(aS.map (·.1))[j]? =some k:=by(refine B List.getElem?_map ?_;refine B bQ ?_);rfl
   (replace dn:=eB▸dn;replace dn:=List.getElem?_map▸dn;replace dn:=ar▸dn)
   replace cX:=(Eq.symm (Option.some.inj dn))▸cX
   exact jN cX
  refine list_sort_tree (Heap.get?_push_size _ rfl) fA (by(refine B aq ?_;refine B bC ?_);exact hz) fun out Zt bW cC cY=>⟨rfl,?_⟩
  refine bu (UO cC cY) ?_
  exact cM out (a8.ints bW)
 ·have eB:aS.map (·.1)=ns.map al.str:=oM.trans (Tv l eA)
  have fA:StrsAre vs ns:=DX (by(refine B aq ?_;refine bu (List.length_map (f:=(·.1)) (as:=aS)) ?_;refine B eB ?_;refine B (List.length_map _) ?_;rfl)) fun j v n ak ar=>by
   refine hw (ay j v ak) ?_;intro k y bQ cX
   have dn:(aS.map (·.1))[j]? =some k:=by(refine B List.getElem?_map ?_;refine B bQ ?_);rfl
   (replace dn:=eB▸dn;replace dn:=List.getElem?_map▸dn;replace dn:=ar▸dn)
   replace cX:=(Eq.symm (Option.some.inj dn))▸cX
   exact jI cX
  refine list_sort_treeK strKind_oneLt (Heap.get?_push_size _ rfl) fA.keysOf (fun UI Za rest e=>keyKind_strs (by refine bu e ?_;exact fA)) (by(refine B aq ?_;refine B bC ?_);exact hz) fun Y1 an hs=>⟨rfl,?_⟩
  refine et (sorted_out_str fA an hs) ?_;intro YS bW cC cY
  refine bu (OD cC (Jd cY)) ?_
  exact cM _ (a8.strs bW)
end
end Mine
end
section
open PySem PySem.W PySem.Calls PyProof.Rows
namespace Mine
section
variable{w:World} {A:Around} {E:Value->Shared->Prop} {s:Shared}
theorem RQ {α:Type} {Q:α->Shared->Prop} {e:Addr} {ob:Obj} {vs:Array Value} (bx:dv A s.heap) (aX:s.heap.get? e=some ob) (hd:ob.data=.fields vs) (O:2<vs.size) (b1:e∉dT A)
  (hP:∀h',(∀b o,b≠e->s.heap.get? b=some o->h'.get? b=some o)->(∃hC,h'.get? e=some hC/\hC.cls=ob.cls)->E (.ref e) {s with heap:=h'}):
  wpAny (model aw w) A (raiseNew (.ref e)) Q E s:=by
 delta raiseNew
 refine wpAny_bind (wpAny_handled ?_)
 unfold dT at b1
 refine bx.fa (fun cg=> ?_) fun x Zw ae M an=> ?_<;>clear bx
 ·refine B cg ?_
  exact wpAny_bind (wpAny_pure (wpAny_throw (hP _ (fun b o _ q=>q) ⟨_,aX,rfl⟩)))
 ·rw [ae] at b1|-
  obtain⟨aB,cZ,Y,aC,bR⟩:=an
  have QU:x≠e:=fun q=>b1 (List.mem_singleton.mpr q.symm)
  dsimp only
  refine B (if_pos (show(Value.ref x !=Value.ref e)=true from by simpa using QU)) ?_
  refine wpAny_bind (wpAny_holding (wpAny_runValue (codeAny_builtin Cg ?_)))
  refine B (Around.under_plainId D4 _) ?_
  unfold Builtin.«proto.unchain»
  refine wpAny_bind (wpAny_field M Y bR ?_)
  refine B (if_pos (by decide)) ?_
  refine wpAny_pure ?_
  unfold updateField
  refine wpAny_bind (wpAny_bind (wpAny_load aX ?_))
  refine B hd ?_
  dsimp only
  refine B (if_pos (show 2<Array.size _ from O)) ?_
  refine wpAny_update aX (wpAny_throw (hP _ (fun b o ah q=> ?_) ⟨_,Heap.get?_update_self _ aX (Obj.isFreed_of_fields (Obj.data_mapFields hd _)),Obj.cls_mapFields ..⟩))
  exact(Heap.get?_update_other _ _ (Ne.symm ah)).trans q
theorem Iv {α:Type} {Q:α->Shared->Prop} {o:Value} {name:Str} {Ak:Str} (bx:dv A s.heap)
  (h:∀h' tk e,(∀b o,s.heap.get? b=some o->h'.get? b=some o)->(∃ob,h'.get? e=some ob/\ob.cls=.type "AttributeError")->E (.ref e) {s with heap:=h',toks:=tk}) (aY:Ak.length<=sizeLine:=by size_fits):
  wpAny (model aw w) A (raiseAttrError o name Ak:Sem α) Q E s:=by
 have cy:=oQ bx
 unfold raiseAttrError
 refine wpAny_bind (wpAny_mkStr (wpAny_bind ?_) aY)
 unfold newExc newTuple
 refine wpAny_bind (wpAny_newObj_type ?_ (by size_fits))
 refine wpAny_bind (m:=firstArgMember _ _) (wpAny_of_eq (a:=Value.none) (by simp only [firstArgMember,attrError_no_first];rfl) ?_)
 refine B (ownMembersOf_AttributeError _) ?_
 refine wpAny_newObj_type ?_ (by size_fits)
 obtain⟨an,g,d,tk,os⟩:=s
 have d9:=sub_AttributeError
 have keep:∀(br fn:Obj) (f:Obj->Obj) b ob,an.get? b=some ob->Heap.get? (((an.push br).push fn).update (an.push br).objs.size f) b=some ob:=fun br fn f b ob ah=>by
  have cy:b<an.objs.size:=Heap.lt_size ah
  refine(Heap.get?_update_other _ _ ?_).trans (Heap.get?_push_of_some _ (Heap.get?_push_of_some _ ah))
  simp only [Heap.size_push]
  exact Nat.ne_of_gt (Nat.lt_succ_of_lt cy)
 repeat (any_goals (first|assumption|with_reducible (show wpAny _ _ (raiseNew _) _ _ _;fail_if_success skip)|wp_step))
 dsimp only
 refine RQ (dv.keeps bx fun b _ o e=>keep _ _ _ b o e) (Heap.get?_update_self _ (Heap.get?_push_size _ rfl) rfl) rfl (by simp) (fun q=>Nat.lt_irrefl _ (Nat.lt_trans (Nat.lt_succ_self _) (by have:=cy _ q;simp only [Heap.size_push] at this;exact Nat.lt_of_lt_of_le this (Nat.le_refl _)))) fun h' ag aX=> ?_
 refine bb aX ?_;clear aX;intro hC ak ar
 refine h _ _ _ (fun b o ah=>ag b o (fun q=> ?_) (keep _ _ _ b o ah)) ⟨hC,ak,ar⟩
 have:=Heap.lt_size ah
 replace this:=q▸this
 simp only [Heap.size_push] at this
 exact absurd this (Nat.not_lt.mpr (Nat.le_succ _))
theorem JX {a:Addr} {xs:Array Value} {k:Nat} {name:Str} {u:Tok} {P:Fin->Shared->Prop} (bx:dv A s.heap) (ae:s.heap.get? a=some {cls:=.type "list",dict:=none,data:=.seq xs k,slots:= #[]})
  (vI:typeLookup (.type "list") name=pure none) (sq:(["__module__","__name__","__qualname__","__doc__","__annotations__"]:List Str).contains name=false)
  (h:∀h' tk e,(∀b o,s.heap.get? b=some o->h'.get? b=some o)->(∃ob,h'.get? e=some ob/\ob.cls=.type "AttributeError")->E (.ref e) {s with heap:=h',toks:=tk}) (dq:name.length+100<=sizeLine):
  wpAny (model aw w) A (Builtin.«object.__getattribute__» ⟨[.ref a,.str name u],[]⟩) P E s:=by
 obtain⟨an,g,d,tk,os⟩:=s
 have gR:(⟨an,g,d,tk,os⟩:Shared).TypeIs (.ref a) "list":=⟨_,ae,rfl⟩
 unfold Builtin.«object.__getattribute__»
 repeat (any_goals (first|assumption|wp_step))
 refine wpAny_ite_false (decide_eq_false (by refine B sq ?_;exact Bool.false_ne_true)) ?_
 repeat (any_goals (first|assumption|wp_step))
 exact Iv bx h (attrMsg_fits (by decide+kernel) dq)
set_option maxHeartbeats 1000000 in
theorem Xy {a:Addr} {xs:Array Value} {k:Nat} {name:Str} {Q:Option Value->Shared->Prop} (bx:dv A s.heap) (ae:s.heap.get? a=some {cls:=.type "list",dict:=none,data:=.seq xs k,slots:= #[]})
  (vI:typeLookup (.type "list") name=pure none) (sq:(["__module__","__name__","__qualname__","__doc__","__annotations__"]:List Str).contains name=false)
  (h:∀h' tk,(∀b o,s.heap.get? b=some o->h'.get? b=some o)->Q none {s with heap:=h',toks:=tk}) (dq:name.length+100<=sizeLine):
  wpAny (model aw w) A (getAttr? (.ref a) name) Q E s:=by
 have call:∀{s:Shared} {u:Tok} {Q:Value->Shared->Prop} {E:Value->Shared->Prop},dv A s.heap->s.heap.get? a=some {cls:=.type "list",dict:=none,data:=.seq xs k,slots:= #[]}->
   (∀h' tk e,(∀b o,s.heap.get? b=some o->h'.get? b=some o)->(∃ob,h'.get? e=some ob/\ob.cls=.type "AttributeError")->E (.ref e) {s with heap:=h',toks:=tk})->
   wpAny (model aw w) A (call (.builtin "list.__getattribute__") [.ref a,.str name u]) Q E s:=fun{s u Q E} bx ae h=>
  wpAny_call_entry F.slot_list_getattribute ⟨_,ae,rfl⟩ am_entry_list_getattribute (JX (A:=A.in1) bx ae vI sq h dq) (F.args_list_getattribute_2 _ _)
 obtain⟨an,g,d,tk,os⟩:=s
 have gR:∀lj,(⟨an,g,d,lj,os⟩:Shared).TypeIs (.ref a) "list":=fun _=>⟨_,ae,rfl⟩
 have d9:=sub_AttributeError
 have hG:=F.slot_list_getattribute.lookup
 have kC:=F.slot_list_getattribute.bind (.ref a)
 have pm:=am_list_getattr_none
 unfold getAttr? getAttrBy? getAttrBy
 repeat (any_goals (first|assumption|exact gR _|(refine call bx ae fun h' lj e ag aX=> ?_;obtain⟨⟨c,V,Zi,f0⟩,iQ,ix⟩:=aX;simp only at ix;subst ix)|wp_step))
 exact h h' lj ag
end
end Mine
end
section
open PySem PySem.W PySem.Calls PyProof.Rows
namespace Mine
theorem FM:entryFor table "dict.update.loop"=some Builtin.«dict.update.loop»:=entryFor_of_tree (by kernel_rfl)
theorem vb:plainId "dict.update.loop"=true:=by decide+kernel
section
variable{w:World} {CM:cn} {bj:dM} {F:Frag} {K:Top} {env:Env} {J:Scope} {A:Around} {ρ ρ₀ ρ':a5} {s c9 az:Shared} {fs fs':X} {R:bk}
noncomputable def Dt (h:Heap) (vs:List Value) (aS:List (al×Value)):Prop:=
 vs.length=aS.length/\∀(j:Nat) v k x,vs[j]? =some v->aS[j]? =some (k,x)->∃t eI n,v=.ref t/\h.get? t=some (qI [eI,x] n)/\iy k eI=true
theorem Ka {per:List H} (ap:cH w CM K ρ s per) (l:List H):∀{vs:List Value} {ps:List (al×H)},Mine.pairsOf l=some ps->a8 w CM ρ l vs->∃aS,Dt s.heap vs aS/\dV w CM ρ ps aS/\aS.length=ps.length:=by
 induction l with
 |nil=>intro vs ps q h;cases q;refine B (show vs=[] from h) ?_;exact⟨[],⟨rfl,fun j v k x e=>Z e⟩,rfl,rfl⟩
 |cons x r ih=>
  intro vs ps q h
  refine b5 q (fun k y ae q=>hH q (fun cS fF ag aP q=>cF q ?_) Z) Z
  replace h:=(EP ae)▸h
  obtain⟨v,t,rfl,⟨a,cZ,n,rfl,f3,eI,Mg,rfl,q2,nb,v7,rfl,Qc,Ki⟩,Y⟩:=h
  replace f3:=(show v7=[] from Ki)▸f3
  refine et (ih aP Y) ?_;intro aS aC bR dK
  refine⟨(cS,nb)::aS,⟨congrArg (· +1) aC.1,fun j v k2 a1 ak ar=> ?_⟩,⟨nb,aS,rfl,Qc,bR⟩,congrArg (· +1) dK⟩
  cases j with
  |zero=>
   cases ak;cases ar
   exact⟨a,eI,n,rfl,ap.bK _ _ f3,cv.key (s:=s) (.ga q2) ag⟩
  |succ j=>exact aC.2 j v k2 a1 ak ar
theorem Ik {BK:Result->Shared->Prop} {S I ax:Addr} {i0:Heap} {vs:List Value} {aS:List (al×Value)} (an:Dt i0 vs aS) (b1:ax≠I) (fA:I∉dT A) (rU:S≠I) (OU:S≠ax) (zR:S∉dT A)
  (Kw:i0.get? S=none) (Fb:i0.get? I=none) (hz:aS.length<=sizeLine):
  ∀(m i:Nat) (s:Shared),aS.length-i=m->i<=aS.length->((s.heap.IsListIter I ax i/\s.heap.IsList ax (Array.mk vs))/\dv A s.heap)->(∀b o,i0.get? b=some o->s.heap.get? b=some o)->s.heap.DictOf (kk w) S (PySem.merged [] (aS.take i))->
  (∀h' tk,(∀b o,i0.get? b=some o->h'.get? b=some o)->h'.DictOf (kk w) S (PySem.merged [] aS)->BK (.ok (.ret .none)) {s with heap:=h',toks:=tk})->
  codeAny (model aw w) A (.builtin "dict.update.loop" ⟨[.ref S,.ref I,rawInt (i:Int),.none],[]⟩) BK s:=by
 have W:=zJ (w:=w) (A:=A.in1) I ax b1 fA (Array.mk vs)
 have dq:(Array.mk vs).size=aS.length:=by simp [an.1]
 have tC:S∉I::ax::dT A:=by simp only [List.mem_cons,not_or];exact⟨rU,OU,zR⟩
 intro m
 induction m with
 |zero=>
  intro i s aY aR eN ag hd gc
  have xO:i=aS.length:=by exact OE aY aR
  subst xO
  refine codeAny_builtin FM ?_
  refine B (Around.under_plainId vb _) ?_
  show wpAny _ A.in1 (pyNext (.ref I)>>=_) _ _ s
  replace eN:=(Eq.symm dq)▸eN
  refine wpAny_bind (W.done s _ _ eN fun h' tk eB=> ?_)
  replace hd:=List.take_length▸hd
  refine wpAny_bind (m:=Builtin.Dict.addKeywords S []) (wpAny_pure (wpAny_pure (gc h' tk (fun b o e=>eB b o (fun q=> ?_) (ag b o e)) ?_)))
  ·(replace e:=(List.mem_singleton.mp q)▸e;replace e:=Fb▸e);exact Z e
  ·refine uX hd ?_;clear hd;intro o es cr cq r
   exact⟨o,es,cr,eB S o (fun q=>rU (List.mem_singleton.mp q)) cq,r⟩
 |succ m ih=>
  intro i s aY aR eN ag hd gc
  have cy:i<aS.length:=by exact WR aY
  refine codeAny_builtin FM ?_
  refine B (Around.under_plainId vb _) ?_
  show wpAny _ A.in1 (pyNext (.ref I)>>=_) _ _ s
  refine wpAny_bind (W.item i s _ _ (by refine B dq ?_;exact cy) eN fun v h' tk i7 iq nf=> ?_)
  obtain⟨⟨k,x⟩,C3⟩:∃p,aS[i]? =some p:=⟨aS[i],List.getElem?_eq_getElem cy⟩
  refine dH (an.2 i v k x (by simpa using i7) C3) ?_;intro t eI n u;subst u;intro aG hm
  have eB:∀b o,i0.get? b=some o->h'.get? b=some o:=fun b o e=>nf b o (fun q=>by(replace e:=(List.mem_singleton.mp q)▸e;replace e:=Fb▸e);exact Z e) (ag b o e)
  have F6:=eB _ _ aG
  have hL:h'.DictOf (kk w) S (PySem.merged [] (aS.take i)):=by
   refine uX hd ?_;clear hd;intro o es cr cq r
   exact⟨o,es,cr,nf S o (fun q=>rU (List.mem_singleton.mp q)) cq,r⟩
  refine wpAny_bind ?_
  refine wpAny_holding (wpAny_bind (wpAny_tryCatch ?_))
  unfold Builtin.Dict.pairItems
  refine wpAny_bind (wpAny_typeOf (T:="tuple") ⟨_,F6,rfl⟩ ?_)
  refine B (if_pos (by decide)) ?_
  refine wpAny_bind (wpAny_seqItems F6 rfl (wpAny_pure ?_))
  dsimp only [Option.getD]
  have bC:(PySem.merged [] (aS.take i)).length<=sizeLine:=by
   have ak:=merged_length_le (K:=al) [] (aS.take i)
   have ar:(aS.take i).length<=aS.length:=by refine B List.length_take ?_;exact QP
   simp only [List.length_nil,Nat.zero_add] at ak
   exact Vf hz ar ak
  refine wpAny_holding (wpAny_dictSet_pairs (knd:=kk w) (s:={s with heap:=h',toks:=tk}) hm hL (fun tL qh vF=> ?_) bC)
  refine wpAny_pure ⟨plainId_quiet vb _,?_⟩
  have:=ih (i+1) {s with heap:=tL,toks:=tk+1} (by exact Rf aY) cy (W.frame _ _ _ iq fun b ah o e=>(vF.2 b (fun q=>tC (q▸ah))).trans e) (fun b o e=>(vF.2 b (fun q=>by(replace e:=q▸e;replace e:=Kw▸e);exact Z e)).trans (eB b o e))
   (by refine B (merged_take_succ [] aS i (k,x) C3) ?_;exact qh) (fun h' tk ag hd=>gc h' tk ag hd)
  simpa using this
end
end Mine
end
section
open PySem PySem.W PySem.Calls PyProof.Rows
namespace Mine
section
variable{w:World} {CM:cn} {bj:dM} {F:Frag} {K:Top} {env:Env} {J:Scope} {A:Around} {ρ ρ₀ ρ':a5} {s c9 az:Shared} {fs fs':X} {R:bk}
theorem O2 (iZ:∃ob,K.f.lookup sysModules=some ob) {l:List H} {ps:List (al×H)} {x:Value} (hz:l.length<=a4) (q:Mine.pairsOf l=some ps) (bc:f4 K A) (I:aK w CM K env J ρ s fs) (ae:cv w CM ρ s (.am l) x):
  wpAny (model aw w) A (call (.type "dict") [x]) (b3 w CM K env J ρ s fs (.own (.V (ps.foldl (fun d p=>cU p.1 p.2 d) []))) fs) cc s:=by
 refine dH (ae.am I.base) ?_;intro a vs n u;subst u;intro M O
 refine et (Ka I.base _ q O) ?_;intro aS an hd bC
 have lC:=Heap.lt_size M
 have cy:=oQ (I.base.lE bc)
 refine callType_codes (Q₁:=fun obj aj=>obj=.ref s.heap.objs.size/\aj={s with heap:=s.heap.push {cls:=.type "dict",data:=.dict #[]}}) F.kt_called_dict (F.kt_typeCall_dict_1 _) F.entry_dict_init (kt_code_dict_new _ ⟨rfl,rfl⟩) ?_
 rintro obj aj ⟨rfl,rfl⟩
 have h8:(s.heap.push {cls:=.type "dict",data:=.dict #[]}).DictOf (kk w) s.heap.objs.size []:=Heap.DictOf.new s.heap
 refine⟨h8.typeIs,F.args_dict_init_2 _ _,?_⟩
 unfold Builtin.«dict.__init__»
 refine wpAny_bind ?_
 unfold Builtin.Dict.selfAndRest
 refine wpAny_bind (wpAny_notOrdered_dict h8.typeIs ?_)
 show wpAny _ _ (pure (s.heap.objs.size,[Value.ref a])) _ _ _
 refine wpAny_pure ?_
 show wpAny _ _ (Builtin.Dict.updateFrom "dict.__init__" s.heap.objs.size (.ref a) [] .none) _ _ _
 unfold Builtin.Dict.updateFrom
 have yA:(s.heap.push {cls:=.type "dict",data:=.dict #[]}).get? a=some (mD vs n):=Heap.get?_push_of_some _ M
 refine wpAny_bind (wpAny_typeOf (T:="list") ⟨_,yA,rfl⟩ ?_)
 refine B (if_pos (by decide)) ?_
 have vI:typeLookup (.type "list") "keys"=pure none:=by(refine B (typeLookup_type _ _) ?_;refine B builtinLookup_eq_fast ?_);kernel_rfl
 have sq:(["__module__","__name__","__qualname__","__doc__","__annotations__"]:List Str).contains "keys"=false:=by decide+kernel
 have oq:dv A.in1.in1 (s.heap.push {cls:=.type "dict",data:=.dict #[]}):=dv.keeps (A:=A.in1.in1) (I.base.lE (A:=A) bc) fun b _ o e=>Heap.get?_push_of_some _ e
 refine wpAny_bind (Xy (A:=A.in1.in1) oq yA vI sq (fun h' tk ag=> ?_) (by refine B sizeLine_eq ?_;decide+kernel))
 refine B (if_pos (show(none:Option Value).isNone=true from rfl)) ?_
 refine wpAny_bind (wpAny_rule (wpAny_bind ?_))
 have G9:=ag _ _ yA
 refine wpAny_pyIter_list (fv G9) (wpAny_pure ⟨plainId_quiet vb _,?_⟩)
 have dq:s.heap.objs.size<h'.objs.size:=Heap.lt_size (ag _ _ (Heap.get?_push_size _ rfl))
 have nl:∀b o,s.heap.get? b=some o->(h'.push {cls:=.type "list_iterator",data:=.fields #[.ref a,.int 0 0]}).get? b=some o:=fun b o e=>Heap.get?_push_of_some _ (ag _ _ (Heap.get?_push_of_some _ e))
 have qZ:s.heap.get? h'.objs.size=none:=by
  cases e:s.heap.get? h'.objs.size with
  |none=>rfl
  |some o=>exact absurd (Heap.lt_size e) (Nat.not_lt.mpr (Nat.le_of_lt dq))
 have Vg:(h'.push {cls:=.type "list_iterator",data:=.fields #[.ref a,.int 0 0]}).DictOf (kk w) s.heap.objs.size (PySem.merged [] (aS.take 0)):=by
  refine uX h8 ?_;clear h8;intro o es cr cq r
  exact⟨o,es,cr,Heap.get?_push_of_some _ (ag _ _ cq),r⟩
 refine Ik (A:=A.in1) (w:=w) (S:=s.heap.objs.size) (I:=h'.objs.size) (ax:=a) an (Nat.ne_of_lt (Nat.lt_trans lC dq)) (fun q=>absurd (cy _ q) (Nat.not_lt.mpr (Nat.le_of_lt dq))) (Nat.ne_of_lt dq) (Nat.ne_of_gt lC) (fun q=>Nat.lt_irrefl _ (cy _ q)) fd qZ
  (by(refine bu an.1 ?_;refine B O.length ?_);exact Nat.le_trans hz jb) _ 0 {s with heap:=_,toks:=tk} rfl (Nat.zero_le _) ⟨⟨⟨_,Heap.get?_push_size _ rfl,rfl,rfl⟩,(fv G9).push _⟩,dv.keeps (A:=A) (I.base.lE (A:=A) bc) fun b _ o e=>nl b o e⟩ nl Vg fun tL lj U1 qh=> ?_
 refine⟨rfl,n0 (tk:=lj) I U1 fd ?_⟩
 refine qC qh ?_;clear qh;intro ob d2 cr ak ar bQ cX dn fg
 exact⟨ob,d2,cr,_,q5 iZ I fd,ak,ar,bQ,cX,dn,fg,dV.merged hd rfl .nil⟩
end
end Mine
end
section
open PySem PySem.W PySem.Calls PyProof.Rows
namespace Mine
section
variable{w:World} {CM:cn} {bj:dM} {F:Frag} {K:Top} {env:Env} {J:Scope} {A:Around} {ρ ρ₀ ρ':a5} {s c9 az:Shared} {fs fs' fs₁:X} {R:bk}
theorem ql {id:String} (h:id∈["len","abs","sum","sorted","min","isinstance"]\/id∈["int","tuple","dict","range","reversed","bool","list"]):(Str.ofString id==("__debug__":Str))=false:=by
 have:∀id∈["len","abs","sum","sorted","min","isinstance"]++["int","tuple","dict","range","reversed","bool","list"],(Str.ofString id==("__debug__":Str))=false:=by decide+kernel
 exact this id (List.mem_append.mpr h)
theorem uw (bn:jL CM bj K.f) (S:cB w CM K env J A R) {id:String} {p pos:Pos} {e:Expr} {r r':aU} {v:H} (aY:id∈["len","abs","sum","sorted","min","isinstance"])
  (ae:J.names.lookup (Str.ofString id)=some .globalImplicit) (bZ:R.ba e fs=some (r,fs₁)) (bo:fs₁.cE r=some v) (I:aK w CM K env J ρ s fs)
  (h:∀{ρ:a5} {s:Shared} {x:Value},aK w CM K env J ρ s fs₁->cv w CM ρ s v x->wpAny (model aw w) A (call (.builtin id) [x]) (b3 w CM K env J ρ s fs₁ r' fs₁) cc s):
  wpAny (model aw w) A (eval (.Call (.Name (Str.ofString id) p) [e] [] pos) env) (b3 w CM K env J ρ s fs r' fs₁) cc s:=by
 refine lN (bn.lr id aY) ae I (ql (.inl aY)) ?_
 exact callWith_builtin (s6 (f:=.builtin id) (Q:=fun _ _=>True) (E:=cc) S bZ I fun _ _ _ _ _ _ _=>trivial).1 (s6 S bZ I fun x aj aN aZ a0 bv aP=>iF a0 bv (h aZ (hT aZ aP bo))).2
theorem xW (bn:jL CM bj K.f) (S:cB w CM K env J A R) {id:String} {p pos:Pos} {e:Expr} {r r':aU} {v:H} (aY:id∈["int","tuple","dict","range","reversed","bool","list"])
  (ae:J.names.lookup (Str.ofString id)=some .globalImplicit) (bZ:R.ba e fs=some (r,fs₁)) (bo:fs₁.cE r=some v) (I:aK w CM K env J ρ s fs)
  (h:∀{ρ:a5} {s:Shared} {x:Value},aK w CM K env J ρ s fs₁->cv w CM ρ s v x->wpAny (model aw w) A (call (.type id) [x]) (b3 w CM K env J ρ s fs₁ r' fs₁) cc s):
  wpAny (model aw w) A (eval (.Call (.Name (Str.ofString id) p) [e] [] pos) env) (b3 w CM K env J ρ s fs r' fs₁) cc s:=by
 refine lN (bn.tV id aY) ae I (ql (.inr aY)) ?_
 exact PyProof.Rows.callWith_type (s6 (f:=.type id) (Q:=fun _ _=>True) (E:=cc) S bZ I fun _ _ _ _ _ _ _=>trivial).1 (s6 S bZ I fun x aj aN aZ a0 bv aP=>iF a0 bv (h aZ (hT aZ aP bo))).2
theorem R8 (bn:jL CM bj F) (bz:K.f=F) (bc:ek K k A) (S:cB w CM K env J A R) {f:Str} {p pos:Pos} {e:Expr} {r r':aU} {v:H}
  (ae:J.names.lookup f=some .globalImplicit) (bZ:R.ba e fs=some (r,fs₁)) (bo:fs₁.cE r=some v) (ee:gC f v=some r') (I:aK w CM K env J ρ s fs):
  wpAny (model aw w) A (eval (.Call (.Name f p) [e] [] pos) env) (b3 w CM K env J ρ s fs r' fs₁) cc s:=by
 replace bn:=(Eq.symm bz)▸bn
 refine hn ee (fun e q=> ?_) fun _ q=>hn q (fun e q=> ?_) fun _ q=>hn q (fun e q=> ?_) fun _ q=>hn q (fun e q=> ?_) fun _ q=>hn q (fun e q=> ?_) fun _ q=>hn q (fun e q=> ?_) fun _ q=>cK q (fun e q=> ?_) Z
 ·rw [e] at ae|-;exact bG q (fun n h q=>cK q (fun hz q=>cF q (uw bn S (by decide) ae bZ bo I fun I ae=>QB h hz I ae)) Z) Z
 ·rw [e] at ae|-;exact xW bn S (by decide) ae bZ bo I fun I ae=>I5 q I ae
 ·rw [e] at ae|-;exact bG q (fun i h q=>cF q (uw bn S (by decide) ae bZ (jK h▸bo) I fun I ae=>IB I ae)) Z
 ·rw [e] at ae|-;exact bG q (fun l h q=>bG q (fun ns M q=>cF q (uw bn S (by decide) ae bZ (qX h▸bo) I fun I ae=>TJ M bc.eD I ae)) Z) Z
 ·rw [e] at ae|-;exact bG q (fun l h q=>cK q (fun hz q=>uw bn S (by decide) ae bZ (xa h▸bo) I fun I ae=>I3 q hz bc.eD I ae) Z) Z
 ·rw [e] at ae|-;exact bG q (fun l h q=>cK q (fun hz q=>cF q (xW bn S (by decide) ae bZ (qX h▸bo) I fun I ae=>MR hz I ae)) Z) Z
 ·rw [e] at ae|-
  refine xW bn S (by decide) ae bZ bo I fun I ae=> ?_
  cases v with
  |V l=>exact cK q (fun hz q=>cF q (I7 bn.sm hz I ae)) Z
  |am l=>exact cK q (fun hz q=>bG q (fun ps an q=>cF q (O2 bn.sm hz an bc.eD I ae)) Z) Z
  |_=>exact Z q
theorem JH (bn:jL CM bj F) (bz:K.f=F) (bc:ek K k A) (S:cB w CM K env J A R) {p pos:Pos} {args:List Expr} {a b:Int}
  (ae:J.names.lookup ("min":Str)=some .globalImplicit) (bZ:dk R args fs=some ([.int a,.int b],fs₁)) (I:aK w CM K env J ρ s fs):
  wpAny (model aw w) A (eval (.Call (.Name "min" p) args [] pos) env) (b3 w CM K env J ρ s fs (.U (.int (if b<a then b else a))) fs₁) cc s:=by
 subst bz
 refine lN (bn.lr "min" (by decide)) ae I (ql (.inl (by decide))) (BG S bZ I fun bf aj P=> ?_)
 refine gm P ?_;clear P;intro aN aZ a0 bv h
 obtain⟨lP,YJ,rfl,⟨t,rfl⟩,nI,HA,rfl,⟨u,rfl⟩,h⟩:=h
 refine B (show HA=[] from h) ?_
 exact iF a0 bv (Tm bc.eD aZ)
theorem Q4 (bn:pV CM bj F) (bz:K.f=F) (bc:ek K k A) (S:cB w CM K env J A R) {p tB pos:Pos} {e:Expr} {c:Str} {r:aU} {v:H} {b:Bool}
  (ae:J.names.lookup ("isinstance":Str)=some .globalImplicit) (bZ:R.ba e fs=some (r,fs₁)) (bo:fs₁.cE r=some v) (ee:gB v c=some b) (hc:J.names.lookup c=some .globalImplicit) (I:aK w CM K env J ρ s fs):
  wpAny (model aw w) A (eval (.Call (.Name "isinstance" p) [e,.Name c tB] [] pos) env) (b3 w CM K env J ρ s fs (.U (.bool b)) fs₁) cc s:=by
 subst bz
 have fW:(sK.contains c||hE.contains c)=true:=by
  unfold gB at ee
  refine cK ee ?_ Z;clear ee;intro _ ee
  assumption
 refine bS (bn.i6 fW) ?_;intro eH CT
 have pw:(c==("__debug__":Str))=false:=by
  cases h:(c==("__debug__":Str)) with
  |false=>rfl
  |true=>replace fW:=(beq_iff_eq.mp h)▸fW;exact absurd fW (by decide+kernel)
 have ak:starEach [e,.Name c tB] env=[(false,eval e env),(false,eval (.Name c tB) env)]:=by
  cases e with
  |Starred e p=>exact Z ((S.ro e p fs).symm.trans bZ)
  |_=>rfl
 refine lN (bn.lr "isinstance" (by decide)) ae I (ql (.inl (by decide))) ?_
 (refine B ak ?_;refine B tb ?_;refine B tb ?_)
 refine callWith_builtin rfl (evalArgs_plain ?_)
 refine spliced_cons (S.eV bZ I fun x aj aN aZ a0 bv aP=>spliced_cons ?_)
 exact oR (bn.GB c eH CT) hc aZ.c0 aZ.in pw (spliced_nil (iF a0 bv (Lz bn rfl ee CT aZ (hT aZ aP bo))))
end
end Mine
end
section
open PySem PySem.W PySem.Calls PyProof.Rows
namespace Mine
noncomputable def ft:List DictEntry->List (Str×Value)->Prop
 |[],l=>l=[]
 |e::r,l=>∃n t v c8,l=(n,v)::c8/\e.key=.str n t/\e.val=v/\ft r c8
noncomputable def p2 (x:Str):List (Str×Value)->Option Value
 |[]=>none
 |(y,v)::r=>if x=y then some v else p2 x r
theorem ft.yh {nm:Str} {v:Value} {WX:Int} {t:Tok}:∀{es:List DictEntry} {l:List (Str×Value)},ft es l->ft (es++[⟨WX,.str nm t,v⟩]) (l++[(nm,v)])
 |[],l,h=>by refine B (show l=[] from h) ?_;exact⟨nm,t,v,[],rfl,rfl,rfl,rfl⟩
 |e::r,l,⟨n,dW,eZ,c8,M,O,Y,aC⟩=>by refine B M ?_;exact⟨n,dW,eZ,_,rfl,O,Y,ft.yh aC⟩
theorem ft.to:∀{es:List DictEntry} {l:List (Str×Value)},ft es l->es.any (·.refKey)=false
 |[],_,_=>rfl
 |e::r,l,⟨n,dW,eZ,c8,M,O,Y,aC⟩=>by
  obtain⟨hs,key,val⟩:=e
  dsimp only at O
  subst O
  (refine B List.any_cons ?_;refine B (ft.to aC) ?_);rfl
theorem Fh {n nm:Str} {t:Tok}:(Value.str n t).isStr nm=decide (n=nm):=by
 show(n==nm)=_
 by_cases h:n=nm<;>simp [h]
theorem ft.fresh {nm:Str}:∀{es:List DictEntry} {l:List (Str×Value)},ft es l->nm∉l.map (·.1)->∀e∈es,e.key.isStr nm=false
 |[],_,_,_=>fun e h=>nomatch h
 |e::r,l,⟨n,dW,eZ,c8,M,O,Y,aC⟩,aE=>fun cg aX=>by
  subst M
  rcases List.mem_cons.mp aX with rfl|aX
  ·(refine B O ?_;refine B Fh ?_);exact decide_eq_false (fun q=>aE (by refine B q ?_;exact List.mem_cons_self))
  ·exact ft.fresh aC (fun q=>aE (List.mem_cons_of_mem _ q)) cg aX
theorem ft.mx {nm:Str} {n:Nat}:∀{es:List DictEntry} {l:List (Str×Value)},ft es l->lookIn nm (dictOf es n)=some (p2 nm l):=by
 intro es l h
 refine B (lookIn_dict _ _ _) ?_
 unfold PySem.W.getL
 have aP:=h.to
 induction es generalizing l with
 |nil=>refine B (show l=[] from h) ?_;rfl
 |cons e r ih=>
  refine x8 h ?_;clear h;intro jf dW eZ c8 M O Y aC
  subst M
  (refine B List.find?_cons ?_;refine B O ?_;refine B Fh ?_)
  unfold p2
  by_cases q:jf=nm
  ·subst q;simp [Y]
  ·have cI:¬nm=jf:=fun e=>q e.symm
   (refine B (decide_eq_false q) ?_;refine B (if_neg cI) ?_)
   replace aP:=List.any_cons▸aP
   simp only [Bool.or_eq_false_iff] at aP
   have:=ih aC aP.2
   simp only [List.any_cons,aP.1,Bool.false_or] at this|-
   exact this
structure wQ (h:Heap) (x dx C:Addr) (es:List DictEntry) (n:Nat):Prop where
 gx:h.get? x=some (instObj C dx)
 V:h.get? dx=some (dictOf es n)
structure rV (F:Frag) (C:Addr):Prop where
 hs:findIn F (.ref C) "__setattr__"=some (some (.builtin "object.__setattr__"))
 an:plainOver F C=true
 hd:hasDictIn F C=true
section
variable{w:World} {CM:cn} {bj:dM} {F:Frag} {K:Top} {env:Env} {J:Scope} {A:Around} {E:Value->Shared->Prop} {ρ ρ₀ ρ':a5} {s c9 az:Shared} {fs fs' fs₁:X} {R:bk}
theorem GL {x dx C:Addr} {es:List DictEntry} {n:Nat} {nm:Str} {v:Value} {l:List (Str×Value)} {Q:Unit->Shared->Prop} (av:F.In s.heap) (ck:rV F C) (aG:takerIn F C nm=some none)
  (I:wQ s.heap x dx C es n) (aB:ft es l) (aE:nm∉l.map (·.1)) (hz:es.length<1000)
  (h:∀h' d2,Heap.SameBut dx s.heap h'->h'.get? dx=some (dictOf d2 (n+1))->ft d2 (l++[(nm,v)])->d2.length=es.length+1->Q () {s with heap:=h',toks:=s.toks+2}):
  wpAny (model aw w) A (setAttr (.ref x) nm v) Q E s:=by
 have In:InstAt s.heap x (instObj C dx) C (some (dictOf es n)):=⟨I.gx,rfl,rfl,I.V⟩
 refine set_plain av In ck.hs (osa_open (s:={s with toks:=s.toks+1}) av In ck.an aG fun b=> ?_)
 have sN:=ck.hd
 refine bb (any_some sN) ?_;intro cd hc hL
 have D:=I.V
 have ak:es.any (·.key.isStr nm)=false:=by
  cases q:es.any (·.key.isStr nm) with
  |false=>rfl
  |true=>obtain⟨e,aX,z⟩:=List.any_eq_true.mp q;replace z:=(aB.fresh aE e aX)▸z;cases z
 have e:Obj.putName nm (PyData.keyHash w.params nm) (.str nm (s.toks+1)) v (dictOf es n)=dictOf (es++[⟨PyData.keyHash w.params nm,.str nm (s.toks+1),v⟩]) (n+1):=by
  (rw [putName_dict];refine B (putL_new (aB.fresh aE)) ?_)
  show dictOf _ (if es.any (·.key.isStr nm) then n else n+1)=_
  (refine B ak ?_;refine B (if_neg Bool.false_ne_true) ?_;rfl)
 refine wpAny_bind (wpAny_pure (wpAny_bind (wpAny_bind (wpAny_loadPart I.gx (wpAny_bind (Looks.here (s:={s with toks:=s.toks+1}) (looks_clsIn av hc) ?_))))))
 refine B hL ?_
 refine wpAny_pure (a:=some dx) (wpAny_bind (wpAny_pure (wpAny_bind ?_)))
 unfold nsSet
 refine wpAny_bind (wpAny_bind (wpAny_askSetting (wpAny_pure (wpAny_bind (wpAny_mkText (wpAny_bind (wpAny_loadPart D ?_)))))))
 dsimp only
 have c:aRefKeyMayBeTheName nm es.toArray=false:=by
  (refine B (aRefKeyMayBeTheName_at _ _) ?_;refine bu Array.any_toList ?_;refine bu Array.any_toList ?_)
  show(!es.any (·.key.isStr nm)&&es.any (·.refKey))=false
  (refine B aB.to ?_;refine B (Bool.and_false _) ?_;rfl)
 refine B c ?_
 refine wpAny_updatePart D ?_
 have rn:(s.heap.update dx (Obj.putName nm (PyData.keyHash w.params nm) (.str nm (s.toks+1)) v)).get? dx=some (dictOf (es++[⟨PyData.keyHash w.params nm,.str nm (s.toks+1),v⟩]) (n+1)):=by
  have:=Heap.get?_update_self (Obj.putName nm (PyData.keyHash w.params nm) (.str nm (s.toks+1)) v) D (by refine B e ?_;rfl)
  replace this:=e▸this;exact this
 refine wpAny_bind (wpAny_lookBehind rn (pastItsLine_dict (by(refine B List.size_toArray ?_;refine B List.length_append ?_;refine B List.length_cons ?_;refine B List.length_nil ?_;refine B sizeLine_eq ?_);exact Dk hz)) ?_)
 exact wpAny_pure (h _ _ (Heap.SameBut.update ..) rn aB.yh (by simp))
noncomputable def i1 (w:World) (CM:cn) (ρ:a5):List (Str×H)->List (Str×Value)->Prop
 |[],l=>l=[]
 |(n,x)::r,l=>∃v t,l=(n,v)::t/\bX w CM ρ x v/\i1 w CM ρ r t
theorem i1.bt (aB:∀a ob,ρ a=.be ob->ρ' a=.be ob) (an:∀a k,ρ a=.per k->ρ' a=.per k):∀{l:List (Str×H)} {m:List (Str×Value)},i1 w CM ρ l m->i1 w CM ρ' l m
 |[],_,h=>h
 |(_,_)::_,_,⟨v,t,M,O,Y⟩=>⟨v,t,M,O.bt aB an,i1.bt aB an Y⟩
theorem i1.none:∀{l:List (Str×H)} {m:List (Str×Value)} {n:Str},i1 w CM ρ l m->iO n l=none->p2 n m=none
 |[],_,_,h,_=>by refine B (show _=[] from h) ?_;rfl
 |(k,x)::r,_,n,⟨v,t,M,O,Y⟩,q=>by
  refine B M ?_
  unfold iO at q
  unfold p2
  split at q
  ·exact ii q
  ·rename_i b1;refine B (if_neg b1) ?_;exact i1.none Y q
theorem i1.DR:∀{l:List (Str×H)} {m:List (Str×Value)} {f:Str->Option Value},i1 w CM ρ l m->(l.map (·.1)).Nodup->(∀n,n∈l.map (·.1)->f n=p2 n m)->kr w CM ρ l f
 |[],_,_,_,_,_=>trivial
 |(k,x)::r,_,f,⟨v,t,M,O,Y⟩,aE,aB=>by
  subst M
  refine cl (List.nodup_cons.mp aE) ?_;intro kI kL
  refine⟨⟨v,by refine B (aB k List.mem_cons_self) ?_;exact if_pos rfl,O⟩,i1.DR Y kL fun n aY=> ?_⟩
  refine B (aB n (List.mem_cons_of_mem _ aY)) ?_
  exact if_neg (fun q:n=k=>kI (q▸aY))
theorem bX.Ar {c:Str} {C x dx:Addr} {es:List DictEntry} {n:Nat} {l:List (Str×H)} {m:List (Str×Value)} (hc:CM c=some C) (ae:ρ x=.be (instObj C dx)) (hd:ρ dx=.be (dictOf es n)) (aB:ft es m) (aP:i1 w CM ρ l m) (aE:(l.map (·.1)).Nodup):
  bX w CM ρ (.dS c l) (.ref x):=by
 refine⟨x,dx,dictOf es n,C,rfl,hc,ae,hd,fun k q=> ?_,aP.DR aE fun k _=> ?_⟩
 ·(refine B aB.mx ?_;refine B (aP.none q) ?_;rfl)
 ·refine B aB.mx ?_;rfl
theorem e2.h2 {a:Addr} {h':Heap} {y:Str} {v:Value} (q:e2 env J s.heap y v) (I:aK w CM K env J ρ s fs) (hd:ρ a=.aV) (eE:∀x c,J.names.lookup x=some .free->env.cells.lookup x=some c->c≠a) (hs:Heap.SameBut a s.heap h'):e2 env J h' y v:=by
 rcases q with⟨bW,cC,m,cY,dX⟩|⟨bW,cC,c,cY,dX⟩
 ·exact .inl ⟨bW,cC,m,cY.sameBut hs (d6 I.cJ hd),dX⟩
 ·refine .inr ⟨bW,cC,c,cY,dX.sameBut hs ?_⟩
  rcases bW with bW|bW
  ·intro q
   refine dP (I.cells y bW) ?_;intro c' eZ cT dE _
   replace cT:=cY▸cT;cases cT
   (replace dE:=q▸dE;replace dE:=hd▸dE);cases dE
  ·exact eE y c bW cY
theorem e2.eval {y:Str} {v:Value} {pos:Pos} {Q:Value->Shared->Prop} (M:e2 env J s.heap y v) (hP:nP env J) (hd:(y==("__debug__":Str))=false) (h:Q v s):wpAny (model aw w) A (eval (.Name y pos) env) Q E s:=by
 rcases M with⟨bW,cC,m,cY,dX⟩|⟨bW,cC,c,cY,dX⟩
 ·exact wpAny_Name (wpAny_loadName_local hP.kind cC cY dX h) hd
 ·exact wpAny_Name (wpAny_loadName_cell hP.kind cC cY dX h) hd
noncomputable def vM:List Str->List Stmt->Prop
 |[],b=>b=[]
 |n::r,b=>∃hp hy ir j7 t,b=.Assign [.Attribute (.Name "self" hp) n hy] (.Name n ir) j7::t/\vM r t
theorem L8 {n:Str} {p:Pos} {t:Option Expr} {k:Nat}:swapsWith (.Name n p) t k env=pure false:=rfl
theorem BS {x dx C:Addr} (ck:rV F C) (bz:K.f=F) (ae:ρ x=.aV) (ln:ρ dx=.aV) (b1:x≠dx) (eE:∀x c,J.names.lookup x=some .free->env.cells.lookup x=some c->c≠dx):
  ∀{na:List (Str×H)} {body:List Stmt} {s:Shared} {es:List DictEntry} {n:Nat} {l:List (Str×Value)},vM (na.map (·.1)) body->aK w CM K env J ρ s fs->e2 env J s.heap "self" (.ref x)->wQ s.heap x dx C es n->ft es l->
  (∀p∈na,getL p.1 fs.loc=some (.U p.2))->(∀p∈na,takerIn F C p.1=some none)->(∀p∈na,(p.1==("__debug__":Str))=false)->(na.map (·.1)).Nodup->(∀p∈na,p.1∉l.map (·.1))->es.length+na.length<1000->
  wpAny (model aw w) A (execs body env) (fun f az=>f=.next/\∃h' tk d2 jf m,az={s with heap:=h',toks:=tk}/\Heap.SameBut dx s.heap h'/\aK w CM K env J ρ az fs/\h'.get? dx=some (dictOf d2 jf)/\ft d2 (l++m)/\i1 w CM ρ na m) E s
 |[],body,s,es,n,l,ah,I,ay,aP,aB,_,_,_,_,_,_=>by
  refine B (show body=[] from ah) ?_
  exact wpAny_execs_nil ⟨rfl,s.heap,s.toks,es,n,[],rfl,Heap.SameBut.refl ..,I,aP.V,by refine B (List.append_nil _) ?_;exact aB,rfl⟩
 |(k,y)::na,body,s,es,n,l,⟨hp,hy,ir,j7,t,ah,kW⟩,I,ay,aP,aB,bi,aG,pw,iM,ea,hz=>by
  subst ah
  refine bb (I.eW k _ (bi _ List.mem_cons_self)) ?_;intro v No sF
  refine wpAny_execs_cons (plainObj_wpAny_Assign_Attribute (hs:=L8) (No.eval I.c0 (pw _ List.mem_cons_self) (ay.eval I.c0 (by decide+kernel) ?_)))
  refine GL (bz▸I.in) ck (aG _ List.mem_cons_self) aP aB (ea _ List.mem_cons_self) (by simp only [List.length_cons] at hz;exact xV hz) fun h' d2 hs hL mP ot=> ?_
  have hg:aK w CM K env J ρ {s with heap:=h',toks:=s.toks+2} fs:=I.h2 ln eE hs (by refine B hL ?_;nofun)
  have z0:=List.nodup_cons.mp iM
  refine wpAny_mono (BS ck bz ae ln b1 eE (s:={s with heap:=h',toks:=s.toks+2}) kW hg (ay.h2 I ln eE hs) ⟨(hs.2 x b1).trans aP.gx,hL⟩ mP (fun p an=>bi p (List.mem_cons_of_mem _ an)) (fun p an=>aG p (List.mem_cons_of_mem _ an))
   (fun p an=>pw p (List.mem_cons_of_mem _ an)) z0.2 (fun p an q=> ?_) (by simp only [List.length_cons] at hz;exact Va hz ot)) (fun f az P=> ?_) fun _ _ f=>f
  ·replace q:=List.map_append▸q
   rcases List.mem_append.mp q with q|q
   ·exact ea p (List.mem_cons_of_mem _ an) q
   ·exact z0.1 (List.mem_map.mpr ⟨p,an,by simpa using q⟩)
  ·obtain⟨rfl,tL,tk,H9,V3,m,rfl,vF,X7,qh,XK,PY⟩:=P
   exact⟨rfl,tL,tk,H9,V3,(k,v)::m,rfl,hs.trans vF,X7,qh,by refine B (List.append_cons _ _ _) ?_;exact XK,v,m,rfl,sF,PY⟩
end
end Mine
end
section
open PySem PySem.W PySem.Calls PyProof.Rows
namespace Mine
structure oU (F:Frag) (C:Addr) (names:List Str):Prop where
 tT:makesIn F C=true
 ao:rV F C
 tk:∀n∈names,takerIn F C n=some none
 init:∃ao fI ob bJ,findIn F (.ref C) "__init__"=some (some (.ref fI))/\typeIn F (.ref fI)=some (.type "function")/\jY F ao fI ob bJ/\bJ.defaults=.none/\params ao=("self":Str)::names/\vM names (g0 ao)
 keep:keepIn F (.ref C)=true
 ev:names.Nodup
 fu:names.length<900
 IP:∀n∈names,(n==("__debug__":Str))=false
structure wL (CM:cn) (bj:dM) (F:Frag):Prop extends pV CM bj F where
 Fc:∀c names,jl c=some names->∃C,CM c=some C/\hr F c=some (.ref C)/\oU F C names/\(c==("__debug__":Str))=false
theorem Rd (names:List Str):∀{vs:List H} {l:List (Str×H)},pH names vs=some l->jq names vs=some (l.map fun p=>(p.1,.U p.2))/\l.map (·.1)=names/\l.length=names.length:=by
 induction names with
 |nil=>
  intro vs l q
  cases vs with
  |nil=>cases q;exact⟨rfl,rfl,rfl⟩
  |cons _ _=>exact Z q
 |cons x r ih=>
  intro vs l q
  cases vs with
  |nil=>exact Z q
  |cons v t=>
   refine bG q (fun c8 M q=>cF q ?_) Z
   refine⟨?_,congrArg (x:: ·) (ih M).2.1,congrArg (· +1) (ih M).2.2⟩
   show br (jq r t) _=_
   refine B ((ih M).1) ?_;rfl
theorem Pd (l:List (Str×H)):(l.map (·.1)).Nodup->∀p∈l,Mine.getL p.1 (l.map fun p=>(p.1,cf.U p.2))=some (.U p.2):=by
 induction l with
 |nil=>intro _ p an;exact(List.not_mem_nil an).elim
 |cons k r ih=>
  intro aE p an
  refine cl (List.nodup_cons.mp aE) ?_;intro M O
  rcases List.mem_cons.mp an with e|an
  ·refine B e ?_;exact if_pos rfl
  ·exact(if_neg (fun q=>M (List.mem_map.mpr ⟨p,an,q⟩))).trans (ih O p an)
theorem Tg (C:Addr) (l:List Value) (kw:List (Str×Value)):(Code.builtin "type.__call__" ⟨.ref C::l,kw⟩).weight=1:=by rfl
theorem xm {k:Nat} (A:Around) (C:Addr) (l:List Value) (kw:List (Str×Value)):(A.under (.builtin "type.__call__" ⟨.ref C::l,kw⟩)).depth<=A.depth+2*k+8:=by
 show A.depth+(Code.builtin "type.__call__" _).weight<=_
 (refine B (Tg _ _ _) ?_;refine B (Nat.add_assoc _ _ _) ?_);exact Nat.add_le_add_left (Nat.le_trans (by decide:1<=8) (Nat.le_add_left _ _)) _
section
variable{w:World} {CM:cn} {bj:dM} {F:Frag} {K:Top} {env:Env} {J:Scope} {A:Around} {E:Value->Shared->Prop} {ρ ρ₀ ρ':a5} {s c9 az:Shared} {fs fs' fs₁:X} {R:bk}
theorem pb {a:Addr} (h:ρ a=.aV):bl ρ a=.aV:=congrArg e4 h
theorem Tx {k:Nat} (bn:qF CM bj F) (bz:K.f=F) (bc:ek K k A) {c:Str} {C:Addr} {names:List Str} (ck:CM c=some C) (eY:oU F C names) {vs:List H} {l:List (Str×H)} (hz:pH names vs=some l)
  (I:aK w CM K env J ρ s fs) {bf:List Value} (ay:a8 w CM ρ vs bf):
  wpAny (model aw w) A (call (.ref C) bf) (b3 w CM K env J ρ s fs (.U (.dS c l)) fs) E s:=by
 obtain⟨ao,fI,ob,bJ,aR,yI,bV,sr,gn,sz⟩:=eY.init
 refine ef (Rd _ hz) ?_;intro Ap pt bC
 have eX:F.In s.heap:=bz▸I.in
 have kd:ρ (s.heap.objs.size+1)=.free:=(I.base.c1 _).mpr (by
  cases e:s.heap.get? (s.heap.objs.size+1) with
  |none=>rfl
  |some ob=>exact absurd (Heap.lt_size e) (Nat.not_lt.mpr (Nat.le_succ _)))
 have i8:ρ s.heap.objs.size=.free:=(I.base.c1 _).mpr fd
 refine wpAny_call (make_core (makes_of eX eY.tT) (looks_findIn eX aR) (fun self=>bind_fn eX self yI) (.inl rfl) ?_)
 have iN:∀b o,s.heap.get? b=some o->((s.heap.push emptyDict).push (instObj C s.heap.objs.size)).get? b=some o:=fun b o e=>Heap.get?_push_of_some _ (Heap.get?_push_of_some _ e)
 generalize oq:(s.heap.push emptyDict).push (instObj C s.heap.objs.size)=M at iN
 have jQ:M.get? (s.heap.objs.size+1)=some (instObj C s.heap.objs.size):=by(refine bu oq ?_;refine bu (Heap.size_push s.heap emptyDict) ?_);exact Heap.get?_push_size _ rfl
 have o3:M.get? s.heap.objs.size=some emptyDict:=by refine bu oq ?_;exact Heap.get?_push_of_some _ (Heap.get?_push_size _ rfl)
 have nA:bl ρ (s.heap.objs.size+1)=.free:=g5.mpr kd
 have ht:bl ρ s.heap.objs.size=.free:=g5.mpr i8
 have el:a2 (bl ρ) s (bP (bl ρ) M) {s with heap:=M}:=a2.dz (tk:=s.toks) iN
 have o5:cH w CM K (bP (bl ρ) M) {s with heap:=M} fs.per:=I.base.bl.dz (tk:=s.toks) iN
 have lF:iH (bP (bl ρ) M):=fun a=>⟨fun x q=>(hR ρ a).1 x (gg.mp q),fun q=>(hR ρ a).2.1 (nz.mp q),fun q=>(hR ρ a).2.2 (oO.mp q)⟩
 have lh:bP (bl ρ) M (s.heap.objs.size+1)=.aV:=gD nA jQ
 have jU:bP (bl ρ) M s.heap.objs.size=.aV:=gD ht o3
 have iX:F.In M:=fun b x e=>iN _ _ (eX b x e)
 have hN:a8 w CM (bP (bl ρ) M) vs bf:=ay.bl.bt el.bK el.per
 have x9:=ay.length
 have fw:(Value.ref (s.heap.objs.size+1)::bf).length=(params ao).length:=by
  (refine B gn ?_;refine B List.length_cons ?_;refine B List.length_cons ?_;refine B x9 ?_;refine bu (Fd _ Ap) ?_;rfl)
 have hm:=q8 _ fw.symm
 refine codeAny_call_cells (s:={s with heap:=M}) (Nat.lt_of_le_of_lt (xm (k:=k) A _ _ _) bc.depth) (iX _ _ bV.gx) bV.data (bn.qS _ iX) (codeRec_of iX bV.code) bV.body (bV.bind _ fw sr) bV.uD (fun y aQ=> ?_) (fun aj x=> ?_) (by refine B bV.scope ?_;exact bV.J.s8) (by refine B bV.scope ?_;exact bV.J.gen) (by refine B bV.scope ?_;exact bV.J.kind)
 ·have:y.1∈params ao:=by refine bu hm ?_;exact List.mem_map.mpr ⟨_,aQ,rfl⟩
  refine B bV.scope ?_
  rcases bV.J.par _ this with q|q
  ·exact .inl q
  ·exact .inr ⟨q,bV.J.fc _ _ q⟩
 ·have uc:(("self":Str),Value.ref (s.heap.objs.size+1))∈(params ao).zip (Value.ref (s.heap.objs.size+1)::bf):=by refine B gn ?_;exact List.mem_cons_self
  have a3:=tN (w:=w) (CM:=CM) (K:=K) (loc:=l.map fun p=>(p.1,cf.U p.2)) (ρ:=bP (bl ρ) M) bV fw.symm (fun y bh g=>by
   refine dP (ED _ Ap hN g) ?_;intro z v ak ar bQ
   exact⟨z,v,ak,by refine B gn ?_;exact List.mem_cons_of_mem _ ar,bQ⟩) o5 lF rfl x
  have QG:=m4 bV fw.symm rfl x uc
  have nj:=bV.J
  obtain⟨n3,gQ,uf⟩:=a3
  have oe:=gQ.aV _ lh
  have oH:=gQ.aV _ jU
  refine wpAny_mono (BS (K:={K with frames:=(callEnvC bJ M.objs.size fI).locals::K.frames}) (E:=fun _ _=>False) (fs:=⟨l.map fun p=>(p.1,cf.U p.2),fs.per⟩) (C:=C) (dx:=s.heap.objs.size) (es:=[]) (n:=0) (l:=[]) (na:=l) eY.ao bz oe oH (Nat.succ_ne_self _) (fun y c M O=>absurd M (nj.c1 y)) (by refine B pt ?_;exact sz) n3 QG ⟨gQ.keep _ _ lh jQ,gQ.keep _ _ jU o3⟩ rfl
   (Pd _ (by refine B pt ?_;exact eY.ev)) (fun p an=>eY.tk _ (by refine bu pt ?_;exact List.mem_map.mpr ⟨p,an,rfl⟩)) (fun p an=>eY.IP _ (by refine bu pt ?_;exact List.mem_map.mpr ⟨p,an,rfl⟩)) (by refine B pt ?_;exact eY.ev) (fun p an=>by simp) (by refine B bC ?_;have:=eY.fu;simp only [List.length_nil];exact Wm this)) (fun f az P=> ?_) fun _ _ f=>f.elim
  obtain⟨rfl,h',tk,d2,jf,m,rfl,hs,hg,hL,mP,WU⟩:=P
  refine⟨rfl,?_⟩
  have oc:cp w CM {K with frames:=(callEnvC bJ M.objs.size fI).locals::K.frames} (callEnvC bJ M.objs.size fI) (bN ao) (bl ρ) s _ {aj with heap:=h',toks:=tk} ⟨l.map fun p=>(p.1,cf.U p.2),fs.per⟩:=
   ⟨hg,(el.trans gQ).h2 ht hs,fun a y e=>el.ic _ (uf a y e)⟩
  refine ef (cp.un (K:=K) (K':={K with frames:=(callEnvC bJ M.objs.size fI).locals::K.frames}) rfl rfl (fun L h=>List.mem_cons_of_mem _ h) oc (hR ρ)) ?_;intro cT dE mf
  refine ef (I.sg cT dE mf) ?_;intro e1 lw lW
  have YQ:=mP
  replace mP:=(List.nil_append _)▸mP
  have v9:fo ρ (bl (hS (bP (bl ρ) M) aj.heap (callEnvC bJ M.objs.size fI).locals (callEnvC bJ M.objs.size fI).cells)) (s.heap.objs.size+1)=.aV:=(kH nA).trans (pb oe)
  have wg:fo ρ (bl (hS (bP (bl ρ) M) aj.heap (callEnvC bJ M.objs.size fI).locals (callEnvC bJ M.objs.size fI).cells)) s.heap.objs.size=.aV:=(kH ht).trans (pb oH)
  have rJ:h'.get? (s.heap.objs.size+1)=some (instObj C s.heap.objs.size):=(hs.2 _ (Nat.succ_ne_self _)).trans (gQ.keep _ _ lh jQ)
  have w2:=e1.fK (ob:=instObj C s.heap.objs.size) v9 (h9 I kd) rJ
  have lH:=w2.fK (a:=s.heap.objs.size) (ob:=dictOf d2 jf) ((bp (Nat.ne_of_lt (Nat.lt_succ_self _))).trans wg) (h9 I i8) hL
  refine⟨_,lH,(lw.fK kd).fK i8,(lW.fK kd).fK i8,?_⟩
  refine bX.Ar ck ((bp (Nat.succ_ne_self _)).trans dI) dI mP (WU.bt (fun b o e=> ?_) fun b o e=> ?_) (by refine B pt ?_;exact eY.ev)
  ·have ah:b≠s.heap.objs.size+1:=fun q=>by(replace e:=q▸e;replace e:=oe▸e);cases e
   have kW:b≠s.heap.objs.size:=fun q=>by(replace e:=q▸e;replace e:=oH▸e);cases e
   (refine B (bp kW) ?_;refine B (bp ah) ?_)
   exact(pe dE).1 _ _ (l4.mpr e)
  ·have ah:b≠s.heap.objs.size+1:=fun q=>by(replace e:=q▸e;replace e:=oe▸e);cases e
   have kW:b≠s.heap.objs.size:=fun q=>by(replace e:=q▸e;replace e:=oH▸e);cases e
   (refine B (bp kW) ?_;refine B (bp ah) ?_)
   exact(pe dE).2 _ _ (o9.mpr e)
theorem Sw {k:Nat} (bn:wL CM bj F) (bz:K.f=F) (bc:ek K k A) (S:cB w CM K env J A R) {f:Str} {p pos:Pos} {args:List Expr} {names:List Str} {vs:List H} {l:List (Str×H)}
  (ae:J.names.lookup f=some .globalImplicit) (aR:jl f=some names) (bZ:dk R args fs=some (vs,fs₁)) (hz:pH names vs=some l) (I:aK w CM K env J ρ s fs):
  wpAny (model aw w) A (eval (.Call (.Name f p) args [] pos) env) (b3 w CM K env J ρ s fs (.U (.dS f l)) fs₁) cc s:=by
 subst bz
 refine gm (bn.Fc f names aR) ?_;intro C ck bi eY pw
 refine lN bi ae I pw (FF S eY.keep bZ I fun bf aj P=> ?_)
 refine gm P ?_;clear P;intro aN aZ a0 bv gJ
 exact wpAny_mono (Tx bn.topV.tojL.tou0.toqF rfl bc ck eY hz aZ gJ) (fun v ct P=>P.trans a0 bv) fun _ _ f=>f
end
end Mine
end
section
open PySem PySem.W PySem.Calls PyProof.Rows
namespace Mine
section
variable{prog:Program} {w:World} {A:Around} {s:Shared}
theorem BP {R:Result->Shared->Prop} {a:Addr} {o:Obj} {bJ:FuncData} {body:List Stmt} {bf:List Value} {vK:List (Str×Value)}
  (KA:A.depth<recursionLimit) (cq:s.heap.get? a=some o) (X0:o.data=.func bJ) (LI:s.heap.NoLimit) (sN:s.heap.CodeRec bJ.code bJ.qualname)
  (sz:bJ.body=.stmts body) (sD:BindsTo s bJ ⟨bf,[]⟩ vK) (XI:bJ.closure=[])
  (kS:∀x∈vK,bJ.scope.names.lookup x.1=some .local\/(bJ.scope.names.lookup x.1=some .cell/\((cellsFrom (s.heap.objs.size+1) bJ.scope.names []).lookup x.1).isSome=true))
  (h:∀aj,InCallC s (callEnvC bJ s.heap.objs.size a).locals (bindL (callEnvC bJ s.heap.objs.size a).kindOf vK fun _=>none) (callEnvC bJ s.heap.objs.size a).cells
    (bindC (callEnvC bJ s.heap.objs.size a).kindOf vK fun _=>none) aj->
   wpAny (model prog w) (A.deeper (callEnvC bJ s.heap.objs.size a)) (execs body (callEnvC bJ s.heap.objs.size a)) (fun f az=>R (.ok (.ret (match f with|.ret v=>v|_=>.none))) az)
    (fun e az=>wpAny (model prog w) (A.deeper (callEnvC bJ s.heap.objs.size a)) (leaving (callEnvC bJ s.heap.objs.size a) e) (fun _ ti=>R (.error e) ti) (fun cg ti=>R (.error cg) ti) az) aj)
  (Sf:bJ.scope.isCoroutine=false) (MM:bJ.scope.isGenerator=false) (ag:bJ.scope.kind=.function):
  codeAny (model prog w) A (.call (.ref a) ⟨bf,[]⟩) R s:=by
 refine codeAny_call_function KA cq X0 Sf MM sz sN (sD _ _ _ _ ?_)
 refine B XI ?_
 refine wpAny_newFunctionEnv_cells ag kS fun env aX az x=> ?_
 subst aX
 exact⟨LI.keeps x.toInCall.keep,codeAny_func (h az x)⟩
end
section
variable{w:World} {CM:cn} {bj:dM} {F:Frag} {K:Top} {env:Env} {J:Scope} {A:Around} {E:Value->Shared->Prop} {ρ ρ₀ ρ':a5} {s c9 az:Shared} {fs fs' fs₁:X} {R:bk}
theorem cH.mC {per:List H} {a:Addr} {v:H} (ap:cH w CM K ρ s per) (hd:ρ a=.aV) (ay:dN w CM ρ s.heap a v):cH w CM K (cw ρ a (.per per.length)) s (per++[v]):=by
 have aB:∀b o,ρ b=.be o->cw ρ a (.per per.length) b=.be o:=fun b o e=>by
  refine B (bp (fun q:b=a=>by rw [q,hd] at e;cases e)) ?_;exact e
 have an:∀b k,ρ b=.per k->cw ρ a (.per per.length) b=.per k:=fun b k e=>by
  refine B (bp (fun q:b=a=>by rw [q,hd] at e;cases e)) ?_;exact e
 have cy:∀b k,ρ b=.per k->k<per.length:=fun b k e=>by
  refine bb (ap.fS b k e) ?_;intro x M _
  rcases Nat.lt_or_ge k per.length with h|h
  ·exact h
  ·replace M:=(List.getElem?_eq_none h)▸M;exact Z M
 refine⟨fun b x e=>aB _ _ (ap.fU b x e),fun b x e=>aB _ _ (ap.fz b x e),fun b e=>let⟨M,O⟩:=ap.fq b e;⟨by refine B (bp (fun q:b=a=>by rw [q,hd] at M;exact M)) ?_;exact M,O⟩,fun b o e=> ?_,fun b=> ?_,fun k ag=> ?_,fun b k e=> ?_,fun b c k ak ar=> ?_⟩
 ·by_cases q:b=a
  ·subst q;replace e:=dI▸e;cases e
  ·replace e:=(bp q)▸e;exact ap.bK b o e
 ·by_cases q:b=a
  ·subst q
   refine B dI ?_
   refine⟨fun e=>(nomatch e),fun e=> ?_⟩
   replace hd:=((ap.c1 b).mpr e)▸hd;cases hd
  ·refine B (bp q) ?_;exact ap.c1 b
 ·(replace ag:=List.length_append▸ag;replace ag:=List.length_cons▸ag;replace ag:=List.length_nil▸ag)
  by_cases eB:k<per.length
  ·obtain⟨b,e⟩:=ap.gq k eB;exact⟨b,an _ _ e⟩
  ·have:k=per.length:=by exact QR ag eB
   subst this
   exact⟨a,dI⟩
 ·by_cases q:b=a
  ·subst q
   replace e:=dI▸e;cases e
   exact⟨v,by simp,ay.bt aB an fun _ e=>e⟩
  ·replace e:=(bp q)▸e
   obtain⟨x,M,O⟩:=ap.fS b k e
   exact⟨x,by refine B (List.getElem?_append_left (cy b k e)) ?_;exact M,O.bt aB an fun _ e=>e⟩
 ·by_cases bZ:b=a
  ·subst bZ
   replace ak:=dI▸ak;cases ak
   by_cases bo:c=b
   ·exact bo.symm
   ·replace ar:=(bp bo)▸ar
    exact absurd (cy c _ ar) (Nat.lt_irrefl _)
  ·replace ak:=(bp bZ)▸ak
   by_cases bo:c=a
   ·subst bo
    replace ar:=dI▸ar;cases ar
    exact absurd (cy b _ ak) (Nat.lt_irrefl _)
   ·replace ar:=(bp bo)▸ar
    exact ap.inj b c k ak ar
theorem aK.mC {a:Addr} {v:H} (I:aK w CM K env J ρ s fs) (hd:ρ a=.aV) (eE:∀x c,J.names.lookup x=some .free->env.cells.lookup x=some c->c≠a) (ay:dN w CM ρ s.heap a v):
  aK w CM K env J (cw ρ a (.per fs.per.length)) s {fs with per:=fs.per++[v]}:=by
 have aB:∀b o,ρ b=.be o->cw ρ a (.per fs.per.length) b=.be o:=fun b o e=>by
  refine B (bp (d6 e hd)) ?_;exact e
 have an:∀b k,ρ b=.per k->cw ρ a (.per fs.per.length) b=.per k:=fun b o e=>by
  refine B (bp (d6 e hd)) ?_;exact e
 have bx:∀b k,ρ b=.aD k->cw ρ a (.per fs.per.length) b=.aD k:=fun b o e=>by
  refine B (bp (d6 e hd)) ?_;exact e
 have aY:∀b,ρ b=.frame->cw ρ a (.per fs.per.length) b=.frame:=fun b e=>by
  refine B (bp (d6 e hd)) ?_;exact e
 have qe:∀b,ρ b=.cell->cw ρ a (.per fs.per.length) b=.cell:=fun b e=>by
  refine B (bp (d6 e hd)) ?_;exact e
 have iE:∀b x,cw ρ a (.per fs.per.length) b=.aD x->ρ b=.aD x:=fun b x e=>by
  by_cases q:b=a
  ·(replace e:=q▸e;replace e:=dI▸e);cases e
  ·rwa [bp q] at e
 exact⟨I.base.mC hd ay,I.c0,aY _ I.cJ,I.fC,fun x bh e=>let⟨v,M,O⟩:=I.eW x bh e;⟨v,M,O.bt aB an bx⟩,
  fun x e=>let⟨c,v,M,O,Y⟩:=I.cells x e;⟨c,v,M,qe _ O,Y⟩,
  fun x c ak ar=>(bp (eE x c ak ar)).trans (I.frees x c ak ar),I.apart,
  fun b x e=>let⟨aL,c,M,O⟩:=I.e0 b x (iE _ _ e);⟨aL,c,M,O.bt aB an fun _ e=>e⟩,fun b c x ak ar=>I.fi b c x (iE _ _ ak) (iE _ _ ar)⟩
theorem a2.kF {a:Addr} {r:cV} (av:a2 ρ₀ c9 ρ s) (aL:ρ₀ a=.free):a2 ρ₀ c9 (cw ρ a r) s:=by
 have b1:∀{b:Addr},ρ₀ b≠.free->b≠a:=fun h q=>h (by refine B q ?_;exact aL)
 exact⟨fun b o e=>(bp (b1 (bI e))).trans (av.bK b o e),fun b e=>(bp (b1 (bI e))).trans (av.aV b e),
  fun b o e=>(bp (b1 (bI e))).trans (av.per b o e),fun b e=>(bp (b1 (bI e))).trans (av.cJ b e),
  fun b e=>(bp (b1 (bI e))).trans (av.fc b e),fun b e=>(bp (b1 (bI e))).trans (av.stk b e),
  fun b o e=>by refine B (bp (b1 (bI e))) ?_;exact av.aD b o e,av.keep,av.hV,av.ao⟩
theorem cb.mC {a:Addr} {k:Nat} {l c8:List (Str×cf)} (av:cb ρ₀ l ρ c8) (aL:ρ₀ a=.free):cb ρ₀ l (cw ρ a (.per k)) c8 where
 U:=av.U
 aD:=fun b x e=>by
  by_cases q:b=a
  ·subst q;replace e:=aL▸e;cases e
  ·refine B (bp q) ?_;exact av.aD b x e
 gl:=fun b x e=>by
  by_cases q:b=a
  ·subst q;replace e:=dI▸e;cases e
  ·replace e:=(bp q)▸e;exact av.gl b x e
noncomputable def zC (n:Str) (ao:Stmt):Prop:=∃hp hy ir j7 Bf AL Cr Aa DP k,ao=.Assign [.Attribute (.Name "self" hp) n hy] (.IfExp (.Compare (.Name n ir) [.Is] [.Constant .none k j7] Bf) (.Dict [] [] AL) (.Name n Cr) Aa) DP
structure yk (F:Frag) (C:Addr):Prop where
 tT:makesIn F C=true
 ao:rV F C
 tk:takerIn F C "table"=some none/\takerIn F C "trailer"=some none
 init:∃ao fI ob bJ d3 dR,findIn F (.ref C) "__init__"=some (some (.ref fI))/\typeIn F (.ref fI)=some (.type "function")/\jY F ao fI ob bJ/\params ao=(["self","table","trailer"]:List Str)/\g0 ao=[d3,dR]/\zC "table" d3/\zC "trailer" dR/\
  ∀s,F.In s.heap->∀v,BindsTo s bJ ⟨[v],[]⟩ [("self",v),("table",.none),("trailer",.none)]
 keep:keepIn F (.ref C)=true
theorem Hj {x dx C:Addr} {n:Str} {ao:Stmt} {es:List DictEntry} {k:Nat} {l:List (Str×Value)} {Q:Flow->Shared->Prop} (mL:zC n ao) (ck:rV F C) (bz:K.f=F) (ae:ρ x=.aV) (ln:ρ dx=.aV) (b1:x≠dx) (eE:∀x c,J.names.lookup x=some .free->env.cells.lookup x=some c->c≠dx)
  (aG:takerIn F C n=some none) (fz:(n==("__debug__":Str))=false)
  (I:aK w CM K env J ρ s fs) (ay:e2 env J s.heap "self" (.ref x)) (aE:e2 env J s.heap n .none) (aP:wQ s.heap x dx C es k) (aB:ft es l) (ea:n∉l.map (·.1)) (hz:es.length<1000)
  (h:∀h' tk d2,s.heap.objs.size≠dx->h'.get? dx=some (dictOf d2 (k+1))->ft d2 (l++[(n,.ref s.heap.objs.size)])->d2.length=es.length+1->h'.get? s.heap.objs.size=some emptyDict->(∀b o,b≠dx->s.heap.get? b=some o->h'.get? b=some o)->(∀b,b≠dx->s.heap.get? b=none->b≠s.heap.objs.size->h'.get? b=none)->
   (aK w CM K env J (bP ρ (s.heap.push emptyDict)) {s with heap:=h',toks:=tk} fs)->Heap.SameBut dx (s.heap.push emptyDict) h'->(∀y v,e2 env J s.heap y v->e2 env J h' y v)->Q .next {s with heap:=h',toks:=tk}):
  wpAny (model aw w) A (exec ao env) Q E s:=by
 obtain⟨hp,hy,ir,j7,Bf,AL,Cr,Aa,DP,kk,rfl⟩:=mL
 refine plainObj_wpAny_Assign_Attribute (wpAny_IfExp (wpAny_isTrue_Compare1 (aE.eval I.c0 fz (wpAny_Constant_none (is_none ?_))))) (hs:=rfl)
 refine B (show(Value.none==Value.none)=true from by decide) ?_
 refine wpAny_truthy_bool ?_
 refine B (if_pos rfl) ?_
 refine wpAny_Dict_empty ?_
 have ag:∀b o,s.heap.get? b=some o->(s.heap.push emptyDict).get? b=some o:=fun b o e=>Heap.get?_push_of_some _ e
 have jG:aK w CM K env J (bP ρ (s.heap.push emptyDict)) {s with heap:=s.heap.push emptyDict} fs:=I.dz (tk:=s.toks) ag
 have hN:=ay.bt ag
 have FO:s.heap.objs.size≠dx:=fun q=>by have:=Heap.lt_size aP.V;replace this:=(Eq.symm q)▸this;exact Nat.lt_irrefl _ this
 refine hN.eval (s:={s with heap:=s.heap.push emptyDict}) jG.c0 (by decide+kernel) ?_
 have FD:bP ρ (s.heap.push emptyDict) dx=.aV:=(lY (bI ln)).trans ln
 refine GL (s:={s with heap:=s.heap.push emptyDict}) (bz▸jG.in) ck aG ⟨ag _ _ aP.gx,ag _ _ aP.V⟩ aB ea hz fun h' d2 hs hL mP ot=> ?_
 refine h h' _ d2 FO hL mP ot ((hs.2 _ FO).trans (Heap.get?_push_size _ rfl)) (fun b o ah e=>(hs.2 b ah).trans (ag b o e)) (fun b ah e kW=>(hs.2 b ah).trans ?_) (jG.h2 FD eE hs (by refine B hL ?_;nofun)) hs fun y v q=>(q.bt ag).h2 jG FD eE hs
 refine B (Heap.get?_push_ne _ _ _ kW) ?_;exact e
theorem BB (iZ:∃ob,K.f.lookup sysModules=some ob) (I:aK w CM K env J ρ s fs) {a:Addr} (aE:s.heap.get? a=none) {ρ':a5} {h':Heap} (h:h'.get? a=some emptyDict):dN w CM ρ' h' a (.V []):=
 ⟨_,#[],0,[],q5 iZ I aE,h,⟨rfl,rfl,rfl⟩,rfl,fun e aX=>by simp at aX,.nil,.nil,rfl⟩
set_option maxHeartbeats 1000000 in
theorem HN {k:Nat} (bn:qF CM bj F) (bz:K.f=F) (bc:ek K k A) {C:Addr} (ck:CM "Shelf"=some C) (eY:yk F C) (I:aK w CM K env J ρ s fs):
  wpAny (model aw w) A (call (.ref C) []) (b3 w CM K env J ρ s fs (.U (.dS "Shelf" [("table",.per fs.per.length),("trailer",.per (fs.per.length+1))])) {fs with per:=fs.per++[.V [],.V []]}) E s:=by
 obtain⟨ao,fI,ob,bJ,YX,Zv,aR,yI,bV,gn,sz,rP,Vm,sD⟩:=eY.init
 have eX:F.In s.heap:=bz▸I.in
 have kd:ρ (s.heap.objs.size+1)=.free:=(I.base.c1 _).mpr (by
  cases e:s.heap.get? (s.heap.objs.size+1) with
  |none=>rfl
  |some ob=>exact absurd (Heap.lt_size e) (Nat.not_lt.mpr (Nat.le_succ _)))
 have i8:ρ s.heap.objs.size=.free:=(I.base.c1 _).mpr fd
 refine wpAny_call (make_core (makes_of eX eY.tT) (looks_findIn eX aR) (fun self=>bind_fn eX self yI) (.inl rfl) ?_)
 have iN:∀b o,s.heap.get? b=some o->((s.heap.push emptyDict).push (instObj C s.heap.objs.size)).get? b=some o:=fun b o e=>Heap.get?_push_of_some _ (Heap.get?_push_of_some _ e)
 generalize oq:(s.heap.push emptyDict).push (instObj C s.heap.objs.size)=M at iN
 have jQ:M.get? (s.heap.objs.size+1)=some (instObj C s.heap.objs.size):=by(refine bu oq ?_;refine bu (Heap.size_push s.heap emptyDict) ?_);exact Heap.get?_push_size _ rfl
 have o3:M.get? s.heap.objs.size=some emptyDict:=by refine bu oq ?_;exact Heap.get?_push_of_some _ (Heap.get?_push_size _ rfl)
 have nA:bl ρ (s.heap.objs.size+1)=.free:=g5.mpr kd
 have ht:bl ρ s.heap.objs.size=.free:=g5.mpr i8
 have el:a2 (bl ρ) s (bP (bl ρ) M) {s with heap:=M}:=a2.dz (tk:=s.toks) iN
 have o5:cH w CM K (bP (bl ρ) M) {s with heap:=M} fs.per:=I.base.bl.dz (tk:=s.toks) iN
 have lF:iH (bP (bl ρ) M):=fun a=>⟨fun x q=>(hR ρ a).1 x (gg.mp q),fun q=>(hR ρ a).2.1 (nz.mp q),fun q=>(hR ρ a).2.2 (oO.mp q)⟩
 have lh:bP (bl ρ) M (s.heap.objs.size+1)=.aV:=gD nA jQ
 have jU:bP (bl ρ) M s.heap.objs.size=.aV:=gD ht o3
 have iX:F.In M:=fun b x e=>iN _ _ (eX b x e)
 have fw:(params ao).length=[Value.ref (s.heap.objs.size+1),.none,.none].length:=by refine B gn ?_;rfl
 have kf:(params ao).zip [Value.ref (s.heap.objs.size+1),.none,.none]=([("self",.ref (s.heap.objs.size+1)),("table",.none),("trailer",.none)]:List (Str×Value)):=by refine B gn ?_;rfl
 have nj:=bV.J
 refine BP (s:={s with heap:=M}) (Nat.lt_of_le_of_lt (xm (k:=k) A _ _ _) bc.depth) (iX _ _ bV.gx) bV.data (bn.qS _ iX) (codeRec_of iX bV.code) bV.body (sD _ iX _) bV.uD (fun y aQ=> ?_) (fun aj x=> ?_) (by refine B bV.scope ?_;exact bV.J.s8) (by refine B bV.scope ?_;exact bV.J.gen) (by refine B bV.scope ?_;exact bV.J.kind)
 ·have:y.1∈params ao:=by(refine bu (q8 _ fw) ?_;refine B kf ?_);exact List.mem_map.mpr ⟨_,aQ,rfl⟩
  refine B bV.scope ?_
  rcases nj.par _ this with q|q
  ·exact .inl q
  ·exact .inr ⟨q,nj.fc _ _ q⟩
 replace x:=(Eq.symm kf)▸x
 have a3:=tN (w:=w) (CM:=CM) (K:=K) (loc:=[]) (ρ:=bP (bl ρ) M) bV fw (fun y bh g=>nomatch g) o5 lF rfl x
 have lP:=m4 bV fw rfl x (y:="self") (v:=.ref (s.heap.objs.size+1)) (by refine B kf ?_;simp)
 have nI:=m4 bV fw rfl x (y:="table") (v:=.none) (by refine B kf ?_;simp)
 have wK:=m4 bV fw rfl x (y:="trailer") (v:=.none) (by refine B kf ?_;simp)
 obtain⟨n3,gQ,uf⟩:=a3
 generalize yR:hS (bP (bl ρ) M) aj.heap (callEnvC bJ M.objs.size fI).locals (callEnvC bJ M.objs.size fI).cells=bH at*
 have n3:aK w CM {K with frames:=(callEnvC bJ M.objs.size fI).locals::K.frames} (callEnvC bJ M.objs.size fI) (bN ao) bH aj ⟨[],fs.per⟩:=yR▸n3
 have gQ:a2 (bP (bl ρ) M) {s with heap:=M} bH aj:=yR▸gQ
 have uf:∀a x,bH a=.aD x->bP (bl ρ) M a=.free:=yR▸uf
 have oe:=gQ.aV _ lh
 have oH:=gQ.aV _ jU
 have eE:∀y c,(bN ao).names.lookup y=some .free->(callEnvC bJ M.objs.size fI).cells.lookup y=some c->c≠s.heap.objs.size:=fun y c M O=>absurd M (nj.c1 y)
 refine B sz ?_
 have oj:∀b o,s.heap.get? b=some o->aj.heap.get? b=some o:=fun b o e=>x.toInCall.keep b o (iN b o e)
 have kI:s.heap.get? aj.heap.objs.size=none:=by
  cases e:s.heap.get? aj.heap.objs.size with
  |none=>rfl
  |some o=>exact absurd (Heap.lt_size (oj _ _ e)) (Nat.lt_irrefl _)
 refine wpAny_execs_cons (Hj (K:={K with frames:=(callEnvC bJ M.objs.size fI).locals::K.frames}) rP eY.ao bz oe oH (Nat.succ_ne_self _) eE eY.tk.1 (by decide+kernel) n3 lP nI ⟨gQ.keep _ _ lh jQ,gQ.keep _ _ jU o3⟩ (l:=[]) rfl (by simp) (by decide) fun O uU YY bZ bo ee h1 im qM Zq kD JQ ET=> ?_)
 have kL:s.heap.get? O.objs.size=none:=by
  cases e:s.heap.get? O.objs.size with
  |none=>rfl
  |some o=>
   by_cases ah:O.objs.size=s.heap.objs.size
   ·(replace e:=ah▸e;replace e:=fd▸e);exact Z e
   ·exact absurd (Heap.lt_size (qM _ _ ah (oj _ _ e))) (Nat.lt_irrefl _)
 have Ct:=no (h':=aj.heap.push emptyDict) oe
 have CI:=no (h':=aj.heap.push emptyDict) oH
 refine wpAny_execs_cons (Hj (K:={K with frames:=(callEnvC bJ M.objs.size fI).locals::K.frames}) (s:={aj with heap:=O,toks:=uU}) Vm eY.ao bz Ct CI (Nat.succ_ne_self _) eE eY.tk.2 (by decide+kernel) kD (ET _ _ lP) (ET _ _ wK)
  ⟨qM _ _ (Nat.succ_ne_self _) (gQ.keep _ _ lh jQ),bo⟩ ee (by simp;decide+kernel) (by refine B h1 ?_;decide) fun Y As K3 eM ka w4 tR Vj vD E0 ny VK Y0=>wpAny_execs_nil ?_)
 refine⟨rfl,?_⟩
 have d9:bH aj.heap.objs.size=.free:=(n3.base.c1 _).mpr fd
 have Qs:bP bH (aj.heap.push emptyDict) aj.heap.objs.size=.aV:=gD d9 (Heap.get?_push_size _ rfl)
 have fO:bP bH (aj.heap.push emptyDict) O.objs.size=.free:=(kD.base.c1 _).mpr fd
 have T2:bP (bP bH (aj.heap.push emptyDict)) (O.push emptyDict) O.objs.size=.aV:=gD fO (Heap.get?_push_size _ rfl)
 have PG:=no (h':=O.push emptyDict) Qs
 have T3:=no (h':=O.push emptyDict) Ct
 have IJ:=no (h':=O.push emptyDict) CI
 have Dd:a2 (bl ρ) s bH aj:=el.trans gQ
 have Uq:a2 (bl ρ) s (bP bH (aj.heap.push emptyDict)) {aj with heap:=O,toks:=uU}:=(Dd.trans (a2.dz (tk:=aj.toks) (fun b o e=>Heap.get?_push_of_some _ e))).h2 ht JQ
 have SH:a2 (bl ρ) s (bP (bP bH (aj.heap.push emptyDict)) (O.push emptyDict)) {aj with heap:=Y,toks:=As}:=(Uq.trans (a2.dz (s:={aj with heap:=O,toks:=uU}) (tk:=uU) (fun b o e=>Heap.get?_push_of_some _ e))).h2 ht VK
 have oc:cp w CM {K with frames:=(callEnvC bJ M.objs.size fI).locals::K.frames} (callEnvC bJ M.objs.size fI) (bN ao) (bl ρ) s _ {aj with heap:=Y,toks:=As} ⟨[],fs.per⟩:=
  ⟨ny,SH,fun a y e=>Dd.ic _ (by have:=gg.mp (gg.mp e);exact absurd this (by
   intro q
   have:=(n3.e0 a y q).2
   refine bb this ?_;clear this;intro c hc _
   exact Z hc))⟩
 refine ef (cp.un (K:=K) (K':={K with frames:=(callEnvC bJ M.objs.size fI).locals::K.frames}) rfl rfl (fun L h=>List.mem_cons_of_mem _ h) oc (hR ρ)) ?_;intro cT dE mf
 refine ef (I.sg cT dE mf) ?_;intro e1 lw lW
 have bW:ρ aj.heap.objs.size=.free:=(I.base.c1 _).mpr kI
 have cC:ρ O.objs.size=.free:=(I.base.c1 _).mpr kL
 have v9:=(kH (ρ':=bl (bP (bP bH (aj.heap.push emptyDict)) (O.push emptyDict))) nA).trans (pb T3)
 have wg:=(kH (ρ':=bl (bP (bP bH (aj.heap.push emptyDict)) (O.push emptyDict))) ht).trans (pb IJ)
 have ak:=(kH (ρ':=bl (bP (bP bH (aj.heap.push emptyDict)) (O.push emptyDict))) (g5.mpr bW)).trans (pb PG)
 have ar:=(kH (ρ':=bl (bP (bP bH (aj.heap.push emptyDict)) (O.push emptyDict))) (g5.mpr cC)).trans (pb T2)
 have rJ:Y.get? (s.heap.objs.size+1)=some (instObj C s.heap.objs.size):=vD _ _ (Nat.succ_ne_self _) (qM _ _ (Nat.succ_ne_self _) (gQ.keep _ _ lh jQ))
 have br:Y.get? aj.heap.objs.size=some emptyDict:=vD _ _ bZ im
 have Gd:O.objs.size≠aj.heap.objs.size:=fun q=>by have:=Heap.lt_size im;replace this:=q▸this;exact Nat.lt_irrefl _ this
 have F4:s.heap.objs.size+1≠aj.heap.objs.size:=fun q=>by have:=Heap.lt_size (gQ.keep _ _ lh jQ);replace this:=q▸this;exact Nat.lt_irrefl _ this
 have Dh:s.heap.objs.size+1≠O.objs.size:=fun q=>by have:=Heap.lt_size (qM (s.heap.objs.size+1) _ (Nat.succ_ne_self _) (gQ.keep _ _ lh jQ));replace this:=q▸this;exact Nat.lt_irrefl _ this
 have Dl:∃ob,K.f.lookup sysModules=some ob:=bz▸bn.sm
 have w2:=e1.mC (v:=.V []) ak (h9 I bW) (BB Dl I kI br)
 have lH:=w2.mC (a:=O.objs.size) (v:=.V []) (by refine B (bp Gd) ?_;exact ar) (h9 I cC) (BB Dl I kL Vj)
 have JP:=lH.fK (a:=s.heap.objs.size+1) (ob:=instObj C s.heap.objs.size) (by(refine B (bp Dh) ?_;refine B (bp F4) ?_);exact v9) (h9 I kd) rJ
 have AX:=JP.fK (a:=s.heap.objs.size) (ob:=dictOf K3 (0+1+1)) (by(refine B (bp (Nat.ne_of_lt (Nat.lt_succ_self _))) ?_;refine B (bp (Ne.symm eM)) ?_;refine B (bp (Ne.symm bZ)) ?_);exact wg) (h9 I i8) ka
 refine⟨_,by rw [List.append_assoc] at AX;exact AX,(((lw.kF bW).kF cC).kF kd).kF i8,(((lW.mC bW).mC cC).fK kd).fK i8,?_⟩
 replace w4:=(List.nil_append _)▸w4
 refine bX.Ar (m:=([("table",.ref aj.heap.objs.size),("trailer",.ref O.objs.size)]:List (Str×Value))) ck ((bp (Nat.succ_ne_self _)).trans dI) dI w4 ⟨_,_,rfl,⟨_,rfl,?_⟩,_,_,rfl,⟨_,rfl,?_⟩,rfl⟩ (by simp;decide+kernel)
 ·(refine B (bp bZ) ?_;refine B (bp (Ne.symm F4)) ?_;refine B (bp (Ne.symm Gd)) ?_);exact dI
 ·(refine B (bp eM) ?_;refine B (bp (Ne.symm Dh)) ?_)
  have:(fs.per++[H.V []]).length=fs.per.length+1:=by simp
  refine bu this ?_;exact dI
end
end Mine
end
section
open PySem PySem.W PySem.Calls PyProof.Rows
namespace Mine
section
variable{w:World} {CM:cn} {bj:dM} {F:Frag} {K:Top} {env:Env} {J:Scope} {A:Around} {E:Value->Shared->Prop} {ρ ρ₀ ρ':a5} {s c9 az:Shared} {fs fs' fs₁:X} {R:bk}
theorem e2.sameBut {a:Addr} {h':Heap} {y:Str} {v:Value} (q:e2 env J s.heap y v) (I:aK w CM K env J ρ s fs) (M:ρ a≠.frame) (O:ρ a≠.cell) (Y:ρ a≠.aV) (hs:Heap.SameBut a s.heap h'):e2 env J h' y v:=by
 rcases q with⟨bW,cC,m,cY,dX⟩|⟨bW,cC,c,cY,dX⟩
 ·exact .inl ⟨bW,cC,m,cY.sameBut hs (fun q=>M (by refine bu q ?_;exact I.cJ)),dX⟩
 ·refine .inr ⟨bW,cC,c,cY,dX.sameBut hs ?_⟩
  rcases bW with bW|bW
  ·intro q
   refine dP (I.cells y bW) ?_;intro c' eZ cT dE _
   replace cT:=cY▸cT;cases cT
   exact O (by refine bu q ?_;exact dE)
  ·exact fun q=>Y (by refine bu q ?_;exact I.frees y c bW cY)
theorem aK.p8 {a:Addr} {x:Str} {c c':H} {h':Heap} {tk:Nat} (I:aK w CM K env J ρ s fs) (hd:ρ a=.aD x) (ae:Mine.getL x fs.loc=some (.aD c)) (hs:Heap.SameBut a s.heap h') (hc:dN w CM ρ h' a c'):
  aK w CM K env J ρ {s with heap:=h',toks:=tk} {fs with loc:=bY x (.aD c') fs.loc}/\a2 ρ s ρ {s with heap:=h',toks:=tk}/\cb ρ fs.loc ρ (bY x (.aD c') fs.loc):=by
 have b1:∀{b:Addr},(∀y,ρ b≠.aD y)->b≠a:=fun h q=>h x (by refine B q ?_;exact hd)
 have keep:∀b ob,(∀y,ρ b≠.aD y)->s.heap.get? b=some ob->h'.get? b=some ob:=fun b ob h e=>(hs.2 b (b1 h)).trans e
 refine bS hc.e7 ?_;intro pv bA
 have ap:cH w CM K ρ {s with heap:=h',toks:=tk} fs.per:=by
  refine⟨I.base.fU,I.base.fz,fun b e=> ?_,fun b ob e=>keep b ob (fun _=>bI e) (I.base.bK b ob e),fun b=> ?_,I.base.gq,fun b k e=> ?_,I.base.inj⟩
  ·obtain⟨M,o,O,Y⟩:=I.base.fq b e
   exact⟨M,o,keep b o (fun y q=>by replace M:=q▸M;exact M) O,Y⟩
  ·by_cases q:b=a
   ·subst q
    refine B hd ?_
    exact⟨fun e=>(nomatch e),fun e=>by replace e:=(show h'.get? b=some pv from bA)▸e;exact ii e⟩
   ·show ρ b=.free↔h'.get? b=none
    refine B (hs.2 b q) ?_;exact I.base.c1 b
  ·refine bb (I.base.fS b k e) ?_;intro y M O
   exact⟨y,M,O.bt (fun _ _ q=>q) (fun _ _ q=>q) fun ob q=>keep b ob (fun _=>bI e) q⟩
 refine⟨⟨ap,I.c0,I.cJ,let⟨m,e⟩:=I.fC;⟨m,e.sameBut hs (b1 (fun _=>bI I.cJ))⟩,fun y bh e=> ?_,fun y e=> ?_,I.frees,I.apart,fun b y e=> ?_,I.fi⟩,⟨fun _ _ e=>e,fun _ e=>e,fun _ _ e=>e,fun _ e=>e,fun _ e=>e,fun _ e=>e,fun _ _ e=>.inl e,fun b ob e q=>keep b ob (fun _=>bI e) q,fun b ob e q=>⟨_,keep b ob (fun _=>bI e) q⟩,⟨_,_,rfl⟩⟩,⟨fun y v e=> ?_,fun b y e=>.inl e,fun _ _ e=>e⟩⟩
 ·by_cases q:y=x
  ·subst q
   replace e:=kq▸e;cases e
   obtain⟨v,M,b,rfl,O⟩:=I.eW _ _ ae
   exact⟨_,M.sameBut I (bI hd) (bI hd) (bI hd) hs,b,rfl,O⟩
  ·replace e:=(ik q)▸e
   refine bb (I.eW _ _ e) ?_;intro v M O
   exact⟨v,M.sameBut I (bI hd) (bI hd) (bI hd) hs,O⟩
 ·refine gv (I.cells y e) ?_;intro c v M O Y aC
  exact⟨c,v,M,O,Y,aC.sameBut hs (b1 (fun _=>bI O))⟩
 ·obtain⟨aL,yT,M,O⟩:=I.e0 b y e
  by_cases q:y=x
  ·subst q
   obtain rfl:=I.fi b a y e hd
   exact⟨aL,c',kq,hc⟩
  ·refine⟨aL,yT,by refine B (ik q) ?_;exact M,O.bt (fun _ _ q=>q) (fun _ _ q=>q) fun ob cI=>(hs.2 b (fun cg=>q ?_)).trans cI⟩
   (replace e:=cg▸e;replace e:=hd▸e);cases e;rfl
 ·by_cases q:y=x
  ·subst q;replace e:=ae▸e;cases e
  ·refine B (ik q) ?_;exact e
theorem aK.Qe {a:Addr} {k:Nat} {c':H} {h':Heap} {tk:Nat} (I:aK w CM K env J ρ s fs) (hd:ρ a=.per k) (hs:Heap.SameBut a s.heap h') (hc:dN w CM ρ h' a c'):
  aK w CM K env J ρ {s with heap:=h',toks:=tk} {fs with per:=fs.per.set k c'}/\a2 ρ s ρ {s with heap:=h',toks:=tk}:=by
 have b1:∀{b:Addr},(∀y,ρ b≠.per y)->b≠a:=fun h q=>h k (by refine B q ?_;exact hd)
 have keep:∀b ob,(∀y,ρ b≠.per y)->s.heap.get? b=some ob->h'.get? b=some ob:=fun b ob h e=>(hs.2 b (b1 h)).trans e
 refine bS hc.e7 ?_;intro pv bA
 have ap:cH w CM K ρ {s with heap:=h',toks:=tk} (fs.per.set k c'):=by
  refine⟨I.base.fU,I.base.fz,fun b e=> ?_,fun b ob e=>keep b ob (fun _=>bI e) (I.base.bK b ob e),fun b=> ?_,fun j bF=>I.base.gq j (by simpa using bF),fun b j e=> ?_,I.base.inj⟩
  ·obtain⟨M,o,O,Y⟩:=I.base.fq b e
   exact⟨M,o,keep b o (fun y q=>by replace M:=q▸M;exact M) O,Y⟩
  ·by_cases q:b=a
   ·subst q
    refine B hd ?_
    exact⟨fun e=>(nomatch e),fun e=>by replace e:=(show h'.get? b=some pv from bA)▸e;exact ii e⟩
   ·show ρ b=.free↔h'.get? b=none
    refine B (hs.2 b q) ?_;exact I.base.c1 b
  ·refine bb (I.base.fS b j e) ?_;intro y M O
   by_cases q:j=k
   ·subst q
    obtain rfl:=I.base.inj b a j e hd
    refine⟨c',?_,hc⟩
    have:j<fs.per.length:=by
     rcases Nat.lt_or_ge j fs.per.length with h|h
     ·exact h
     ·replace M:=(List.getElem?_eq_none h)▸M;exact Z M
    simp [this]
   ·exact⟨y,by refine B (List.getElem?_set_ne (fun e=>q e.symm)) ?_;exact M,O.bt (fun _ _ q=>q) (fun _ _ q=>q) fun ob cI=>(hs.2 b (fun cg=>q (by(replace e:=cg▸e;replace e:=hd▸e);cases e;rfl))).trans cI⟩
 refine⟨⟨ap,I.c0,I.cJ,let⟨m,e⟩:=I.fC;⟨m,e.sameBut hs (b1 (fun _=>bI I.cJ))⟩,fun y bh e=> ?_,fun y e=> ?_,I.frees,I.apart,fun b y e=> ?_,I.fi⟩,⟨fun _ _ e=>e,fun _ e=>e,fun _ _ e=>e,fun _ e=>e,fun _ e=>e,fun _ e=>e,fun _ _ e=>.inl e,fun b ob e q=>keep b ob (fun _=>bI e) q,fun b ob e q=>⟨_,keep b ob (fun _=>bI e) q⟩,⟨_,_,rfl⟩⟩⟩
 ·refine bb (I.eW _ _ e) ?_;intro v M O
  exact⟨v,M.sameBut I (bI hd) (bI hd) (bI hd) hs,O⟩
 ·refine gv (I.cells y e) ?_;intro c v M O Y aC
  exact⟨c,v,M,O,Y,aC.sameBut hs (b1 (fun _=>bI O))⟩
 ·obtain⟨aL,yT,M,O⟩:=I.e0 b y e
  exact⟨aL,yT,M,O.bt (fun _ _ q=>q) (fun _ _ q=>q) fun ob q=>keep b ob (fun _=>bI e) q⟩
theorem eP.r9 {x:Str} {c:H} {v:Value} (aP:eP w CM ρ₀ ρ s fs (.var x) v) (I:aK w CM K env J ρ s fs) (bi:Mine.getL x fs.loc=some (.aD c)):∃a,v=.ref a/\ρ a=.aD x/\dN w CM ρ s.heap a c:=by
 refine bb aP ?_;clear aP;intro a u;subst u;intro O
 have O:ρ a=.aD x:=by
  rcases O with O|⟨y,O⟩
  ·exact O
  ·replace O:=bi▸O;cases O
 obtain⟨aL,c',Y,aC⟩:=I.e0 a x O
 replace Y:=bi▸Y;cases Y
 exact⟨a,rfl,O,aC⟩
theorem Br {i j:Int} {v:Value} (q:bX w CM ρ (.aF [.int i,.int j]) v):∃a t u n,v=.ref a/\ρ a=.be (qI [.int i t,.int j u] n):=by
 refine dH q ?_;clear q;intro a vs n e M O
 refine dP O ?_;clear O;intro lP Mg ak Y aC
 refine dP aC ?_;clear aC;intro nI v7 ar bR dK
 refine Y.elim fun t bQ=>bR.elim fun u cX=>⟨a,t,u,n,e,?_⟩
 (refine B M ?_;refine B ak ?_;refine B ar ?_;refine B bQ ?_;refine B cX ?_;refine B (show v7=[] from dK) ?_;rfl)
theorem UL {x df:H} {v:Value} (h:mB x=true) (h':mB df=true) (q:bX w CM ρ x v) (cI:bX w CM ρ df v):x=df:=by
 refine i9 (Cn h) ?_;intro i j e
 refine i9 (Cn h') ?_;intro my ho cg
 refine qp (Br (e▸q)) ?_;intro a t u n ak M
 refine qp (Br (cg▸cI)) ?_;intro jo dW sb jf ar O
 (replace O:=(Value.ref.inj (ar.symm.trans ak))▸O;replace O:=M▸O)
 have z:=List.cons.inj (Array.mk.inj (Data.seq.inj (congrArg Obj.data (cV.be.inj O))).1)
 (refine B e ?_;refine B cg ?_;refine B ((Value.int.inj z.1).1) ?_;refine B ((Value.int.inj (List.cons.inj z.2).1).1) ?_;rfl)
end
end Mine
end
section
open PySem PySem.W PySem.Calls PyProof.Rows
namespace Mine
structure uq (CM:cn) (bj:dM) (F:Frag):Prop extends wL CM bj F where
 Fw:∀c m f C,qK c m=some f->CM c=some C->findIn F (.ref C) "__getattribute__"=some (some (.builtin "object.__getattribute__"))/\findIn F (.ref C) "__getattr__"=some none/\
  ∃a,bj f=some a/\findIn F (.ref C) m=some (some (.ref a))/\typeIn F (.ref a)=some (.type "function")
 Ec:∃C,CM "Shelf"=some C/\hr F "Shelf"=some (.ref C)/\yk F C
section
variable{w:World} {CM:cn} {bj:dM} {F:Frag} {K:Top} {env:Env} {J:Scope} {A:Around} {E:Value->Shared->Prop} {ρ ρ₀ ρ':a5} {s c9 az:Shared} {fs fs' fs₁:X} {R:bk}
theorem Ex {o:Expr} {name:Str} {Ff:Sem Value} (h:kx o=true):attributeBase o name env Ff=Ff:=by
 cases o with
 |Call f args lR pos=>cases f with
  |Name id p=>cases args with
   |nil=>cases lR with
    |nil=>
     have:(id !=("super":Str))=true:=h
     exact if_pos (by refine B this ?_;rfl)
    |cons _ _=>rfl
   |cons _ _=>rfl
  |_=>rfl
 |_=>rfl
theorem SO {α:Type} {l:List (Bool×α)} (h:l.any (·.1)=false):l.all (!·.1)=true:=by
 refine B List.all_eq_not_any_not ?_
 simp only [Bool.not_not]
 refine B h ?_;rfl
theorem xk {o:Expr} {name:Str} {h3 pos:Pos} {args:List Expr} {Q:Value->Shared->Prop} (eA:kx o=true) (he:(h3.endLine==pos.line)=true) (bC:args.length<30) (an:(backTo pos (starEach args env)).any (·.1)=false)
  (h:wpAny (model aw w) A (eval o env) (fun e9 aj=>wpAny (model aw w) A (getMethod e9 name (do return (<-importBound o env).getD true)) (fun p ct=>wpAny (model aw w) A (callWith pos p.1 p.2 (backTo pos (starEach args env)) []) Q E ct) E aj) E s):
  wpAny (model aw w) A (eval (.Call (.Attribute o name h3) args [] pos) env) Q E s:=by
 (rw [arm_eval_Call];refine B (Ex eA) ?_)
 refine wpAny_bind (wpAny_mono h (fun e9 aj bw=>wpAny_bind (wpAny_standAt ?_)) fun _ _ e=>e)
 have Qa:methodCallForm (args.length+([]:List Keyword).length) (backTo pos (starEach args env)) (backToKw pos (keywordEach [] env))=true:=by
  unfold methodCallForm
  refine B (SO an) ?_
  exact Bool.and_eq_true_iff.mpr ⟨rfl,decide_eq_true bC⟩
 have me:methodCallPos true o env h3 pos=pure pos:=by unfold methodCallPos;simp [he]
 unfold methodCall
 refine B Qa ?_
 refine wpAny_bind (wpAny_holding ?_)
 show wpAny _ _ (getMethod e9 name _) _ _ _
 refine wpAny_mono bw (fun p ct dJ=> ?_) fun _ _ e=>e
 exact wpAny_bind (wpAny_of_eq me dJ)
theorem BU (S:cB w CM K env J A R) {pos:Pos} {es:List Expr} {xs:List H} (q:dk R es fs=some (xs,fs')):(backTo pos (starEach es env)).any (·.1)=false:=(rH S _ q).1
theorem WY (bn:uq CM bj F) (bz:K.f=F) {k:Nat} {C:cs} (c4:gM w CM bj F k C) (bc:ek K k A) (S:cB w CM K env J A R) {o:Expr} {m f c:Str} {h3 pos:Pos} {args:List Expr} {r r':aU} {l:List (Str×H)} {self:H} {vs dg:List H} {j4 fs₂:X}
  (eA:kx o=true) (he:(h3.endLine==pos.line)=true) (bC:args.length<30) (la:R.ba o fs=some (r,fs₁)) (bZ:fs₁.cE r=some (.dS c l)) (bo:qK c m=some f) (ee:iO m l=none) (h1:fs₁.oB r=some (self,j4))
  (im:dk R args j4=some (vs,fs₂)) (qM:C f (self::vs) fs₂.per=some (.ret r',dg)) (I:aK w CM K env J ρ s fs):
  wpAny (model aw w) A (eval (.Call (.Attribute o m h3) args [] pos) env) (b3 w CM K env J ρ s fs r' {fs₂ with per:=dg}) cc s:=by
 subst bz
 refine xk eA he bC (BU S im) (S.eV la I fun e9 aj aN aZ a0 bv aP=> ?_)
 have aR:=(hT aZ aP bZ).dS
 refine gm (vW I aZ a0 bv aP h1) ?_;intro b8 cN b9 dG uc
 refine GI aR ?_;clear aR;intro ad d hh n7 e M O Y aC bR
 rw [e] at uc|-
 refine ef (bn.Fw c m f n7 bo M) ?_;intro bH b7 g
 refine et g ?_;clear g;intro a c7 fm hK
 have In:InstAt aj.heap ad (instObj n7 d) n7 (some hh):=⟨aZ.base.bK _ _ O,rfl,rfl,aZ.base.bK _ _ Y⟩
 refine method_fn aZ.in In bH b7 fm hK (by show(lookIn m hh).map (·.isSome)=_;refine B (aC m ee) ?_;rfl) ?_
 refine bS (c4 f (self::vs) fs₂.per _ dg qM K A rfl bc) ?_;intro jo h
 replace h:=(Eq.symm (Option.some.inj (c7.symm.trans h.w9)))▸h
 refine qz h.sL ?_;intro ao ob bJ aB
 exact xR S aB.keep im cN fun bf jD jm hi eh k9 ay=>wpAny_mono (hi.BL h (a8.cons (bX.bt eh.bK eh.per uc) ay)) (fun v m7 P=>b3.trans (b9.trans eh) (dG.trans k9) P) fun e m7 P=>nomatch P.1
theorem se (S:cB w CM K env J A R) {o:Expr} {m:Str} {h3 pos:Pos} {args:List Expr} {r r':aU} {vs:List H} {fs₂ fs₃:X} {T id:String} {x:H}
  (eA:kx o=true) (he:(h3.endLine==pos.line)=true) (bC:args.length<30) (la:R.ba o fs=some (r,fs₁)) (bZ:fs₁.cE r=some x) (im:dk R args fs₁=some (vs,fs₂))
  (Yi:PlainAttrs T) (slot:Slot T m id) (QE:typeOf (.builtin id)=pure (.type "method_descriptor"))
  (gR:∀{ρ:a5} {s:Shared} {v:Value},aK w CM K env J ρ s fs₁->cv w CM ρ s x v->s.TypeIs v T/\∃a ob,v=.ref a/\s.heap.get? a=some ob/\ob.dict=none)
  (h:∀{b8:a5} {ct:Shared} {e9:Value} {bf:List Value},aK w CM K env J b8 ct fs₂->eP w CM ρ b8 ct fs₂ r e9->a8 w CM b8 vs bf->wpAny (model aw w) A (call (.builtin id) (e9::bf)) (b3 w CM K env J b8 ct fs₂ r' fs₃) cc ct)
  (I:aK w CM K env J ρ s fs):
  wpAny (model aw w) A (eval (.Call (.Attribute o m h3) args [] pos) env) (b3 w CM K env J ρ s fs r' fs₃) cc s:=by
 refine xk eA he bC (BU S im) (S.eV la I fun e9 aj aN aZ a0 bv aP=> ?_)
 refine cl (gR aZ (hT aZ aP bZ)) ?_;intro nU t
 refine dP t ?_;clear t;intro a ob e oC o0
 refine getMethod_builtin nU Yi slot QE (fun b cg=>by refine bu (Value.ref.inj (e.symm.trans cg)) ?_;exact⟨ob,oC,o0⟩) ?_
 refine BG S im aZ fun bf ct P=> ?_
 refine gm P ?_;clear P;intro b8 cN b9 dG ay
 exact iF (a0.trans b9) (bv.trans dG) (h cN (aP.bt b9 dG) ay)
theorem Gc {l:List (al×H)} {v:Value} (I:aK w CM K env J ρ s fs) (h:cv w CM ρ s (.V l) v):s.TypeIs v "dict"/\∃a ob,v=.ref a/\s.heap.get? a=some ob/\ob.dict=none:=by
 refine gv (h.V I.base) ?_;intro a aS u;subst u;intro aL M O
 refine⟨M.typeIs,a,?_⟩
 refine dH M ?_;clear M;intro ob es cr ak ar _
 exact⟨ob,rfl,ak,ar.2.1⟩
theorem xC {l:List H} {v:Value} (I:aK w CM K env J ρ s fs) (h:cv w CM ρ s (.am l) v):s.TypeIs v "list"/\∃a ob,v=.ref a/\s.heap.get? a=some ob/\ob.dict=none:=by
 refine dH (h.am I.base) ?_;intro a vs n u;subst u;intro M O
 exact⟨⟨_,M,rfl⟩,a,_,rfl,M,rfl⟩
theorem Af {l:List (al×H)} {aS:List (al×Value)} {k:al} {d:H} {mb:Value} (O:dV w CM ρ l aS) (hd:bX w CM ρ d mb):bX w CM ρ ((a9 k l).getD d) ((valueAt aS k).getD mb):=by
 have:=O.gk (k:=k)
 cases e:a9 k l with
 |some x=>replace this:=e▸this;exact this.elim fun u z=>by refine B z.1 ?_;exact z.2
 |none=>replace this:=e▸this;refine B this ?_;exact hd
theorem PB {l:List (al×H)} {k:al} {eI:H} {d:Option H} {e9:Value} {bf:List Value} (ag:gf eI=some k) (I:aK w CM K env J ρ s fs) (h:cv w CM ρ s (.V l) e9) (ay:a8 w CM ρ (eI::d.toList) bf):
  wpAny (model aw w) A (call (.builtin "dict.get") (e9::bf)) (b3 w CM K env J ρ s fs (.U ((a9 k l).getD (d.getD .none))) fs) cc s:=by
 refine gv (h.V I.base) ?_;intro a aS u;subst u;intro aL M O
 refine dP ay ?_;clear ay;intro v t u;subst u;intro hN iv
 have hm:iy k v=true:=cv.key (s:=s) (.ga hN) ag
 cases d with
 |none=>
  refine B (show t=[] from iv) ?_
  exact call_meetsIn F.slot_dict_get M.typeIs F.entry_dict_get (F.args_dict_get_2 _ _) (meets_dict_get (kk w) a hm aL) ⟨_,M.mapOf,ew I (Af O rfl)⟩
 |some d=>
  refine dP iv ?_;clear iv;intro u dW e iv wG
  (refine B e ?_;refine B (show dW=[] from wG) ?_)
  exact call_meetsIn F.slot_dict_get M.typeIs F.entry_dict_get (F.args_dict_get_3 _ _ _) (meets_dict_get_default (kk w) a hm aL u) ⟨_,M.mapOf,ew I (Af O iv)⟩
theorem dV.Me (l:List (al×H)):∀{aS:List (al×Value)} {k:al},dV w CM ρ l aS->(aS.map (·.1)).Nodup->dV w CM ρ (hZ k l) (PySem.without aS k):=by
 induction l with
 |nil=>intro aS k h _;refine B (show aS=[] from h) ?_;rfl
 |cons p r ih=>
  intro aS k h aE
  refine dP h ?_;clear h;intro v t u O Y;subst u
  refine cl (List.nodup_cons.mp aE) ?_;intro kI kL
  by_cases e:k=p.1
  ·refine B (show hZ k (p::r)=r from if_pos e) ?_
   have:PySem.without ((p.1,v)::t) k=t:=by
    show List.filter _ _=_
    (refine B (List.filter_cons_of_neg (by rw [e];simp)) ?_;refine B e ?_)
    exact without_of_not_mem t _ kI
   refine B this ?_;exact Y
  ·refine B (show hZ k (p::r)=p::hZ k r from if_neg e) ?_
   have:PySem.without ((p.1,v)::t) k=(p.1,v)::PySem.without t k:=by
    show List.filter _ _=_
    refine B (List.filter_cons_of_pos (by simpa using fun q:p.1=k=>e q.symm)) ?_;rfl
   refine B this ?_
   exact⟨v,_,rfl,O,ih Y kL⟩
theorem IE (l:List (al×H)):∀{k:al},a9 k l=none->hZ k l=l:=by
 induction l with
 |nil=>intro k _;rfl
 |cons p r ih=>
  intro k h
  by_cases e:k=p.1
  ·exact ii ((if_pos e).symm.trans h)
  ·exact(if_neg e).trans (congrArg (p:: ·) (ih ((if_neg e).symm.trans h)))
theorem Fx {k:al} {v:Value} (h:iy k v=true):(keyPart v).isSome=true:=by
 cases k with
 |int i=>obtain⟨t,rfl⟩:=jN h;rfl
 |str x=>obtain⟨t,rfl⟩:=jI h;rfl
theorem P1 {x:Str} {l:List (al×H)} {k:al} {eI:H} {e9:Value} {bf:List Value} (ag:gf eI=some k) (hz:l.length<=a4) (bi:Mine.getL x fs.loc=some (.aD (.V l))) (I:aK w CM K env J ρ s fs)
  (aP:eP w CM ρ₀ ρ s fs (.var x) e9) (ay:a8 w CM ρ [eI,.none] bf):
  wpAny (model aw w) A (call (.builtin "dict.pop") (e9::bf)) (b3 w CM K env J ρ s fs (.U ((a9 k l).getD .none)) {fs with loc:=bY x (.aD (.V (hZ k l))) fs.loc}) cc s:=by
 obtain⟨a,rfl,bA,ob,es,cr,aS,aL,ak,ar,bQ,cX,dn,fg,jM⟩:=aP.r9 I bi
 refine dP ay ?_;clear ay;intro v t u hN iv;subst u
 refine dP iv ?_;clear iv;intro u dW e iv wG
 (refine B e ?_;refine B (show dW=[] from wG) ?_;refine B (show u=.none from iv) ?_)
 clear e
 have hm:iy k v=true:=cv.key (s:=s) (.ga hN) ag
 have dQ:s.heap.DictOf (kk w) a aS:=⟨ob,es,cr,ak,ar,bQ,cX,dn,fg⟩
 have:=jM.gk (k:=k)
 cases e:a9 k l with
 |some y=>
  replace this:=e▸this
  refine bb this ?_;clear this;intro u Y aC
  refine call_meetsIn F.slot_dict_pop dQ.typeIs F.entry_dict_pop (F.args_dict_pop_3 _ _ _) (meets_dict_pop_there (kk w) a hm [.none] (.inr ⟨_,rfl⟩) (Fx hm)) ⟨aS,u,dQ,by refine B jM.length ?_;exact Nat.le_trans hz jb,Y,fun h' rj fD=> ?_⟩
  refine qC rj ?_;clear rj;intro hC d2 vx d9 fO hG kC pm q1
  refine ef (I.p8 (tk:=s.toks+1) bA bi fD (c':=.V (hZ k l)) ⟨hC,d2,vx,_,aL,d9,fO,hG,kC,pm,q1,dV.Me l jM fg⟩) ?_;intro hg e5 g1
  exact⟨ρ,hg,e5,g1,aC⟩
 |none=>
  replace this:=e▸this
  refine call_meetsIn F.slot_dict_pop dQ.typeIs F.entry_dict_pop (F.args_dict_pop_3 _ _ _) (meets_dict_pop_default (kk w) a hm aL (Fx hm) .none) ⟨aS,dQ,this,?_⟩
  refine ef (I.p8 (tk:=s.toks+1) (h':=s.heap) bA bi (Heap.SameBut.refl ..) (c':=.V (hZ k l)) ⟨ob,es,cr,_,aL,ak,ar,bQ,cX,dn,fg,by refine B (IE l e) ?_;exact jM⟩) ?_;intro hg e5 g1
  exact⟨ρ,hg,e5,g1,rfl⟩
theorem H0 {x:Str} {l:List H} {v:H} {e9:Value} {bf:List Value} (hz:l.length<=a4) (bi:Mine.getL x fs.loc=some (.aD (.am l))) (I:aK w CM K env J ρ s fs)
  (aP:eP w CM ρ₀ ρ s fs (.var x) e9) (ay:a8 w CM ρ [v] bf):
  wpAny (model aw w) A (call (.builtin "list.append") (e9::bf)) (b3 w CM K env J ρ s fs (.U .none) {fs with loc:=bY x (.aD (.am (l++[v]))) fs.loc}) cc s:=by
 obtain⟨a,rfl,bA,vs,n,M,O⟩:=aP.r9 I bi
 refine dP ay ?_;clear ay;intro u t u;subst u;intro hN iv
 refine B (show t=[] from iv) ?_
 have bC:=O.length
 refine call_meets F.slot_list_append ⟨_,M,rfl⟩ F.entry_list_append (F.args_list_append_2 _ _) (list_append a (Array.mk vs) n u (by simp only [List.size_toArray];refine B bC ?_;exact Nat.le_trans hz jb)) ⟨M,?_⟩
 obtain⟨hg,e5,g1⟩:=I.p8 (tk:=s.toks) bA bi (Heap.SameBut.update s.heap a (Obj.mapSeq fun y=>y.push u)) (c':=.am (l++[v])) ⟨vs++[u],n+1,by
  have:=get?_update_seq M (fun y=>y.push u)
  simpa using this,O.append (a8.cons hN a8.nil)⟩
 exact⟨ρ,hg,e5,g1,rfl⟩
theorem a8.dropLast (l:List H):∀{vs:List Value},a8 w CM ρ l vs->a8 w CM ρ l.dropLast vs.dropLast:=by
 induction l with
 |nil=>intro vs h;refine B (show vs=[] from h) ?_;exact a8.nil
 |cons x r ih=>
  intro vs h
  refine dP h ?_;clear h;intro v t u O Y;subst u
  cases r with
  |nil=>refine B (show t=[] from Y) ?_;exact a8.nil
  |cons b r=>
   have z:=ih Y
   refine dP Y ?_;clear Y;intro eZ dW u bR dK;subst u
   exact a8.cons O z
theorem a8.SW {l:List H} {vs:List Value} {x:H} (h:a8 w CM ρ l vs) (e:l.getLast? =some x):∃v,vs[vs.length-1]? =some v/\bX w CM ρ x v:=by
 replace e:=List.getLast?_eq_getElem?▸e
 refine B h.length ?_
 exact h.gk e
theorem OF {x:Str} {l:List H} {v:H} {e9:Value} (aq:l.getLast? =some v) (hz:l.length<=a4) (bi:Mine.getL x fs.loc=some (.aD (.am l))) (I:aK w CM K env J ρ s fs)
  (aP:eP w CM ρ₀ ρ s fs (.var x) e9):
  wpAny (model aw w) A (call (.builtin "list.pop") [e9]) (b3 w CM K env J ρ s fs (.U v) {fs with loc:=bY x (.aD (.am l.dropLast)) fs.loc}) cc s:=by
 obtain⟨a,rfl,bA,vs,n,M,O⟩:=aP.r9 I bi
 refine bb (O.SW aq) ?_;intro y aQ Ss
 have bC:=O.length
 have wd:(Array.mk vs)[(Array.mk vs).size-1]? =some y:=by simpa using aQ
 have me:0<vs.length:=by
  rcases Nat.eq_zero_or_pos vs.length with h|h
  ·rw [List.getElem?_eq_none (by exact JF h)] at aQ;exact Z aQ
  ·exact h
 refine call_meets F.slot_list_pop ⟨_,M,rfl⟩ F.entry_list_pop (F.args_list_pop_1 _) (PySem.MeetsSeq.list_pop_last a (Array.mk vs) n y wd (by simp only [List.size_toArray];refine B bC ?_;exact Nat.le_trans hz jb)) ⟨M,?_⟩
 have iz:=get?_update_seq M (fun xs=>xs.eraseIdxIfInBounds ((Array.mk vs).size-1))
 have ak:((Array.mk vs).eraseIdxIfInBounds ((Array.mk vs).size-1))=Array.mk vs.dropLast:=by
  unfold Array.eraseIdxIfInBounds
  refine B (dif_pos (by simp;exact UK me)) ?_
  apply Array.toList_inj.mp
  refine B Array.toList_eraseIdx ?_
  simp only [List.size_toArray]
  exact List.eraseIdx_eq_dropLast (by exact Po me)
 obtain⟨hg,e5,g1⟩:=I.p8 (tk:=s.toks) bA bi (Heap.SameBut.update s.heap a (Obj.mapSeq fun xs=>xs.eraseIdxIfInBounds ((Array.mk vs).size-1))) (c':=.am l.dropLast) ⟨vs.dropLast,_,by
  (refine B iz ?_;refine B ak ?_;rfl),a8.dropLast l O⟩
 exact⟨ρ,hg,e5,g1,Ss⟩
theorem VW {x:H} (l:List H):∀{j:Nat},Mine.mH x l=some j->(∃y,l[j]? =some y/\eO eK y x=some true)/\∀m y,m<j->l[m]? =some y->eO eK y x=some false:=by
 induction l with
 |nil=>intro j q;exact Z q
 |cons y r ih=>
  intro j q
  refine bG q (fun b h q=> ?_) Z
  cases b with
  |true=>exact cF (show some 0=some j from q) ⟨⟨y,rfl,h⟩,fun m z aY=>absurd aY (Nat.not_lt_zero _)⟩
  |false=>
   refine bG (show br (Mine.mH x r) (fun n=>some (n+1))=some j from q) (fun i aR q=>cF q ?_) Z
   refine⟨(ih aR).1,fun m u aY b2=> ?_⟩
   cases m with
   |zero=>refine bu (Option.some.inj b2) ?_;exact h
   |succ m=>exact(ih aR).2 m u (Nat.lt_of_succ_lt_succ aY) b2
open Classical in
theorem Pf {l:List H} {eS:H} {j:Nat} {e9:Value} {bf:List Value} (b2:A.units+40<cLine) (hz:l.length<=a4) (tA:l.all (fun y=>mB y&&(eO eK y eS).isSome)=true) (bF:Mine.mH eS l=some j) (I:aK w CM K env J ρ s fs) (h:cv w CM ρ s (.am l) e9) (ay:a8 w CM ρ [eS] bf):
  wpAny (model aw w) A (call (.builtin "list.index") (e9::bf)) (b3 w CM K env J ρ s fs (.U (.int j)) fs) cc s:=by
 refine dH (h.am I.base) ?_;intro a vs n u;subst u;intro M O
 refine dP ay ?_;clear ay;intro Ol t u;subst u;intro hN iv
 refine B (show t=[] from iv) ?_
 refine cl (VW l bF) ?_;intro aQ gI
 refine bb aQ ?_;clear aQ;intro y qU wd
 have bC:=O.length
 have cy:j<vs.length:=by
  rcases Nat.lt_or_ge j l.length with h|h
  ·refine B bC ?_;exact h
  ·replace qU:=(List.getElem?_eq_none h)▸qU;exact Z qU
 have l1:∀(m:Nat) (y:H) (v:Value),l[m]? =some y->vs[m]? =some v->bX w CM ρ y v:=fun m y v ak ar=>by
  refine bb (O.gk ak) ?_;intro eZ bQ cX
  replace bQ:=ar▸bQ;cases bQ;exact cX
 have EF:∀(m:Nat) (y:H),l[m]? =some y->mB y=true:=fun m y e=>(Bool.and_eq_true_iff.mp (List.all_eq_true.mp tA _ (List.mem_of_getElem? e))).1
 have OQ:∀(m k6:Nat) (y g9:H) (v:Value),l[m]? =some y->l[k6]? =some g9->vs[m]? =some v->vs[k6]? =some v->∀{b gh},eO eK y eS=some b->eO eK g9 eS=some gh->b=gh:=fun m k6 y g9 v ak ar bQ cX {b gh} q cI=>
  Option.some.inj (q.symm.trans (UL (EF m y ak) (EF k6 g9 ar) (l1 m y v ak bQ) (l1 k6 g9 v ar cX)▸cI))
 let e:Value->Bool:=fun v=>decide (∃(m:Nat) (y:H),l[m]? =some y/\vs[m]? =some v/\eO eK y eS=some true)
 have fy:∀(m:Nat) y v b,l[m]? =some y->vs[m]? =some v->eO eK y eS=some b->e v=b:=fun m y v b ak ar q=>by
  cases b with
  |true=>exact decide_eq_true ⟨m,y,ak,ar,q⟩
  |false=>
   refine decide_eq_false ?_
   rintro ⟨k6,g9,bQ,cX,cI⟩
   have:=OQ m k6 y g9 v ak bQ ar cX q cI
   cases this
 have pR:∀m (aY:m<(Array.mk vs).size),∃y v b,l[m]? =some y/\vs[m]? =some v/\(Array.mk vs)[m]=v/\eO eK y eS=some b:=fun m aY=>by
  have nf:m<vs.length:=by simpa using aY
  have tv:m<l.length:=by refine bu bC ?_;exact nf
  have:=(Bool.and_eq_true_iff.mp (List.all_eq_true.mp tA _ (List.getElem_mem tv))).2
  refine bS (Option.isSome_iff_exists.mp this) ?_;intro b ah
  exact⟨_,_,b,List.getElem?_eq_getElem tv,List.getElem?_eq_getElem nf,by simp,ah⟩
 refine call_meets F.slot_list_index ⟨_,M,rfl⟩ F.entry_list_index (F.args_list_index_2 _ _) (PySem.SeqAt.list_indexAt a (Array.mk vs) n none #[] Ol e j (by simpa using cy) (by unfold a4 at hz;exact Jz hz bC cy) ?_ (fun m aY RY=> ?_)) ⟨M,fun v KU=> ?_,ew I ⟨_,rfl⟩⟩
 ·refine oL (pR j (by simpa using cy)) ?_;intro g9 v b bH b7 c7 fm
  refine B c7 ?_
  replace bH:=qU▸bH;cases(bH)
  exact fy j y v true qU b7 wd
 ·refine oL (pR m aY) ?_;intro g9 v b bH b7 c7 fm
  refine B c7 ?_
  exact fy m g9 v false bH b7 (gI m g9 RY bH)
 ·obtain⟨m,aY,ak⟩:=Array.mem_iff_getElem.mp KU
  refine oL (pR m aY) ?_;intro g9 eZ b bH b7 c7 fm
  have:eZ=v:=c7.symm.trans ak
  subst this
  refine B (fy m g9 eZ b bH b7 fm) ?_
  exact wv I.base eK (by simp only [Around.in1_units];unfold eK;exact Tb b2) (l1 m g9 eZ bH b7) hN fm
theorem VM (bn:uq CM bj F) (bz:K.f=F) {k:Nat} {C:cs} (c4:gM w CM bj F k C) (bc:ek K k A) (S:cB w CM K env J A R) {o:Expr} {m:Str} {h3 pos:Pos} {args:List Expr} {r r':aU} {fs₃:X}
  (eA:kx o=true) (he:(h3.endLine==pos.line)=true) (bC:args.length<30) (la:R.ba o fs=some (r,fs₁)) (q:iD C R m r args fs₁=some (r',fs₃)) (I:aK w CM K env J ρ s fs):
  wpAny (model aw w) A (eval (.Call (.Attribute o m h3) args [] pos) env) (b3 w CM K env J ρ s fs r' fs₃) cc s:=by
 refine bG q (fun dd M q=> ?_) Z
 cases dd with
 |dS c l=>exact cK q (fun Y q=>bG q (fun f O q=>b5 q (fun self j4 aC q=>b5 q (fun vs fs₂ bR q=>x7 q (fun uz per dK q=>b6 q (WY bn bz c4 bc S eA he bC la M O (Option.isNone_iff_eq_none.mp Y) aC bR dK I)) Z) Z) Z) Z) Z
 |V l=>
  refine hn q (fun aY q=> ?_) fun _ q=>cK q (fun aY q=> ?_) Z
  ·refine B aY ?_
   refine b5 q (fun vs fs₂ bR q=>b5 q (fun k d hd q=>hH q (fun l₂ pA dK f3 q=>b6 q ?_) Z) Z) Z
   exact se S eA he bC la M bR PySem.F.plainAttrs_dict PySem.F.slot_dict_get PySem.F.type_dict_get (fun I h=>Gc I h) (fun I aP ay=>PB f3 I (hT I aP (DK dK)) (DG hd▸ay)) I
  ·refine B aY ?_
   refine bG q (fun x ae q=>b5 q (fun vs fs₂ bR q=>b5 q (fun k d hd q=>hH q (fun l₂ pA dK f3 q=>cK q (fun hz q=>b6 q ?_) Z) Z) Z) Z) Z
   have hz:=Bool.and_eq_true_iff.mp hz
   have e:=DG hd
   replace e:=(SZ hz.1)▸e
   exact se S eA he bC la M bR PySem.F.plainAttrs_dict PySem.F.slot_dict_pop PySem.F.type_dict_pop (fun I h=>Gc I h) (fun I aP ay=>P1 f3 (of_decide_eq_true hz.2) (od (DK dK)) I (zb ae▸aP) (e▸ay)) I
 |am l=>
  refine hn q (fun aY q=> ?_) fun _ q=>hn q (fun aY q=> ?_) fun _ q=>cK q (fun aY q=> ?_) Z
  ·refine B aY ?_
   refine bG q (fun x ae q=>b5 q (fun vs fs₂ bR q=>hH q (fun v l₂ hN dK q=>cK q (fun hz q=>b6 q ?_) Z) Z) Z) Z
   exact se S eA he bC la M bR PySem.F.plainAttrs_list PySem.F.slot_list_append PySem.F.type_list_append (fun I h=>xC I h) (fun I aP ay=>H0 hz (od (vj dK)) I (zb ae▸aP) (xA hN▸ay)) I
  ·refine B aY ?_
   refine bG q (fun x ae q=>bG q (fun l₂ dK q=>bG q (fun v aq q=>cK q (fun hz q=>b6 q ?_) Z) Z) Z) Z
   have hz:=Bool.and_eq_true_iff.mp hz
   rw [List.isEmpty_iff.mp hz.1] at bC|-
   refine se S eA he bC la M (vs:=[]) (fs₂:=fs₁) rfl PySem.F.plainAttrs_list PySem.F.slot_list_pop PySem.F.type_list_pop (fun I h=>xC I h) (fun I aP ay=> ?_) I
   refine B (show _=[] from ay) ?_
   exact OF aq (of_decide_eq_true hz.2) (od (vj dK)) I (zb ae▸aP)
  ·refine B aY ?_
   refine b5 q (fun vs fs₂ bR q=>hH q (fun v l₂ hN dK q=>cK q (fun hz q=>bG q (fun i aR q=>b6 q ?_) Z) Z) Z) Z
   have hz:=Bool.and_eq_true_iff.mp hz
   exact se S eA he bC la M bR PySem.F.plainAttrs_list PySem.F.slot_list_index PySem.F.type_list_index (fun I h=>xC I h) (fun I aP ay=>Pf (by have:=bc.units;exact Kx this) (of_decide_eq_true hz.1) hz.2 aR I (hT I aP (vj dK)) (xA hN▸ay)) I
 |_=>exact Z q
end
end Mine
end
section
open PySem PySem.W PySem.Calls PyProof.Rows
namespace Mine
section
variable{w:World} {CM:cn} {bj:dM} {F:Frag} {K:Top} {env:Env} {J:Scope} {A:Around} {E:Value->Shared->Prop} {ρ ρ₀ aT ρ':a5} {s c9 a7 az:Shared} {fs fs' fs₁:X} {R:bk}
theorem aK.o1 {l:List (Str×cf)} (I:aK w CM K env J ρ s fs) (h:∀y,Mine.getL y l=Mine.getL y fs.loc):aK w CM K env J ρ s {fs with loc:=l}:=
 ⟨I.base,I.c0,I.cJ,I.fC,fun y bh e=>I.eW y bh ((h y).symm.trans e),I.cells,I.frees,I.apart,fun a y e=>let⟨aL,c,M,O⟩:=I.e0 a y e;⟨aL,c,(h y).trans M,O⟩,I.fi⟩
open Classical in
noncomputable def fl (ρ:a5) (x:Str):a5:=fun a=>if ρ a=.aD x then .aV else ρ a
theorem qk {a:Addr} {x:Str} (h:ρ a≠.aD x):fl ρ x a=ρ a:=if_neg h
theorem oi {a:Addr} {x y:Str}:fl ρ x a=.aD y↔ρ a=.aD y/\y≠x:=by
 unfold fl
 by_cases e:ρ a=.aD x
 ·refine B (if_pos e) ?_
  exact⟨fun q=>cV.noConfusion q,fun q=>absurd (cV.aD.inj (q.1.symm.trans e)) q.2⟩
 ·refine B (if_neg e) ?_
  exact⟨fun q=>⟨q,fun cg=>e (by(refine B q ?_;refine B cg ?_;rfl))⟩,fun q=>q.1⟩
theorem aK.fl (I:aK w CM K env J ρ s fs) (x:Str):aK w CM K env J (fl ρ x) s {fs with loc:=jC x fs.loc}/\a2 ρ s (Mine.fl ρ x) s/\(∀a y,Mine.fl ρ x a=.aD y->ρ a=.aD y)/\∀a,Mine.fl ρ x a≠.aD x:=by
 have aB:∀a o,ρ a=.be o->Mine.fl ρ x a=.be o:=fun a o e=>(qk (bI e)).trans e
 have an:∀a o,ρ a=.per o->Mine.fl ρ x a=.per o:=fun a o e=>(qk (bI e)).trans e
 have hd:∀a,ρ a=.aV->Mine.fl ρ x a=.aV:=fun a e=>(qk (bI e)).trans e
 have aY:∀a,ρ a=.frame->Mine.fl ρ x a=.frame:=fun a e=>(qk (bI e)).trans e
 have hc:∀a,ρ a=.cell->Mine.fl ρ x a=.cell:=fun a e=>(qk (bI e)).trans e
 have hs:∀a,ρ a=.stack->Mine.fl ρ x a=.stack:=fun a e=>(qk (bI e)).trans e
 have ap:cH w CM K (Mine.fl ρ x) s fs.per:=I.base.pr fun a=>by
  unfold Mine.fl
  by_cases e:ρ a=.aD x
  ·(refine B (if_pos e) ?_;refine B e ?_);exact .inr ⟨trivial,trivial,fun h=>h.elim⟩
  ·exact .inl (if_neg e)
 refine⟨⟨ap,I.c0,aY _ I.cJ,I.fC,fun y bh e=> ?_,fun y e=> ?_,fun y c ak ar=>hd _ (I.frees y c ak ar),I.apart,fun a y e=> ?_,fun a b y ak ar=>I.fi a b y (oi.mp ak).1 (oi.mp ar).1⟩,
  ⟨aB,hd,an,aY,hc,hs,fun a y e=> ?_,fun _ _ _ e=>e,fun _ _ _ e=>⟨_,e⟩,⟨_,_,rfl⟩⟩,fun a y e=>(oi.mp e).1,fun a e=>(oi.mp e).2 rfl⟩
 ·by_cases q:y=x
  ·subst q;replace e:=rZ▸e;exact Z e
  ·replace e:=(qV q)▸e
   refine bb (I.eW y bh e) ?_;intro v M O
   refine⟨v,M,?_⟩
   cases bh with
   |U z=>exact bX.bt aB an O
   |aD z=>
    refine bb O ?_;clear O;intro a Y aC
    exact⟨a,Y,oi.mpr ⟨aC,q⟩⟩
 ·refine dP (I.cells y e) ?_;intro c v M O Y
  exact⟨c,v,M,hc _ O,Y⟩
 ·refine cl (oi.mp e) ?_;intro ak ar
  obtain⟨aL,c,M,O⟩:=I.e0 a y ak
  exact⟨aL,c,by refine B (qV ar) ?_;exact M,O.bt aB an fun _ e=>e⟩
 ·by_cases q:y=x
  ·subst q;right;left;unfold Mine.fl;(refine B (if_pos e) ?_;rfl)
  ·exact .inl (oi.mpr ⟨e,q⟩)
theorem aK.C1 {x:Str} {m:Str->Option Value} {val:Value} {h':Heap} {tk:Nat} (I:aK w CM K env J ρ s fs) (ae:J.names.lookup x=some .local) (gI:Mine.getL x fs.loc=none) (aY:s.heap.Ns env.locals m)
  (aE:h'.Ns env.locals fun y=>if y=x then some val else m y) (hs:Heap.SameBut env.locals s.heap h'):
  aK w CM K env J ρ {s with heap:=h',toks:=tk} fs/\a2 ρ s ρ {s with heap:=h',toks:=tk}/\e2 env J h' x val:=by
 have dO:=I.cJ
 have b1:∀{b:Addr},ρ b≠.frame->b≠env.locals:=fun h q=>h (by refine B q ?_;exact dO)
 have keep:∀b ob,ρ b≠.frame->s.heap.get? b=some ob->h'.get? b=some ob:=fun b ob h e=>(hs.2 b (b1 h)).trans e
 refine dH (id aE) ?_;intro us XO Oy qR yG YC
 have M5:=I.c0.loc x ae
 refine⟨⟨⟨I.base.fU,I.base.fz,fun b e=> ?_,fun b ob e=>keep b ob (bI e) (I.base.bK b ob e),fun b=> ?_,I.base.gq,fun b k e=> ?_,I.base.inj⟩,I.c0,I.cJ,⟨_,aE⟩,fun y bh e=> ?_,fun y e=> ?_,I.frees,I.apart,fun b y e=> ?_,I.fi⟩,
  ⟨fun _ _ e=>e,fun _ e=>e,fun _ _ e=>e,fun _ e=>e,fun _ e=>e,fun _ e=>e,fun _ _ e=>.inl e,fun b ob e q=>keep b ob (bI e) q,fun b ob e q=>⟨_,keep b ob (bI e) q⟩,⟨_,_,rfl⟩⟩,.inl ⟨ae,M5,_,aE,if_pos rfl⟩⟩
 ·obtain⟨M,o,O,Y⟩:=I.base.fq b e
  by_cases q:b=env.locals
  ·subst q;exact⟨M,us,qR,fun vs q=>by replace q:=yG▸q;cases q⟩
  ·exact⟨M,o,(hs.2 b q).trans O,Y⟩
 ·by_cases q:b=env.locals
  ·subst q;refine B dO ?_;exact⟨fun e=>(nomatch e),fun e=>by replace e:=(show h'.get? env.locals=some us from qR)▸e;exact ii e⟩
  ·show ρ b=.free↔h'.get? b=none
   refine B (hs.2 b q) ?_;exact I.base.c1 b
 ·refine bb (I.base.fS b k e) ?_;intro y M O
  exact⟨y,M,O.bt (fun _ _ q=>q) (fun _ _ q=>q) fun ob q=>keep b ob (bI e) q⟩
 ·have xg:y≠x:=fun q=>by(replace e:=q▸e;replace e:=gI▸e);exact Z e
  refine bb (I.eW y bh e) ?_;intro v M O
  refine⟨v,?_,O⟩
  rcases M with⟨bW,cC,k6,cY,dX⟩|⟨bW,cC,c,cY,dX⟩
  ·refine .inl ⟨bW,cC,_,aE,?_⟩
   refine oL cY ?_;clear cY;intro o es cr gp gE km nT
   refine oL aY ?_;clear aY;intro oF d2 vx rY rD Bz wE
   replace rY:=gp▸rY;cases rY
   replace rD:=gE▸rD;cases rD
   show(if y=x then some val else m y)=some v
   (refine B (if_neg xg) ?_;refine bu (wE y) ?_;refine B (nT y) ?_);exact dX
  ·refine .inr ⟨bW,cC,c,cY,dX.sameBut hs (b1 ?_)⟩
   rcases bW with bW|bW
   ·refine dP (I.cells y bW) ?_;intro c' eZ cT dE _
    replace cT:=cY▸cT;cases cT
    refine B dE ?_;nofun
   ·refine B (I.frees y c bW cY) ?_;nofun
 ·refine gv (I.cells y e) ?_;intro c v M O Y aC
  exact⟨c,v,M,O,Y,aC.sameBut hs Y⟩
 ·obtain⟨aL,c,M,O⟩:=I.e0 b y e
  exact⟨aL,c,M,O.bt (fun _ _ q=>q) (fun _ _ q=>q) fun ob q=>keep b ob (bI e) q⟩
theorem aK.wN {x:Str} {v:H} {val:Value} (I:aK w CM K env J ρ s fs) (gI:∀a,ρ a≠.aD x) (ay:e2 env J s.heap x val) (aP:bX w CM ρ v val):aK w CM K env J ρ s {fs with loc:=bY x (.U v) fs.loc}:=by
 refine⟨I.base,I.c0,I.cJ,I.fC,fun y bh e=> ?_,I.cells,I.frees,I.apart,fun a y e=> ?_,I.fi⟩
 ·by_cases q:y=x
  ·subst q;replace e:=kq▸e;cases e;exact⟨val,ay,aP⟩
  ·replace e:=(ik q)▸e;exact I.eW y bh e
 ·obtain⟨aL,c,M,O⟩:=I.e0 a y e
  exact⟨aL,c,(ik (fun q:y=x=>gI a (by refine bu q ?_;exact e))).trans M,O⟩
theorem aK.V6 {x:Str} {a:Addr} {v:H} (I:aK w CM K env J ρ s fs) (ae:J.names.lookup x=some .local) (gI:∀a,ρ a≠.aD x) (ay:e2 env J s.heap x (.ref a)) (bA:ρ a=.aV) (eE:∀x c,J.names.lookup x=some .free->env.cells.lookup x=some c->c≠a) (bx:dN w CM ρ s.heap a v):
  aK w CM K env J (cw ρ a (.aD x)) s {fs with loc:=bY x (.aD v) fs.loc}:=by
 have b1:∀{b:Addr},ρ b≠.aV->b≠a:=fun h q=>h (by refine B q ?_;exact bA)
 have aB:∀b o,ρ b=.be o->cw ρ a (.aD x) b=.be o:=fun b o e=>(bp (b1 (bI e))).trans e
 have an:∀b o,ρ b=.per o->cw ρ a (.aD x) b=.per o:=fun b o e=>(bp (b1 (bI e))).trans e
 have iE:∀b y,ρ b=.aD y->cw ρ a (.aD x) b=.aD y:=fun b y e=>(bp (b1 (bI e))).trans e
 have g2:∀b y,cw ρ a (.aD x) b=.aD y->(b=a/\y=x)\/(ρ b=.aD y/\y≠x):=fun b y e=>by
  by_cases q:b=a
  ·subst q;replace e:=dI▸e;cases e;exact .inl ⟨rfl,rfl⟩
  ·replace e:=(bp q)▸e;exact .inr ⟨e,fun cI=>gI b (cI▸e)⟩
 refine⟨I.base.pr fun b=> ?_,I.c0,(bp (b1 (bI I.cJ))).trans I.cJ,I.fC,fun y bh e=> ?_,fun y e=> ?_,fun y c ak ar=>(bp (eE y c ak ar)).trans (I.frees y c ak ar),I.apart,fun b y e=> ?_,fun b c y ak ar=> ?_⟩
 ·by_cases q:b=a
  ·subst q;(refine B dI ?_;refine B bA ?_);exact .inr ⟨trivial,trivial,fun h=>h.elim⟩
  ·exact .inl (bp q)
 ·by_cases q:y=x
  ·subst q;replace e:=kq▸e;cases e;exact⟨_,ay,a,rfl,dI⟩
  ·replace e:=(ik q)▸e
   refine bb (I.eW y bh e) ?_;intro v M O
   exact⟨v,M,O.bt aB an iE⟩
 ·refine dP (I.cells y e) ?_;intro c v M O Y
  exact⟨c,v,M,(bp (b1 (bI O))).trans O,Y⟩
 ·rcases g2 b y e with⟨rfl,rfl⟩|⟨ak,ar⟩
  ·exact⟨ae,v,kq,bx.bt aB an fun _ e=>e⟩
  ·obtain⟨aL,c,M,O⟩:=I.e0 b y ak
   exact⟨aL,c,by refine B (ik ar) ?_;exact M,O.bt aB an fun _ e=>e⟩
 ·rcases g2 b y ak with⟨rfl,rfl⟩|⟨bZ,bo⟩
  ·rcases g2 c y ar with⟨rfl,_⟩|⟨_,h1⟩
   ·rfl
   ·exact absurd rfl h1
  ·rcases g2 c y ar with⟨rfl,rfl⟩|⟨ee,_⟩
   ·exact absurd rfl bo
   ·exact I.fi b c y bZ ee
theorem aK.Fy {x:Str} {c:Addr} {val:Value} {h':Heap} {tk:Nat} (I:aK w CM K env J ρ s fs) (ae:J.names.lookup x=some .cell) (hc:env.cells.lookup x=some c) (gI:Mine.getL x fs.loc=none)
  (aE:h'.IsCell c (some val)) (hs:Heap.SameBut c s.heap h'):
  aK w CM K env J ρ {s with heap:=h',toks:=tk} fs/\a2 ρ s ρ {s with heap:=h',toks:=tk}/\e2 env J h' x val:=by
 refine gv (I.cells x ae) ?_;intro c' eZ gp gE km nT
 replace gp:=hc▸gp;cases(gp)
 have b1:∀{b:Addr},ρ b≠.cell->b≠c:=fun h q=>h (by refine B q ?_;exact gE)
 have keep:∀b ob,ρ b≠.cell->s.heap.get? b=some ob->h'.get? b=some ob:=fun b ob h e=>(hs.2 b (b1 h)).trans e
 refine bb (id aE) ?_;intro E4 lF MY
 refine⟨⟨⟨I.base.fU,I.base.fz,fun b e=> ?_,fun b ob e=>keep b ob (bI e) (I.base.bK b ob e),fun b=> ?_,I.base.gq,fun b k e=> ?_,I.base.inj⟩,I.c0,I.cJ,let⟨m,e⟩:=I.fC;⟨m,e.sameBut hs (b1 (bI I.cJ))⟩,fun y bh e=> ?_,fun y e=> ?_,I.frees,I.apart,fun b y e=> ?_,I.fi⟩,
  ⟨fun _ _ e=>e,fun _ e=>e,fun _ _ e=>e,fun _ e=>e,fun _ e=>e,fun _ e=>e,fun _ _ e=>.inl e,fun b ob e q=>keep b ob (bI e) q,fun b ob e q=>⟨_,keep b ob (bI e) q⟩,⟨_,_,rfl⟩⟩,.inr ⟨.inl ae,I.c0.fc x ae,c,hc,aE⟩⟩
 ·obtain⟨M,o,O,Y⟩:=I.base.fq b e
  exact⟨M,o,keep b o (fun q=>by replace M:=q▸M;exact M) O,Y⟩
 ·by_cases q:b=c
  ·subst q;refine B gE ?_;exact⟨fun e=>(nomatch e),fun e=>by replace e:=(show h'.get? b=some E4 from lF)▸e;exact ii e⟩
  ·show ρ b=.free↔h'.get? b=none
   refine B (hs.2 b q) ?_;exact I.base.c1 b
 ·refine bb (I.base.fS b k e) ?_;intro y M O
  exact⟨y,M,O.bt (fun _ _ q=>q) (fun _ _ q=>q) fun ob q=>keep b ob (bI e) q⟩
 ·have xg:y≠x:=fun q=>by(replace e:=q▸e;replace e:=gI▸e);exact Z e
  refine bb (I.eW y bh e) ?_;intro v M O
  refine⟨v,?_,O⟩
  rcases M with⟨bW,cC,k6,cY,dX⟩|⟨bW,cC,d,cY,dX⟩
  ·exact .inl ⟨bW,cC,k6,cY.sameBut hs (b1 (bI I.cJ)),dX⟩
  ·exact .inr ⟨bW,cC,d,cY,dX.sameBut hs (fun q=>xg (I.apart y x c (q▸cY) hc))⟩
 ·refine gv (I.cells y e) ?_;intro d v M O Y aC
  by_cases q:d=c
  ·subst q
   exact⟨d,some val,M,O,Y,aE⟩
  ·exact⟨d,v,M,O,Y,aC.sameBut hs q⟩
 ·obtain⟨aL,c',M,O⟩:=I.e0 b y e
  exact⟨aL,c',M,O.bt (fun _ _ q=>q) (fun _ _ q=>q) fun ob q=>keep b ob (bI e) q⟩
theorem tl {x y:Str} {v:cf} {l:List (Str×cf)}:Mine.getL y (bY x v l)=Mine.getL y (bY x v (jC x l)):=by
 by_cases q:y=x
 ·subst q;(refine B kq ?_;refine B kq ?_;rfl)
 ·(refine B (ik q) ?_;refine B (ik q) ?_;refine B (qV q) ?_;rfl)
theorem nP.plain (h:nP env J):(env.scope.kind==.class||(env.scope.kind==.module&&env.locals !=env.globals))=false:=by refine B h.kind ?_;rfl
theorem q4 {x:Str} {y:H} {v:Value} {Q:Unit->Shared->Prop} (q:eQ J x (.U y) fs=some fs') (I:aK w CM K env J ρ s fs) (aP:bX w CM ρ y v)
  (h:∀ρ' h' tk,aK w CM K env J ρ' {s with heap:=h',toks:=tk} fs'->a2 ρ s ρ' {s with heap:=h',toks:=tk}->(∀a y,ρ' a=.aD y->ρ a=.aD y)->(∀b ob,b≠env.locals->ρ b≠.cell->s.heap.get? b=some ob->h'.get? b=some ob)->Q () {s with heap:=h',toks:=tk}):
  wpAny (model aw w) A (storeName env x v) Q E s:=by
 refine nO (I.fl x) ?_;intro jG el cT hk
 have gI:Mine.getL x (jC x fs.loc)=none:=rZ
 refine xB q (fun ae q=> ?_) (fun ae q=> ?_)<;>(have q:=Option.some.inj (show some _=some fs' from q);subst q)
 ·refine bS I.fC ?_;intro m aY
  refine wpAny_storeName_local (I.c0.loc x ae) aY (fun h' aE hs=> ?_) I.c0.plain
  refine ef (jG.C1 (tk:=s.toks+1) ae gI aY aE hs) ?_;intro kD l5 ay
  have ny:=kD.wN (v:=y) hk ay (bX.bt (fun a o e=>el.bK a o e) (fun a o e=>el.per a o e) aP)
  exact h _ h' _ (ny.o1 fun z=>tl) (el.trans l5) cT fun b ob ah _ e=>(hs.2 b ah).trans e
 ·refine gv (I.cells x ae) ?_;intro c RC mu n9 KM zp
  refine wpAny_storeName_cell I.c0.kind (I.c0.fc x ae) mu zp fun h' aE hs=> ?_
  refine ef (jG.Fy (tk:=s.toks) ae mu gI aE hs) ?_;intro kD l5 ay
  have ny:=kD.wN (v:=y) hk ay (bX.bt (fun a o e=>el.bK a o e) (fun a o e=>el.per a o e) aP)
  exact h _ h' _ (ny.o1 fun z=>tl) (el.trans l5) cT fun b ob _ ah e=>(hs.2 b (fun q=>ah (by refine B q ?_;exact n9))).trans e
theorem GD {x:Str} {r:aU} {v:Value} {Q:Unit->Shared->Prop} (q:eQ J x r fs=some fs') (I:aK w CM K env J ρ s fs) (aP:eP w CM ρ₀ ρ s fs r v) (aL:∀a,ρ₀ a=.free->∀x c,J.names.lookup x=some .free->env.cells.lookup x=some c->c≠a)
  (h:∀ρ' h' tk,aK w CM K env J ρ' {s with heap:=h',toks:=tk} fs'->a2 ρ s ρ' {s with heap:=h',toks:=tk}\/(∀a7,a2 ρ₀ a7 ρ s->a2 ρ₀ a7 ρ' {s with heap:=h',toks:=tk})->(∀a y,ρ' a=.aD y->ρ a=.aD y\/ρ₀ a=.free)->(∀a ob,ρ a=.aV->s.heap.get? a=some ob->h'.get? a=some ob)->(∀a,ρ a=.aV->v≠.ref a->ρ' a=.aV)->Q () {s with heap:=h',toks:=tk}):
  wpAny (model aw w) A (storeName env x v) Q E s:=by
 cases r with
 |var y=>exact xB q (fun _ q=>Z q) fun _ q=>Z q
 |U y=>exact q4 q I aP fun ρ' h' tk hg e5 b _=>h ρ' h' tk hg (.inl e5) (fun a z e=>.inl (b a z e)) e5.keep fun a e _=>e5.aV a e
 |own y=>
  refine nO (I.fl x) ?_;intro jG el cT hk
  have gI:Mine.getL x (jC x fs.loc)=none:=rZ
  refine gm aP ?_;clear aP;intro a u;subst u;intro rr pG Gm
  have bA:Mine.fl ρ x a=.aV:=el.aV a pG
  have g2:∀{b:Addr} {z:Str} {r:cV},cw (Mine.fl ρ x) a r b=.aD z->ρ b=.aD z\/ρ₀ b=.free:=fun{b z r} e=>by
   by_cases q:b=a
   ·exact .inr (q▸rr)
   ·replace e:=(bp q)▸e;exact .inl (cT b z e)
  have aV:∀{b:Addr} {r:cV},ρ b=.aV->b≠a->cw (Mine.fl ρ x) a r b=.aV:=fun e ah=>(bp ah).trans (el.aV _ e)
  refine xB q (fun ae q=> ?_) (fun ae q=> ?_)<;>(have q:=Option.some.inj (show some _=some fs' from q);subst q)
  ·refine bS I.fC ?_;intro m aY
   refine wpAny_storeName_local (I.c0.loc x ae) aY (fun h' aE hs=> ?_) I.c0.plain
   refine ef (jG.C1 (tk:=s.toks+1) ae gI aY aE hs) ?_;intro kD l5 ay
   have fy:dN w CM (Mine.fl ρ x) h' a y:=Gm.bt el.bK el.per fun ob e=>(hs.2 a (d6 pG I.cJ)).trans e
   have ny:=kD.V6 ae hk ay bA (aL a rr) fy
   exact h _ h' _ (ny.o1 fun z=>tl) (.inr fun a7 av=>(av.trans (el.trans l5)).kF rr) (fun b z e=>g2 e) (el.trans l5).keep fun b e ah=>aV e (fun q=>ah (by(refine B q ?_;rfl)))
  ·refine gv (I.cells x ae) ?_;intro c RC mu n9 KM zp
   refine wpAny_storeName_cell I.c0.kind (I.c0.fc x ae) mu zp fun h' aE hs=> ?_
   refine ef (jG.Fy (tk:=s.toks) ae mu gI aE hs) ?_;intro kD l5 ay
   have fy:dN w CM (Mine.fl ρ x) h' a y:=Gm.bt el.bK el.per fun ob e=>(hs.2 a (d6 pG n9)).trans e
   have Lp:=(kD.mC bA (aL a rr) fy).wN (x:=x) (v:=.per fs.per.length) (fun b e=>by
    by_cases q:b=a
    ·(replace e:=q▸e;replace e:=dI▸e);exact cV.noConfusion e
    ·replace e:=(bp q)▸e;exact hk b e) ay ⟨a,rfl,dI⟩
   exact h _ h' _ (Lp.o1 fun z=>tl) (.inr fun a7 av=>(av.trans (el.trans l5)).kF rr) (fun b z e=>g2 e) (el.trans l5).keep fun b e ah=>aV e (fun q=>ah (by(refine B q ?_;rfl)))
end
end Mine
end
section
open PySem PySem.W PySem.Calls PyProof.Rows
namespace Mine
section
variable{w:World} {CM:cn} {bj:dM} {F:Frag} {K:Top} {env:Env} {J:Scope} {A:Around} {E:Value->Shared->Prop} {ρ ρ₀ aT ρ':a5} {s c9 a7 az:Shared} {fs fs' fs₁:X} {R:bk}
structure nh (w:World) (CM:cn) (A:Around) (ρ:a5) (s:Shared) (items:List H) (o:Obj) (fh:List Addr) (P:Nat->Value->Prop) (cA:Nat->Heap->Prop):Prop where
 ku:Walks aw w A s.heap.objs.size fh [s.heap.objs.size] items.length P cA
 e7:o.isFreed=false
 uE:∀i h,cA i h->∃ob,h.get? s.heap.objs.size=some ob
 ao:cA 0 (s.heap.push o)
 foot:∀b∈fh,b≠s.heap.objs.size->∃ob,ρ b=.be ob
 bf:∀i v,i<items.length->P i v->∃x,items[i]? =some x/\bX w CM ρ x v
noncomputable def j2 (w:World) (CM:cn) (A:Around) (K:Top) (env:Env) (J:Scope) (ρ:a5) (s:Shared) (fs:X) (items:List H) (fs':X) (di:Value) (az:Shared):Prop:=
 ∃ρ' aj o fh P cA,di=.ref aj.heap.objs.size/\az={aj with heap:=aj.heap.push o}/\aK w CM K env J ρ' aj fs'/\a2 ρ s ρ' aj/\cb ρ fs.loc ρ' fs'.loc/\nh w CM A ρ' aj items o fh P cA
theorem Op {e:Expr} (h:∀es k p,e≠.Set es k p):∀x,foldedSetIterable e env x=pure x:=by
 intro x
 cases e<;>first|rfl|exact absurd rfl (h _ _ _)
theorem aK.push {o:Obj} (I:aK w CM K env J ρ s fs) (lC:o.isFreed=false):aK w CM K env J (bP ρ (s.heap.push o)) {s with heap:=s.heap.push o} fs/\a2 ρ s (bP ρ (s.heap.push o)) {s with heap:=s.heap.push o}/\cb ρ fs.loc (bP ρ (s.heap.push o)) fs.loc/\
  bP ρ (s.heap.push o) s.heap.objs.size=.aV/\ρ s.heap.objs.size=.free:=by
 have ag:∀b ob,s.heap.get? b=some ob->(s.heap.push o).get? b=some ob:=fun b ob e=>Heap.get?_push_of_some _ e
 have aL:ρ s.heap.objs.size=.free:=(I.base.c1 _).mpr fd
 exact⟨I.dz (tk:=s.toks) ag,a2.dz (tk:=s.toks) ag,cb.dz,gD aL (Heap.get?_push_size _ lC),aL⟩
theorem qY {o:Obj} {items:List H} {fh:List Addr} {P:Nat->Value->Prop} {cA:Nat->Heap->Prop} (lC:o.isFreed=false) (I:aK w CM K env J ρ s fs)
  (W:Walks aw w A s.heap.objs.size fh [s.heap.objs.size] items.length P cA) (uE:∀i h,cA i h->∃ob,h.get? s.heap.objs.size=some ob) (ao:cA 0 (s.heap.push o)) (foot:∀b∈fh,b≠s.heap.objs.size->∃ob,ρ b=.be ob)
  (bf:∀i v,i<items.length->P i v->∃x,items[i]? =some x/\bX w CM ρ x v):j2 w CM A K env J ρ s fs items fs (.ref s.heap.objs.size) {s with heap:=s.heap.push o}:=
 ⟨ρ,s,o,fh,P,cA,rfl,rfl,I,a2.refl ..,cb.refl ..,W,lC,uE,ao,foot,bf⟩
theorem j2.trans {aN:a5} {aj ct:Shared} {fs₂:X} {items:List H} {di:Value} (av:a2 ρ s aN aj) (dw:cb ρ fs.loc aN fs₁.loc) (q:j2 w CM A K env J aN aj fs₁ items fs₂ di ct):j2 w CM A K env J ρ s fs items fs₂ di ct:=by
 obtain⟨b8,R6,o,fh,P,cA,M,O,e1,e5,g1,W⟩:=q
 exact⟨b8,R6,o,fh,P,cA,M,O,e1,av.trans e5,dw.trans g1,W⟩
theorem RL {l:List (al×H)} {a:Addr} (h:bX w CM ρ (.V l) (.ref a)):∃ob,ρ a=.be ob:=
 h.elim fun b h=>h.elim fun ob h=>h.elim fun _ h=>h.elim fun _ h=>h.elim fun _ h=>⟨ob,by refine B (Value.ref.inj h.1) ?_;exact h.2.2.1⟩
theorem C0 (bc:f4 K A) {x:H} {v:Value} {items:List H} (q:pj x=some items) (I:aK w CM K env J ρ s fs) (h:bX w CM ρ x v):wpAny (model aw w) A (pyIter v) (j2 w CM A K env J ρ s fs items fs) E s:=by
 have bx:=I.base.lE bc
 have cy:=oQ bx
 have d8:s.heap.objs.size∉Mine.dT A:=fun q=>Nat.lt_irrefl _ (cy _ q)
 have sS:∀{d:Addr} {ob:Obj},ρ d=.be ob->∀b∈s.heap.objs.size::d::Mine.dT A,b≠s.heap.objs.size->∃ob,ρ b=.be ob:=fun hd b ah aE=>by
  rcases List.mem_cons.mp ah with e|ah
  ·exact absurd e aE
  ·rcases List.mem_cons.mp ah with e|ah
   ·refine B e ?_;exact⟨_,hd⟩
   ·exact I.base.dT bc b ah
 cases x with
 |am l=>
  refine cF q ?_
  refine dH h ?_;clear h;intro a vs n u;subst u;intro M O
  have iB:=I.base.bK _ _ M
  have aq:s.heap.IsList a (Array.mk vs):=fv iB
  refine wpAny_pyIter_list aq ?_
  have bC:=O.length
  have W:=zJ (w:=w) (A:=A) s.heap.objs.size a (Nat.ne_of_lt (Heap.lt_size iB)) d8 (Array.mk vs)
  replace W:=(show(Array.mk vs).size=l.length from bC)▸W
  refine qY rfl I W (fun i h z=>let⟨o,cq,_⟩:=z.1.1;⟨o,cq⟩) ⟨⟨⟨_,Heap.get?_push_size _ rfl,rfl,rfl⟩,aq.push _⟩,bx.keeps fun b _ o e=>Heap.get?_push_of_some _ e⟩ (sS M) fun i v aR ay=> ?_
  refine bb (O.gk (List.getElem?_eq_getElem aR)) ?_;intro u ak ar
  exact⟨_,List.getElem?_eq_getElem aR,Option.some.inj (ak.symm.trans ((List.getElem?_toArray ..).symm.trans ay))▸ar⟩
 |aF l=>
  refine cF q ?_
  refine dH h ?_;clear h;intro a vs n u;subst u;intro M O
  have iB:=I.base.bK _ _ M
  have aq:s.heap.IsTuple a (Array.mk vs):=mr iB
  refine wpAny_pyIter_tuple aq ?_
  have bC:=O.length
  have W:=Bi (w:=w) (A:=A) s.heap.objs.size a (Nat.ne_of_lt (Heap.lt_size iB)) d8 (Array.mk vs)
  replace W:=(show(Array.mk vs).size=l.length from bC)▸W
  refine qY rfl I W (fun i h z=>let⟨o,cq,_⟩:=z.1.1;⟨o,cq⟩) ⟨⟨⟨_,Heap.get?_push_size _ rfl,rfl,rfl⟩,aq.push _⟩,bx.keeps fun b _ o e=>Heap.get?_push_of_some _ e⟩ (sS M) fun i v aR ay=> ?_
  refine bb (O.gk (List.getElem?_eq_getElem aR)) ?_;intro u ak ar
  exact⟨_,List.getElem?_eq_getElem aR,Option.some.inj (ak.symm.trans ((List.getElem?_toArray ..).symm.trans ay))▸ar⟩
 |V l=>
  refine cF q ?_
  refine gv ((cv.ga (s:=s) h).V I.base) ?_;intro a aS u;subst u;intro aL dQ jM
  have M:=(RL h).choose_spec
  refine bS dQ.dictAt ?_;intro cr fy
  refine wpAny_pyIter_dict aL fy ?_
  have bC:=jM.length
  have W:=Cz (w:=w) (A:=A) (knd:=kk w) s.heap.objs.size a (Nat.ne_of_lt fy.lt_size) d8 aS cr
  (replace W:=bC▸W;replace W:=(Eq.symm (List.length_map (f:=fun p:al×H=>p4 p.1) (as:=l)))▸W)
  refine qY rfl I W (fun i h z=>let⟨o,cq,_⟩:=z.1.1;⟨o,cq⟩) ⟨⟨⟨_,Heap.get?_push_size _ rfl,rfl,by simp [bC]⟩,by have:=fy.push {cls:=.type "dict_keyiterator",data:=.fields #[.ref a,.int 0 0,.int aS.length 0,.int cr 0]};simpa [bC] using this⟩,bx.keeps fun b _ o e=>Heap.get?_push_of_some _ e⟩ (sS M) fun i v aR ay=> ?_
  refine hw ay ?_;clear ay;intro k y ag pM
  have oM:=jM.zL
  have n5:(aS.map (·.1))[i]? =some k:=by(refine B List.getElem?_map ?_;refine B ag ?_);rfl
  (replace n5:=oM▸n5;replace n5:=List.getElem?_map▸n5)
  refine bb (Option.map_eq_some_iff.mp n5) ?_;intro p an u;subst u
  refine⟨p4 p.1,by(refine B List.getElem?_map ?_;refine B an ?_);rfl,?_⟩
  generalize p.1=k at pM
  cases k with
  |int n=>exact jN pM
  |str n=>exact jI pM
 |_=>exact Z q
theorem tq {a:Expr} {v:H} (h:dY R a fs=some (v,fs')):dk R [a] fs=some ([v],fs'):=by
 show ob (dY R a fs) _=_
 refine B h ?_;rfl
theorem Hx (bn:jL CM bj K.f) (bc:f4 K A) (S:cB w CM K env J A R) {e a:Expr} {n:Int} (bw:dY R a fs=some (.int n,fs')) (hz:(decide (-1048576<=n)&&decide (n<=1048576))=true) (ae:J.names.lookup ("range":Str)=some .globalImplicit)
  (aX:∃p q,e=.Call (.Name "range" p) [a] [] q) (I:aK w CM K env J ρ s fs):
  (∀x,foldedSetIterable e env x=pure x)/\wpAny (model aw w) A (eval e env) (fun eS aj=>wpAny (model aw w) A (pyIter eS) (j2 w CM A K env J ρ s fs ((List.range n.toNat).map fun(i:Nat)=>H.int i) fs') cc aj) cc s:=by
 refine i9 aX ?_;clear aX;intro Qp pos u;subst u
 have kI:=of_decide_eq_true (Bool.and_eq_true_iff.mp hz).1
 have kL:=of_decide_eq_true (Bool.and_eq_true_iff.mp hz).2
 clear hz
 refine⟨fun x=>rfl,lN (bn.tV "range" (by decide)) ae I (ql (.inr (by decide))) ?_⟩
 refine PyProof.Rows.callWith_type (rH S _ (tq bw)).1 (CL S (tq bw) I fun bf aj aN aZ a0 bv ay=> ?_)
 refine dP ay ?_;clear ay;intro v t u ay aG;subst u
 refine ay.elim fun tk u=> ?_;subst u
 refine B (show t=[] from aG) ?_
 refine call_range_1 ?_
 refine jV ((aZ.tok (tk:=aj.toks+1+1)).push (o:={cls:=.type "range",data:=.fields #[.int 0 aj.toks,.int n tk,.int 1 (aj.toks+1)]}) rfl) ?_;intro cN b9 dG pu nn
 have aP:=IsRange.new aj.heap 0 n 1 aj.toks tk (aj.toks+1)
 refine wpAny_pyIter_range (s:={aj with heap:=aj.heap.push {cls:=.type "range",data:=.fields #[.int 0 aj.toks,.int n tk,.int 1 (aj.toks+1)]},toks:=aj.toks+1+1}) aP (small_one (by decide) (by decide) (by exact PL kI) (by exact PU kL)) ?_
 have dq:Builtin.Range.rangeSize 0 n 1=(n.toNat:Int):=by refine B (rangeSize_one _ _) ?_;split<;>omega
 have bx:=cN.base.lE bc
 have d8:(aj.heap.push {cls:=.type "range",data:=.fields #[.int 0 aj.toks,.int n tk,.int 1 (aj.toks+1)]}).objs.size∉Mine.dT A:=fun q=>Nat.lt_irrefl _ (oQ bx _ q)
 have W:=Sy (w:=w) (A:=A) _ d8 0 1 ((List.range n.toNat).map fun(i:Nat)=>H.int i).length
 have bC:((List.range n.toNat).map fun(i:Nat)=>H.int i).length=n.toNat:=by simp
 refine j2.trans ((a0.trans (a2.tok (tk:=aj.toks+1+1))).trans b9) (bv.trans dG) (qY (items:=(List.range n.toNat).map fun(i:Nat)=>H.int i) rfl cN W (fun i h z=>⟨_,z.1⟩) ⟨?_,dv.keeps (A:=A) bx fun b _ o e=>Heap.get?_push_of_some _ e⟩ (fun b ah Wd=> ?_) fun i v aR ay=> ?_)
 ·have:=Heap.get?_push_size (aj.heap.push {cls:=.type "range",data:=.fields #[.int 0 aj.toks,.int n tk,.int 1 (aj.toks+1)]}) (o:={cls:=.type "range_iterator",data:=.fields #[rawInt 0,rawInt (Builtin.Range.rangeSize 0 n 1),rawInt 1]}) rfl
  rw [dq] at this|-
  refine B bC ?_
  simpa using this
 ·rcases List.mem_cons.mp ah with e|ah
  ·exact absurd e Wd
  ·exact cN.base.dT bc b ah
 ·refine bS ay ?_;clear ay;intro ML u;subst u
  have s1:i<n.toNat:=by simpa using aR
  exact⟨.int i,by(refine B List.getElem?_map ?_;refine B (List.getElem?_range s1) ?_);rfl,ML,by simp⟩
theorem Wx (bn:jL CM bj K.f) (bc:f4 K A) (S:cB w CM K env J A R) {e a:Expr} {l:List H} (bw:dY R a fs=some (.am l,fs')) (ae:J.names.lookup ("reversed":Str)=some .globalImplicit)
  (aX:∃p q,e=.Call (.Name "reversed" p) [a] [] q) (I:aK w CM K env J ρ s fs):
  (∀x,foldedSetIterable e env x=pure x)/\wpAny (model aw w) A (eval e env) (fun eS aj=>wpAny (model aw w) A (pyIter eS) (j2 w CM A K env J ρ s fs l.reverse fs') cc aj) cc s:=by
 refine i9 aX ?_;clear aX;intro Qp pos u;subst u
 refine⟨fun x=>rfl,lN (bn.tV "reversed" (by decide)) ae I (ql (.inr (by decide))) ?_⟩
 refine PyProof.Rows.callWith_type (rH S _ (tq bw)).1 (CL S (tq bw) I fun bf aj aN aZ a0 bv ay=> ?_)
 refine dP ay ?_;clear ay;intro v t u ay aG;subst u
 refine dH ay ?_;clear ay;intro ad vs n u O Y;subst u
 refine B (show t=[] from aG) ?_
 have wB:=aZ.base.bK _ _ O
 have bC:=Y.length
 refine call_reversed_list (fv wB) ?_
 have bx:=aZ.base.lE bc
 have d8:aj.heap.objs.size∉Mine.dT A:=fun q=>Nat.lt_irrefl _ (oQ bx _ q)
 have CR:(aj.heap.push (revObj ad (((Array.mk vs).size:Int)-1))).IsRevIter aj.heap.objs.size ad (((Array.mk vs).size:Int)-1):=⟨_,Heap.get?_push_size _ rfl,rfl,rfl⟩
 refine wpAny_pyIter_revIter (s:={aj with heap:=aj.heap.push (revObj ad (((Array.mk vs).size:Int)-1))}) CR ?_
 have W:=QW (w:=w) (A:=A) aj.heap.objs.size ad (Nat.ne_of_lt (Heap.lt_size wB)) d8 (Array.mk vs)
 replace W:=(show(Array.mk vs).size=l.reverse.length by simpa using bC)▸W
 refine j2.trans a0 bv (qY rfl aZ W (fun i h z=>let⟨o,cq,_⟩:=z.1.2.1;⟨o,cq⟩) ⟨⟨Nat.zero_le _,by simpa [bC] using CR,(fv wB).push _⟩,bx.keeps fun b _ o e=>Heap.get?_push_of_some _ e⟩ (fun b ah aE=> ?_) fun i v aR ay=> ?_)
 ·rcases List.mem_cons.mp ah with e|ah
  ·exact absurd e aE
  ·rcases List.mem_cons.mp ah with e|ah
   ·refine B e ?_;exact⟨_,O⟩
   ·exact aZ.base.dT bc b ah
 ·have s1:i<l.length:=by simpa using aR
  have ww:vs[l.length-1-i]? =some v:=by simpa using ay
  have bF:l.length-1-i<l.length:=by exact Q1 s1
  refine bb (Y.gk (List.getElem?_eq_getElem bF)) ?_;intro u ak ar
  replace ak:=ww▸ak;cases ak
  exact⟨_,by(refine B (List.getElem?_reverse s1) ?_;refine B (List.getElem?_eq_getElem bF) ?_;rfl),ar⟩
theorem vZ (bn:jL CM bj F) (bz:K.f=F) (bc:f4 K A) (S:cB w CM K env J A R) {e:Expr} {items:List H} (q:hv R J e fs=some (items,fs')) (I:aK w CM K env J ρ s fs):
  (∀x,foldedSetIterable e env x=pure x)/\wpAny (model aw w) A (eval e env) (fun eS aj=>wpAny (model aw w) A (pyIter eS) (j2 w CM A K env J ρ s fs items fs') cc aj) cc s:=by
 replace bn:=(Eq.symm bz)▸bn
 have other:oZ R pj e fs=some (items,fs')->(∀x,foldedSetIterable e env x=pure x)/\wpAny (model aw w) A (eval e env) (fun eS aj=>wpAny (model aw w) A (pyIter eS) (j2 w CM A K env J ρ s fs items fs') cc aj) cc s:=fun q=>
  b5 q (fun v fs₁ bw q=>bG q (fun l aq q=>b6 q ⟨Op fun es k p h=>b5 (h▸bw) (fun r fs₂ dJ _=>Z ((S.set es k p fs).symm.trans dJ)) Z,ra S bw I fun v aj aN aZ a0 bv aP=>wpAny_mono (C0 bc aq aZ aP) (fun di ct P=>P.trans a0 bv) fun _ _ f=>f⟩) Z) Z
 unfold hv at q
 generalize hc:yv e=c at q
 cases c with
 |none=>exact other q
 |some p=>
  obtain⟨f,a⟩:=p
  refine cK q (fun ae q=>hn q (fun aB q=> ?_) fun _ q=>hn q (fun aB q=> ?_) fun _ q=>other q) Z<;>clear other
  ·refine b5 q (fun n fs₁ bw q=>bG q (fun l aq q=>b6 q ?_) Z) Z
   exact bG aq (fun n aE aq=>cK aq (fun hz aq=>cF aq (Hx bn bc S (jK aE▸bw) hz (aB▸ae) (aB▸Ck hc) I)) Z) Z
  ·refine b5 q (fun n fs₁ bw q=>bG q (fun l aq q=>b6 q ?_) Z) Z
   exact bG aq (fun n aE aq=>cF aq (Wx bn bc S (qX aE▸bw) (aB▸ae) (aB▸Ck hc) I)) Z
end
end Mine
end
section
open PySem PySem.W PySem.Calls PyProof.Rows
namespace Mine
theorem yu {env:Env}:∀(names:List (Str×NameKind)) (fL:List (Str×Addr)),(∀n k,(n,k)∈names->k=.free->∃c,env.cells.lookup n=some c)->(∀n c,(n,c)∈fL->env.cells.lookup n=some c)->
  ∃eJ,(forIn names fL fun(x:Str×NameKind) r=>(if(x.2==.free)=true then(do let a<-cellOf env x.1;pure (ForInStep.yield ((x.1,a)::r))) else pure (ForInStep.yield r):Sem (ForInStep (List (Str×Addr)))))=(pure eJ:Sem _)/\
   (∀n c,(n,c)∈eJ->env.cells.lookup n=some c)/\(∀n c,(n,c)∈fL->∃c',(n,c')∈eJ)/\∀n,(n,NameKind.free)∈names->∃c,(n,c)∈eJ
 |[],fL,_,t0=>⟨fL,rfl,t0,fun n c h=>⟨c,h⟩,fun n h=>nomatch h⟩
 |(n,k)::r,fL,aE,t0=>by
  rw [List.forIn_cons]
  by_cases ag:k=.free
  ·subst ag
   refine bS (aE n .free List.mem_cons_self rfl) ?_;intro c hc
   obtain⟨eJ,M,O,Y,aC⟩:=yu r ((n,c)::fL) (fun m k h=>aE m k (List.mem_cons_of_mem _ h)) (fun m d h=>by
    rcases List.mem_cons.mp h with e|h
    ·cases e;exact hc
    ·exact t0 m d h)
   refine⟨eJ,?_,O,fun m d h=>Y m d (List.mem_cons_of_mem _ h),fun m h=> ?_⟩
   ·refine B (if_pos (show((n,NameKind.free).2==NameKind.free)=true from rfl)) ?_
    unfold cellOf
    refine B hc ?_
    simp only [pure_bind]
    exact M
   ·rcases List.mem_cons.mp h with e|h
    ·cases e;exact Y n c List.mem_cons_self
    ·exact aC m h
  ·refine gm (yu r fL (fun m k h=>aE m k (List.mem_cons_of_mem _ h)) t0) ?_;intro eJ M O Y aC
   refine⟨eJ,?_,O,Y,fun m h=> ?_⟩
   ·refine B (if_neg (show¬((n,k).2==NameKind.free)=true from by simpa using ag)) ?_
    simp only [pure_bind]
    exact M
   ·rcases List.mem_cons.mp h with e|h
    ·cases e;exact absurd rfl ag
    ·exact aC m h
theorem AO {env:Env} {scope:Scope} (aE:∀n k,(n,k)∈scope.names->k=.free->∃c,env.cells.lookup n=some c):
  ∃eJ,closureFor scope env=pure eJ/\(∀n c,eJ.lookup n=some c->env.cells.lookup n=some c)/\∀n,scope.names.lookup n=some .free->∃c,eJ.lookup n=some c:=by
 refine gm (yu scope.names [] aE (fun n c h=>nomatch h)) ?_;intro eJ M O Y aC
 refine⟨eJ,?_,fun n c h=>O n c (mem_of_lookup h),fun n h=> ?_⟩
 ·unfold closureFor
  simp only []
  (refine bu (bind_pure (pure eJ:Sem (List (Str×Addr)))) ?_;refine bu M ?_;rfl)
 ·refine bS (aC n (mem_of_lookup h)) ?_;intro c hc
  cases e:eJ.lookup n with
  |some d=>exact⟨d,rfl⟩
  |none=>
   have:=List.lookup_eq_none_iff.mp e (n,c) hc
   simp at this
theorem zn {env:Env}:∀{names:List (Str×NameKind)} {x:Str},names.lookup x=some .free->env.scope.kind=.function->env.kindOf x=some .cell->
  (names.map fun(n,k)=>if(k==NameKind.free&&env.scope.kind==.function&&env.kindOf n==some .cell) then(n,NameKind.cell) else(n,k)).lookup x=some .cell
 |[],_,h,_,_=>by simp at h
 |(n,k)::r,x,h,ag,hc=>by
  have ih:= @zn env r x
  show List.lookup x ((if(k==NameKind.free&&env.scope.kind==.function&&env.kindOf n==some .cell)=true then(n,NameKind.cell) else(n,k))::_)=_
  cases ae:x==n with
  |true=>
   simp only [List.lookup_cons,ae] at h
   refine oD h ?_;clear h;intro u;subst u
   have ng:=beq_iff_eq.mp ae
   subst ng
   refine B (if_pos (by rw [ag,hc];rfl)) ?_
   simp [List.lookup_cons]
  |false=>
   simp only [List.lookup_cons,ae] at h
   by_cases fW:(k==NameKind.free&&env.scope.kind==.function&&env.kindOf n==some .cell)=true
   ·refine B (if_pos fW) ?_;simp only [List.lookup_cons,ae];exact ih h ag hc
   ·refine B (if_neg fW) ?_;simp only [List.lookup_cons,ae];exact ih h ag hc
theorem DF {env:Env}:∀{names:List (Str×NameKind)} {x:Str},names.lookup x=some .globalImplicit->
  (names.map fun(n,k)=>if(k==NameKind.free&&env.scope.kind==.function&&env.kindOf n==some .cell) then(n,NameKind.cell) else(n,k)).lookup x=some .globalImplicit
 |[],_,h=>by simp at h
 |(n,k)::r,x,h=>by
  have ih:= @DF env r x
  show List.lookup x ((if(k==NameKind.free&&env.scope.kind==.function&&env.kindOf n==some .cell)=true then(n,NameKind.cell) else(n,k))::_)=_
  cases ae:x==n with
  |true=>
   simp only [List.lookup_cons,ae] at h
   refine oD h ?_;clear h;intro u;subst u
   simp [List.lookup_cons,ae]
  |false=>
   simp only [List.lookup_cons,ae] at h
   by_cases fW:(k==NameKind.free&&env.scope.kind==.function&&env.kindOf n==some .cell)=true
   ·refine B (if_pos fW) ?_;simp only [List.lookup_cons,ae];exact ih h
   ·refine B (if_neg fW) ?_;simp only [List.lookup_cons,ae];exact ih h
theorem NB {aW:Scope} {loc:List (Str×cf)} {x:Str} {bh:cf} (h:Mine.getL x (mh aW loc)=some bh):aW.names.lookup x=some .free/\∃v,bh=.U v/\Mine.getL x loc=some (.U v):=by
 unfold mh at h
 have key:∀(l:List (Str×cf)),Mine.getL x (l.filterMap fun p=>if aW.names.lookup p.1=some .free then(match Mine.getL p.1 loc with
   |some (.U v)=>some (p.1,cf.U v)
   |_=>none) else none)=some bh->aW.names.lookup x=some .free/\∃v,bh=.U v/\Mine.getL x loc=some (.U v):=by
  intro l
  induction l with
  |nil=>intro h;exact Z h
  |cons p r ih=>
   intro h
   replace h:=List.filterMap_cons▸h
   split at h
   ·exact ih h
   ·rename_i b ah
    refine cK ah ?_ Z;clear ah;intro eE ah
    split at ah
    ·rename_i v ay
     refine oD ah ?_;clear ah;intro u;subst u
     unfold Mine.getL at h
     split at h
     ·rename_i e
      refine oD h ?_;clear h;intro u;subst u
      subst e
      exact⟨eE,v,rfl,ay⟩
     ·exact ih h
    ·exact Z ah
 exact key loc h
structure xq (J aW:Scope):Prop where
 kind:aW.kind=.function
 cell:∀y∈aW.names,y.2≠.cell
 loc:∀y∈aW.names,y.2=.local->aW.names.lookup y.1=some .local
 c1:∀n,(n,NameKind.free)∈aW.names->J.names.lookup n=some .cell
theorem F8 {J aW:Scope} (h:nZ J aW=true):xq J aW:=by
 unfold nZ at h
 simp only [Bool.and_eq_true,beq_iff_eq,List.all_eq_true] at h
 refine cl h ?_;clear h;intro M O
 refine⟨M,fun y aQ q=> ?_,fun y aQ q=> ?_,fun n aE=> ?_⟩
 ·have:=(O y aQ).1.1;simp [q] at this
 ·have:=(O y aQ).1.2;simpa [q] using this
 ·have:=(O _ aE).2;simpa using this
section
variable{w:World} {CM:cn} {bj:dM} {F:Frag} {K:Top} {env:Env} {J aW:Scope} {A:Around} {E:Value->Shared->Prop} {ρ ρ₀ aT ρ':a5} {s c9 a7 az:Shared} {fs fs' fs₁:X} {R:bk}
noncomputable def eU (ρ:a5) (i:Addr) (h':Heap):a5:=bP (cw ρ i .free) h'
theorem mZ {a i:Addr} {h':Heap} {r:cV} (e:ρ a=r) (aE:a≠i) (M:(r.kT==0)=false:=by rfl) (O:(r.kT==1)=false:=by rfl):Mine.eU ρ i h' a=r:=(mV M O).mpr ((bp aE).trans e)
theorem xX {a i:Addr} {h':Heap} {r:cV} (e:Mine.eU ρ i h' a=r) (M:(r.kT==0)=false:=by rfl) (O:(r.kT==1)=false:=by rfl):a≠i/\ρ a=r:=by
 have z:=(mV M O).mp e
 by_cases q:a=i
 ·(replace z:=q▸z;replace z:=dI▸z);replace M:=(Eq.symm z)▸M;exact Bool.noConfusion M
 ·exact⟨q,(bp q).symm.trans z⟩
theorem aK.eU {i:Addr} {h':Heap} {tk:Nat} (I:aK w CM K env J ρ s fs) (aR:ρ i=.aV) (eE:∀x c,J.names.lookup x=some .free->env.cells.lookup x=some c->c≠i)
  (ag:∀b o,b≠i->s.heap.get? b=some o->h'.get? b=some o):
  aK w CM K env J (Mine.eU ρ i h') {s with heap:=h',toks:=tk} fs/\(∀{ρ₀:a5} {c9:Shared},ρ₀ i=.free->a2 ρ₀ c9 ρ s->a2 ρ₀ c9 (Mine.eU ρ i h') {s with heap:=h',toks:=tk})/\(∀a y,Mine.eU ρ i h' a=.aD y->ρ a=.aD y)/\
  (∀a,a≠i->ρ a≠.free->Mine.eU ρ i h' a=ρ a)/\(h'.get? i≠none->Mine.eU ρ i h' i=.aV):=by
 have f2:∀{a:Addr},ρ a≠.aV->a≠i:=fun h q=>h (by refine B q ?_;exact aR)
 have aB:∀a o,ρ a=.be o->Mine.eU ρ i h' a=.be o:=fun a o e=>mZ e (f2 (bI e))
 have an:∀a o,ρ a=.per o->Mine.eU ρ i h' a=.per o:=fun a o e=>mZ e (f2 (bI e))
 have bx:∀a o,ρ a=.aD o->Mine.eU ρ i h' a=.aD o:=fun a o e=>mZ e (f2 (bI e))
 have ak:∀{a:Addr},a≠i->ρ a≠.free->Mine.eU ρ i h' a=ρ a:=fun{a} aE d8=>(lY (fun q=>d8 ((bp aE).symm.trans q))).trans (bp aE)
 have Rs:∀a o,Mine.eU ρ i h' a=.be o->a≠i/\ρ a=.be o:=fun a o e=>xX e
 have wC:∀a o,Mine.eU ρ i h' a=.per o->a≠i/\ρ a=.per o:=fun a o e=>xX e
 have ux:∀a o,Mine.eU ρ i h' a=.aD o->a≠i/\ρ a=.aD o:=fun a o e=>xX e
 have e7:∀{a:Addr} {o:Obj},a≠i->s.heap.get? a=some o->h'.get? a=some o:=fun aE e=>ag _ _ aE e
 refine⟨⟨⟨fun a x e=>aB _ _ (I.base.fU a x e),fun a x e=>aB _ _ (I.base.fz a x e),fun a e=> ?_,fun a o e=> ?_,fun a=> ?_,fun k cy=>let⟨a,e⟩:=I.base.gq k cy;⟨a,an _ _ e⟩,fun a k e=> ?_,fun a b k ak ar=>I.base.inj a b k (wC _ _ ak).2 (wC _ _ ar).2⟩,
   I.c0,?_,?_,fun x bh e=> ?_,fun x e=> ?_,fun x c bZ bo=> ?_,I.apart,fun a x e=> ?_,fun a b x bZ bo=>I.fi a b x (ux _ _ bZ).2 (ux _ _ bo).2⟩,
  fun{ρ₀ c9} aL av=> ?_,fun a y e=>(ux a y e).2,fun a aE d8=>ak aE d8,fun h=> ?_⟩
 ·obtain⟨M,o,O,Y⟩:=I.base.fq a e
  have aE:a≠i:=f2 (fun q=>by replace M:=q▸M;exact M)
  exact⟨by refine B (ak aE (fun q=>by rw [q] at M;exact M)) ?_;exact M,o,e7 aE O,Y⟩
 ·refine cl (Rs a o e) ?_;intro aE e
  exact e7 aE (I.base.bK _ _ e)
 ·by_cases q:a=i
  ·refine B q ?_
   exact xi (h:=⟨#[],{}⟩) ⟨fun _=>rfl,fun _=>dI⟩ fun ob e=>Z e
  ·exact xi ((by refine B (bp q) ?_;exact I.base.c1 a)) fun ob e=>e7 q e
 ·refine cl (wC a k e) ?_;intro aE e
  refine bb (I.base.fS a k e) ?_;intro x M O
  exact⟨x,M,O.bt aB an fun ob q=>e7 aE q⟩
 ·exact mZ I.cJ (f2 (bI I.cJ))
 ·refine qp I.fC ?_;intro m o es cr bZ bo
  exact⟨m,o,es,cr,e7 (f2 (bI I.cJ)) bZ,bo⟩
 ·refine bb (I.eW x bh e) ?_;intro v M O
  refine⟨v,?_,O.bt aB an bx⟩
  rcases M with⟨bW,cC,m,⟨o,es,cr,bZ,bo⟩,dX⟩|⟨bW,cC,c,cY,⟨o,dX,rz⟩⟩
  ·exact .inl ⟨bW,cC,m,⟨o,es,cr,e7 (f2 (bI I.cJ)) bZ,bo⟩,dX⟩
  ·refine .inr ⟨bW,cC,c,cY,o,e7 ?_ dX,rz⟩
   rcases bW with bW|bW
   ·refine dP (I.cells x bW) ?_;intro c' eZ cT dE _
    replace cT:=cY▸cT;cases cT
    exact f2 (bI dE)
   ·exact eE x c bW cY
 ·obtain⟨c,v,bZ,bo,ee,⟨o,h1,im⟩⟩:=I.cells x e
  have aE:c≠i:=f2 (bI bo)
  exact⟨c,v,bZ,mZ bo aE,ee,o,e7 aE h1,im⟩
 ·have:=I.frees x c bZ bo
  exact(ak (eE x c bZ bo) (bI this)).trans this
 ·refine cl (ux a x e) ?_;intro aE e
  obtain⟨aL,c,M,O⟩:=I.e0 a x e
  exact⟨aL,c,M,O.bt aB an fun ob q=>e7 aE q⟩
 ·have ou:∀{a:Addr},ρ₀ a≠.free->a≠i:=fun h q=>h (by refine B q ?_;exact aL)
  refine⟨fun a o e=>aB _ _ (av.bK a o e),fun a e=> ?_,fun a k e=>an _ _ (av.per a k e),fun a e=> ?_,fun a e=> ?_,fun a e=> ?_,fun a x e=> ?_,fun a ob e q=>e7 (ou (bI e)) (av.keep a ob e q),fun a ob e q=> ?_,?_⟩
  ·exact(ak (ou (bI e)) (bI (av.aV a e))).trans (av.aV a e)
  ·exact mZ (av.cJ a e) (ou (bI e))
  ·exact mZ (av.fc a e) (ou (bI e))
  ·exact mZ (av.stk a e) (ou (bI e))
  ·rcases av.aD a x e with q|q|⟨ob,q⟩
   ·exact .inl (bx _ _ q)
   ·exact .inr (.inl ((ak (ou (bI e)) (bI q)).trans q))
   ·exact .inr (.inr ⟨ob,aB _ _ q⟩)
  ·refine bS (av.hV a ob e q) ?_;intro f0 cg
   exact⟨f0,e7 (ou (bI e)) cg⟩
  ·obtain⟨h,lj,e⟩:=av.ao;refine B e ?_;exact⟨h',tk,rfl⟩
 ·exact(Option.ne_none_iff_exists'.mp h).elim fun ob e=>gD dI e
theorem aK.drop {c:Addr} (I:aK w CM K env J ρ s fs) (hc:ρ c=.stack) (aE:c∉K.frames):aK w CM K env J (cw ρ c .aV) s fs:=by
 have f2:∀{a:Addr},ρ a≠.stack->a≠c:=fun h q=>h (by refine B q ?_;exact hc)
 have aB:∀a o,ρ a=.be o->cw ρ c .aV a=.be o:=fun a o e=>(bp (f2 (bI e))).trans e
 have an:∀a o,ρ a=.per o->cw ρ c .aV a=.per o:=fun a o e=>(bp (f2 (bI e))).trans e
 have bx:∀a o,ρ a=.aD o->cw ρ c .aV a=.aD o:=fun a o e=>(bp (f2 (bI e))).trans e
 have oS:∀a r,r≠.aV->cw ρ c .aV a=r->a≠c/\ρ a=r:=fun a r aP e=>by
  by_cases q:a=c
  ·subst q;replace e:=dI▸e;exact absurd e.symm aP
  ·replace e:=(bp q)▸e;exact⟨q,e⟩
 refine⟨⟨fun a x e=>aB _ _ (I.base.fU a x e),fun a x e=>aB _ _ (I.base.fz a x e),fun a e=> ?_,fun a o e=>I.base.bK a o (oS a _ (by nofun) e).2,fun a=> ?_,fun k cy=>let⟨a,e⟩:=I.base.gq k cy;⟨a,an _ _ e⟩,fun a k e=> ?_,fun a b k ak ar=>I.base.inj a b k (oS _ _ (by nofun) ak).2 (oS _ _ (by nofun) ar).2⟩,
  I.c0,(bp (f2 (bI I.cJ))).trans I.cJ,I.fC,fun x bh e=>let⟨v,M,O⟩:=I.eW x bh e;⟨v,M,O.bt aB an bx⟩,fun x e=> ?_,fun x d bZ bo=> ?_,I.apart,fun a x e=> ?_,fun a b x bZ bo=>I.fi a b x (oS _ _ (by nofun) bZ).2 (oS _ _ (by nofun) bo).2⟩
 ·refine cl (I.base.fq a e) ?_;intro M O
  exact⟨by refine B (bp (fun q:a=c=>aE (q▸e))) ?_;exact M,O⟩
 ·by_cases q:a=c
  ·subst q
   refine B dI ?_
   refine⟨fun e=>(nomatch e),fun e=> ?_⟩
   replace hc:=((I.base.c1 a).mpr e)▸hc;cases hc
  ·refine B (bp q) ?_;exact I.base.c1 a
 ·refine bb (I.base.fS a k (oS _ _ (by nofun) e).2) ?_;intro x M O
  exact⟨x,M,O.bt aB an fun _ e=>e⟩
 ·refine dP (I.cells x e) ?_;intro d v bZ bo ee
  exact⟨d,v,bZ,(bp (f2 (bI bo))).trans bo,ee⟩
 ·have:=I.frees x d bZ bo
  refine B (bp (f2 (bI this))) ?_;exact this
 ·obtain⟨aL,d,M,O⟩:=I.e0 a x (oS _ _ (by nofun) e).2
  exact⟨aL,d,M,O.bt aB an fun _ e=>e⟩
theorem cb.kF {a:Addr} {r:cV} {l c8:List (Str×cf)} (av:cb ρ₀ l ρ c8) (aL:ρ₀ a=.free) (aP:∀x,r≠.aD x):cb ρ₀ l (cw ρ a r) c8 where
 U:=av.U
 aD:=fun b x e=>by
  by_cases q:b=a
  ·subst q;replace e:=aL▸e;cases e
  ·refine B (bp q) ?_;exact av.aD b x e
 gl:=fun b x e=>by
  by_cases q:b=a
  ·subst q;replace e:=dI▸e;exact absurd e (aP x)
  ·replace e:=(bp q)▸e;exact av.gl b x e
theorem nh.By {items:List H} {o:Obj} {fh:List Addr} {P:Nat->Value->Prop} {cA:Nat->Heap->Prop} (d0:nh w CM A ρ s items o fh P cA) {E3 iL fQ:a5} {io fx:Shared} {j:Nat} (aL:∀b ob,ρ b=.be ob->E3 b=.be ob) (vo:a2 E3 s iL io)
  (fA:iL s.heap.objs.size=.aV) (av:a2 iL io fQ fx) (M:∀a ob,iL a=.be ob->io.heap.get? a=some ob) (O:∀a ob,fQ a=.be ob->fx.heap.get? a=some ob) (ao:cA j io.heap):cA j fx.heap:=
 d0.ku.frame _ _ _ ao fun b ah ob e=>by
  by_cases q:b=s.heap.objs.size
  ·exact av.keep b ob (by refine B q ?_;exact fA) e
  ·refine(d0.foot b ah q).elim fun hC cg=> ?_
   have tE:=vo.bK _ _ (aL _ _ cg)
   refine B (Option.some.inj (e.symm.trans (M b hC tE))) ?_;exact O b _ (av.bK _ _ tE)
end
end Mine
end
section
open PySem PySem.W PySem.Calls PyProof.Rows
namespace Mine
section
variable{w:World} {CM:cn} {bj:dM} {F:Frag} {K:Top} {env ed:Env} {J aW:Scope} {A:Around} {E:Value->Shared->Prop} {ρ ρ₀ aT ρ':a5} {s c9 a7 az:Shared} {fs fs' fs₁:X} {R:bk}
theorem Hu {h:Heap} {a:Addr} {l:List H} (q:dN w CM ρ h a (.am l)):∃vs,h.PlainList a (Array.mk vs)/\a8 w CM ρ l vs:=by
 refine hw q ?_;clear q;intro vs n M O
 exact⟨vs,⟨n,M⟩,O⟩
theorem Xu {h:Heap} {a:Addr} {l:List H} {vs:Array Value} (q:h.PlainList a vs) (r:a8 w CM ρ l vs.toList):dN w CM ρ h a (.am l):=by
 refine bS q ?_;clear q;intro n M
 exact⟨vs.toList,n,M,r⟩
structure Pr (w:World) (CM:cn) (K:Top) (ed:Env) (aW:Scope) (R:bk) (ρ:a5) (s:Shared) (x:Str) (ifs:List Expr) (elt:Expr) (items cj:List H) (kZ:X) (cA:Nat->Heap->Prop) (D:Addr) (i:Nat) (gs:a5) (t:Shared) (gW:X) (cm pS:List H):Prop where
 aR:i<=items.length
 go:gd R x ifs elt (items.drop i) gW=some (pS,kZ)
 cj:cm++pS=cj
 dA:cp w CM K ed aW (bl ρ) s gs t gW
 di:gs s.heap.objs.size=.aV
 PS:gs D=.aV
 Sa:dN w CM gs t.heap D (.am cm)
 ao:cA i t.heap
 len:cm.length<=i
theorem OH (S:cB w CM K ed aW A R) (ea:ed.locals≠s.heap.objs.size) {elt iter:Expr} {x:Str} {px pos:Pos} {ifs:List Expr} {scope:Scope} {items:List H} {o:Obj} {fh:List Addr} {P:Nat->Value->Prop} {cA:Nat->Heap->Prop} {D:Addr}
  {RR:Result->Shared->Prop} {cj:List H} {wu kZ:X}
  (ae:aW.names.lookup x=some .local) (dq:items.length<=a4) (d0:nh w CM A ρ s items o fh P cA) (qZ:bl ρ s.heap.objs.size=.free) (xU:bl ρ D=.free) (o6:D≠s.heap.objs.size)
  (q:gd R x ifs elt items wu=some (cj,kZ))
  {rW:a5} {tU:Shared} (a3:cp w CM K ed aW (bl ρ) s rW tU wu) (vL:∀x c,aW.names.lookup x=some .free->ed.cells.lookup x=some c->bl ρ c=.aV)
  (fA:rW s.heap.objs.size=.aV) (dQ:rW D=.aV) (t9:dN w CM rW tU.heap D (.am [])) (eN:cA 0 tU.heap)
  (gc:∀iV vt,cp w CM K ed aW (bl ρ) s iV vt kZ->iV D=.aV->dN w CM iV vt.heap D (.am cj)->RR (.ok .next) vt):
  codeAny (model aw w) A (.compLoop (.ListComp elt [⟨.Name x px,iter,ifs,0⟩] scope pos) 0 (.ref s.heap.objs.size) (.ref D) ed) RR tU:=by
 obtain⟨e1,jX⟩:∃e1:Nat->Shared->Prop,∀n t,e1 n t↔∃i,n=items.length-i+1/\∃gs gW cm pS,Pr w CM K ed aW R ρ s x ifs elt items cj kZ cA D i gs t gW cm pS:=⟨_,fun _ _=>Iff.rfl⟩
 refine codeAny_compLoop_tests e1 ?_ (items.length+1) ((jX _ _).mpr ⟨0,rfl,rW,wu,[],cj,Nat.zero_le _,q,rfl,a3,fA,dQ,t9,eN,Nat.le_refl _⟩)
 intro n t aE
 refine bb ((jX n t).mp aE) ?_;clear aE;intro i aE h;subst aE
 refine jF h ?_;clear h;intro gs gW cm pS C
 have aR:=C.aR;have e8:=C.go;have rE:=C.cj;have qi:=C.dA;have lK:=C.di;have ut:=C.PS;have F0:=C.Sa;have Bn:=C.ao;have il:=C.len;clear C
 have DC:∀x c,aW.names.lookup x=some .free->ed.cells.lookup x=some c->c≠s.heap.objs.size:=fun x c M O q=>by have:=vL x c M O;(replace this:=q▸this;replace this:=qZ▸this);cases this
 have KR:∀x c,aW.names.lookup x=some .free->ed.cells.lookup x=some c->c≠D:=fun x c M O q=>by have:=vL x c M O;(replace this:=q▸this;replace this:=xU▸this);cases this
 have sS:∀b∈fh,b≠s.heap.objs.size->∃ob,bl ρ b=.be ob:=fun b ah aE=>let⟨ob,e⟩:=d0.foot b ah aE;⟨ob,l4.mpr e⟩
 by_cases cy:i<items.length
 ·refine d0.ku.item i t _ _ cy Bn fun v bw kQ i7 nv ml=> ?_
  have sf:∀b ob,b≠s.heap.objs.size->t.heap.get? b=some ob->bw.get? b=some ob:=fun b ob ah e=>ml b ob (fun q=>ah (List.mem_singleton.mp q)) e
  refine jV (qi.dA.eU (tk:=kQ) lK DC sf) ?_;intro aZ a0 iu mq sP
  refine bS (d0.uE _ _ nv) ?_;intro pN wO
  have rX:=sP (fun q=>Z (q.symm.trans wO))
  have ma:=a0 qZ qi.ext
  have Gk:eU gs s.heap.objs.size bw D=.aV:=by refine B (mq D o6 (bI ut)) ?_;exact ut
  have OT:dN w CM (eU gs s.heap.objs.size bw) bw D (.am cm):=F0.bt (fun a ob e=>by refine B (mq a (d6 e lK) (bI e)) ?_;exact e) (fun a k e=>by refine B (mq a (d6 e lK) (bI e)) ?_;exact e) fun ob e=>sf D ob o6 e
  refine bb (d0.bf i v cy i7) ?_;intro eS pO sF
  have Uj:items.drop i=eS::items.drop (i+1):=by
   refine B (List.drop_eq_getElem_cons cy) ?_
   replace pO:=(List.getElem?_eq_getElem cy)▸pO
   refine oD pO ?_;clear pO;intro u;subst u;rfl
  replace e8:=Uj▸e8
  have JA:bX w CM (eU gs s.heap.objs.size bw) eS v:=bX.bt ma.bK ma.per sF.bl
  have Nm:eQ aW x (.U eS) gW=some {gW with loc:=bY x (.U eS) gW.loc}:=by show br _ _=_;refine B ae ?_;rfl
  have nE:∀{iL fQ:a5} {io fx:Shared},a2 (bl ρ) s iL io->iL s.heap.objs.size=.aV->a2 iL io fQ fx->(∀a ob,iL a=.be ob->io.heap.get? a=some ob)->(∀a ob,fQ a=.be ob->fx.heap.get? a=some ob)->cA (i+1) io.heap->cA (i+1) fx.heap:=d0.By fun b ob e=>l4.mpr e
  refine wpAny_assign_Name (q4 Nm aZ JA fun b8 dJ jp cN b9 op pA=> ?_)
  have mo:=ma.trans b9
  have zE:∀a y,b8 a=.aD y->bl ρ a=.free:=fun a y e=>qi.gK a y (iu a y (op a y e))
  have mR:=b9.aV _ rX
  have rv:=b9.aV _ Gk
  have yX:dN w CM b8 dJ D (.am cm):=OT.bt b9.bK b9.per fun ob e=>b9.keep D ob Gk e
  have sd:cA (i+1) dJ:=nE ma rX b9 aZ.base.bK cN.base.bK nv
  have cM:∀{fQ:a5} {fx:Shared} {U:X} {ha Bt:List H},aK w CM K ed aW fQ fx U->a2 (bl ρ) s fQ fx->(∀a y,fQ a=.aD y->bl ρ a=.free)->fQ s.heap.objs.size=.aV->fQ D=.aV->dN w CM fQ fx.heap D (.am ha)->cA (i+1) fx.heap->ha.length<=i+1->
    gd R x ifs elt (items.drop (i+1)) U=some (Bt,kZ)->ha++Bt=cj->∃m,m<items.length-i+1/\e1 m fx:=fun uN tO za vr ur xE zG bC UN wJ=>
   ⟨items.length-(i+1)+1,by exact QY cy,(jX _ _).mpr ⟨i+1,rfl,_,_,_,_,cy,UN,wJ,⟨uN,tO,za⟩,vr,ur,xE,zG,bC⟩⟩
  have Eo:∀{fQ:a5} {fx:Shared} {U:X},aK w CM K ed aW fQ fx U->a2 (bl ρ) s fQ fx->(∀a y,fQ a=.aD y->bl ρ a=.free)->fQ s.heap.objs.size=.aV->fQ D=.aV->dN w CM fQ fx.heap D (.am cm)->cA (i+1) fx.heap->
    (ob (dY R elt U) fun y fs₂=>ob (gd R x ifs elt (items.drop (i+1)) fs₂) fun cj fs₃=>some (y::cj,fs₃))=some (pS,kZ)->
    wpAny (model aw w) A (eval elt ed) (fun y m7=>wpAny (model aw w) A (call (.builtin "list.append") [.ref D,y]) (fun _ xx=>∃m,m<items.length-i+1/\e1 m xx) (notedBy (model aw w) A ed fun e az=>RR (.error e) az) m7) (notedBy (model aw w) A ed fun e az=>RR (.error e) az) fx:=fun{fQ fx U} uN tO za vr ur xE zG bi=>by
   refine b5 bi ?_ Z;clear bi;intro y fs₂ aQ bi
   refine b5 bi ?_ Z;clear bi;intro Y8 fs₃ Si bi
   cases(bi)
   refine ra S aQ uN fun nb m7 vU u9 kY Q7 Nh=> ?_
   have Dp:=kY.aV _ ur
   have Os:=kY.aV _ vr
   have Xd:dN w CM vU m7.heap D (.am cm):=xE.bt kY.bK kY.per fun ob e=>kY.keep D ob ur e
   have Rb:=nE tO vr kY uN.base.bK u9.base.bK zG
   obtain⟨vs,gi,iT⟩:=Hu Xd
   have bC:=iT.length
   refine wpAny_list_append_plain gi (fun Fv C7 vX=> ?_) (by simp only [List.size_toArray];refine B bC ?_;have:=jb;exact Uk dq il cy this)
   have My:Fv.get? D≠none:=by obtain⟨n,e⟩:=C7;refine B e ?_;nofun
   have Ow:dN w CM vU Fv D (.am (cm++[y])):=Xu C7 (by simpa using iT.append (a8.cons Nh a8.nil))
   refine cM (u9.h2 (tk:=m7.toks) Dp KR vX My) ((tO.trans kY).h2 xU vX) (fun a y e=>za a y (Q7.gl a y e)) Os Dp Ow ?_ (by simp;exact LY il) Si (by refine bu rE ?_;simp)
   refine d0.ku.frame _ _ _ Rb fun b ah ob e=>(vX.2 b (fun q=> ?_)).trans e
   by_cases bo:b=s.heap.objs.size
   ·exact o6 (q.symm.trans bo)
   ·exact(sS b ah bo).elim fun hC cg=>cV.noConfusion (xU.symm.trans ((congrArg (bl ρ) q).symm.trans cg))
  refine b5 e8 (fun b fs₁ hc e8=> ?_) Z
  cases ifs with
  |nil=>
   refine wpAny_pure ?_
   refine B (if_pos rfl) ?_
   cases hc
   exact Eo cN mo zE mR rv yX sd e8
  |cons c ifs=>cases ifs with
   |cons _ _=>exact Z hc
   |nil=>
    rw [List.forIn_cons]
    refine wpAny_bind ?_
    refine B (if_pos rfl) ?_
    refine wpAny_bind (S.lx hc cN fun jD jm hi eh k9=>wpAny_pure ?_)
    cases b with
    |true=>
     refine wpAny_pure ?_
     refine B (if_pos rfl) ?_
     exact Eo hi (mo.trans eh) (fun a y e=>zE a y (k9.gl a y e)) (eh.aV _ mR) (eh.aV _ rv) (yX.bt eh.bK eh.per fun ob e=>eh.keep D ob rv e) (nE mo mR eh cN.base.bK hi.base.bK sd) e8
    |false=>
     refine wpAny_pure ?_
     refine B (if_neg Bool.false_ne_true) ?_
     exact cM hi (mo.trans eh) (fun a y e=>zE a y (k9.gl a y e)) (eh.aV _ mR) (eh.aV _ rv) (yX.bt eh.bK eh.per fun ob e=>eh.keep D ob rv e) (nE mo mR eh cN.base.bK hi.base.bK sd) (Nat.le_succ_of_le il) e8 rE
 ·have xO:i=items.length:=by exact HO aR cy
  subst xO
  refine d0.ku.done t _ _ Bn fun bw kQ ml=> ?_
  replace e8:=List.drop_length▸e8
  refine x5 e8 ?_;clear e8;intro u v;subst u;subst v
  replace rE:=(List.append_nil _)▸rE
  subst rE
  have sf:∀b ob,b≠s.heap.objs.size->t.heap.get? b=some ob->bw.get? b=some ob:=fun b ob ah e=>ml b ob (fun q=>ah (List.mem_singleton.mp q)) e
  obtain⟨aZ,a0,iu,mq,sP⟩:=qi.dA.eU (tk:=kQ) lK DC sf
  refine gc _ _ ⟨aZ,a0 qZ qi.ext,fun a y e=>qi.gK a y (iu a y e)⟩ (by refine B (mq D o6 (bI ut)) ?_;exact ut) ?_
  exact F0.bt (fun a ob e=>by refine B (mq a (d6 e lK) (bI e)) ?_;exact e) (fun a k e=>by refine B (mq a (d6 e lK) (bI e)) ?_;exact e) fun ob e=>sf D ob o6 e
end
end Mine
end
section
open PySem PySem.W PySem.Calls PyProof.Rows
namespace Mine
section
variable{w:World} {CM:cn} {bj:dM} {F:Frag} {K:Top} {env ed:Env} {J aW:Scope} {A:Around} {E:Value->Shared->Prop} {ρ ρ₀ aT ρ':a5} {s c9 a7 az:Shared} {fs fs' fs₁:X} {R:bk}
theorem T7 {eJ:List (Str×Addr)} {C:Addr} {fk:Heap} {tk:Nat} (I:aK w CM K env J ρ s fs) (hc:xq J aW) (ff:∀n c,eJ.lookup n=some c->env.cells.lookup n=some c) (nH:∀n,aW.names.lookup n=some .free->∃c,eJ.lookup n=some c)
  (ag:∀b o,s.heap.get? b=some o->fk.get? b=some o) (ck:ρ C=.free) (eA:fk.Ns C fun _=>none):
  cp w CM K (compEnvC aW eJ C env) aW (bl ρ) s (cw (bP (bl ρ) fk) C .frame) {s with heap:=fk,toks:=tk} ⟨mh aW fs.loc,fs.per⟩/\
  (∀x c,aW.names.lookup x=some .free->(compEnvC aW eJ C env).cells.lookup x=some c->bl ρ c=.aV):=by
 have zr:bl ρ C=.free:=g5.mpr ck
 have o5:cH w CM K (bP (bl ρ) fk) {s with heap:=fk,toks:=tk} fs.per:=I.base.bl.dz ag
 refine dH (id eA) ?_;intro E4 Zj YG lF MY _
 have t5:bP (bl ρ) fk C=.aV:=gD zr lF
 have f2:∀{a:Addr},bP (bl ρ) fk a≠.aV->a≠C:=fun h q=>h (by refine B q ?_;exact t5)
 have aB:∀a o,bP (bl ρ) fk a=.be o->cw (bP (bl ρ) fk) C .frame a=.be o:=fun a o e=>(bp (f2 (bI e))).trans e
 have an:∀a o,bP (bl ρ) fk a=.per o->cw (bP (bl ρ) fk) C .frame a=.per o:=fun a o e=>(bp (f2 (bI e))).trans e
 have aD:∀a y,cw (bP (bl ρ) fk) C .frame a≠.aD y:=fun a y e=>by
  by_cases q:a=C
  ·(replace e:=q▸e;replace e:=dI▸e);cases e
  ·replace e:=(bp q)▸e;exact(hR ρ a).1 y (gg.mp e)
 have Uu:cH w CM K (cw (bP (bl ρ) fk) C .frame) {s with heap:=fk,toks:=tk} fs.per:=o5.pr fun a=>by
  by_cases q:a=C
  ·subst q;(refine B dI ?_;refine B t5 ?_);exact .inr ⟨trivial,trivial,fun _=>trivial⟩
  ·exact .inl (bp q)
 have zj:∀n,aW.names.lookup n=some .free->J.names.lookup n=some .cell:=fun n h=>hc.c1 n (mem_of_lookup h)
 have sV:∀x c,aW.names.lookup x=some .free->eJ.lookup x=some c->bl ρ c=.aV:=fun x c M O=>by
  refine dP (I.cells x (zj x M)) ?_;intro c' v bZ bo _
  replace bZ:=(ff x c O)▸bZ;cases bZ
  exact congrArg e4 bo
 have el:a2 (bl ρ) s (bP (bl ρ) fk) {s with heap:=fk,toks:=tk}:=a2.dz ag
 refine⟨⟨⟨Uu,⟨?_,I.c0.uM,I.c0.lr,fun x h=> ?_,fun x h=> ?_,fun x h=> ?_,fun x h=> ?_⟩,dI,⟨_,eA⟩,fun x bh h=> ?_,fun x h=> ?_,fun x c M O=> ?_,fun x y c M O=> ?_,fun a x e=>absurd e (aD a x),fun a b x e _=>absurd e (aD a x)⟩,el.kF zr,fun a x e=>absurd e (aD a x)⟩,sV⟩
 ·show(relabel aW env).kind=.function
  exact hc.kind
 ·exact lookup_relabel_local h
 ·exact absurd rfl (hc.cell _ (mem_of_lookup h))
 ·exact zn h I.c0.kind (I.c0.fc x (zj x h))
 ·exact DF h
 ·obtain⟨M,v,rfl,O⟩:=NB h
  refine bb (I.eW x _ O) ?_;intro val Y aC
  have tJ:=zj x M
  refine⟨val,?_,(bX.bl aC).bt (fun a o e=>aB a o (el.bK a o e)) fun a o e=>an a o (el.per a o e)⟩
  rcases Y with⟨bW,_⟩|⟨bW,cC,c,cY,dX⟩
  ·replace bW:=tJ▸bW;cases bW
  ·refine bS (nH x M) ?_;intro c' nS
   have:=ff x c' nS
   replace this:=cY▸this;cases(this)
   exact .inr ⟨.inr M,zn M I.c0.kind (I.c0.fc x tJ),c,nS,dX.keeps ag⟩
 ·exact absurd rfl (hc.cell _ (mem_of_lookup h))
 ·have hd:=sV x c M O
  refine B (bp (fun q=>by rw [q,zr] at hd;cases hd)) ?_
  exact el.aV c hd
 ·exact I.apart x y c (ff x c M) (ff y c O)
theorem DA (S:∀ed,cB w CM K ed aW A R) {elt iter:Expr} {x:Str} {px pos:Pos} {ifs:List Expr} {items:List H} {o:Obj} {fh:List Addr} {P:Nat->Value->Prop} {cA:Nat->Heap->Prop}
  {RR:Value->Addr->Result->Shared->Prop} {cj:List H} {kZ:X} {eJ:List (Str×Addr)}
  (ae:aW.names.lookup x=some .local) (dq:items.length<=a4) (hc:xq J aW) (ff:∀n c,eJ.lookup n=some c->env.cells.lookup n=some c) (nH:∀n,aW.names.lookup n=some .free->∃c,eJ.lookup n=some c)
  (I:aK w CM K env J ρ s fs) (d0:nh w CM A ρ s items o fh P cA) (q:gd R x ifs elt items ⟨mh aW fs.loc,fs.per⟩=some (cj,kZ))
  (cW:∀ρ' az D C m,aK w CM K env J ρ' az {fs with per:=kZ.per}->a2 ρ s ρ' az->cb ρ fs.loc ρ' fs.loc->ρ D=.free->ρ' D=.aV->dN w CM ρ' az.heap D (.am cj)->ρ C=.free->ρ' C=.aV->C≠D->az.heap.Ns C m->RR (.ref D) C (.ok .next) az):
  wpAny (model aw w) A (newList []) (fun cm jD=>wpAny (model aw w) A (newFunctionEnv aW env.globals eJ [] env.qual none .none (some env)) (fun ed m7=>
   codeAny (model aw w) A (.compStart (.ListComp elt [⟨.Name x px,iter,ifs,0⟩] aW pos) 0 (.ref s.heap.objs.size) cm {ed with scope:=relabel aW env}) (RR cm ed.locals) m7) E jD) E {s with heap:=s.heap.push o}:=by
 have h8:∀a,s.heap.objs.size<=a->ρ a=.free:=fun a bA=>(I.base.c1 a).mpr (by
  cases e:s.heap.get? a with
  |none=>rfl
  |some oF=>exact absurd (Heap.lt_size e) (Nat.not_lt.mpr bA))
 refine wpAny_newObj_type (wpAny_newFunctionEnv hc.cell (by intro y aQ;simp at aQ) (fun bw vG su=> ?_) hc.kind)
 dsimp only at vG su|-
 generalize u8:s.heap.push o=f1 at vG su|-
 have dQ:f1.objs.size=s.heap.objs.size+1:=by(refine bu u8 ?_;refine B (Heap.size_push _ _) ?_;rfl)
 generalize vV:f1.push {cls:=.type "list",dict:=none,data:=.seq ([]:List Value).toArray}=gu at vG su|-
 have ck:gu.objs.size=s.heap.objs.size+2:=by(refine bu vV ?_;refine B (Heap.size_push _ _) ?_;refine B dQ ?_;rfl)
 have o6:f1.objs.size≠s.heap.objs.size:=by refine B dQ ?_;exact Nat.succ_ne_self _
 have uS:f1.objs.size≠gu.objs.size:=by(refine B dQ ?_;refine B ck ?_);exact Nat.ne_of_lt (Nat.lt_succ_self _)
 have wi:s.heap.objs.size≠gu.objs.size:=by refine B ck ?_;exact Nat.ne_of_lt (Nat.lt_succ_of_lt (Nat.lt_succ_self _))
 have up1:∀b ob,f1.get? b=some ob->b≠gu.objs.size->bw.get? b=some ob:=fun b ob e ah=>su.extBut b ob ah (Heap.get?_push_of_some _ (vV▸Heap.get?_push_of_some _ e))
 have Jk:∀b ob,s.heap.get? b=some ob->bw.get? b=some ob:=fun b ob e=>by
  have cy:b<s.heap.objs.size:=Heap.lt_size e
  exact up1 b ob (u8▸Heap.get?_push_of_some _ e) (Nat.ne_of_lt (by refine B ck ?_;exact Nat.lt_succ_of_lt (Nat.lt_succ_of_lt cy)))
 have RB:f1.get? s.heap.objs.size=some o:=by refine bu u8 ?_;exact Heap.get?_push_size _ d0.e7
 have EW:bw.get? f1.objs.size=some (mD [] 0):=su.extBut _ _ uS (Heap.get?_push_of_some _ (vV▸Heap.get?_push_size _ rfl))
 have fI:ρ s.heap.objs.size=.free:=h8 _ (Nat.le_refl _)
 have mz:ρ f1.objs.size=.free:=h8 _ (by refine B dQ ?_;exact Nat.le_succ _)
 have jT:ρ gu.objs.size=.free:=h8 _ (by refine B ck ?_;exact Nat.le_add_right _ _)
 have eA:bw.Ns gu.objs.size fun _=>none:=by
  have:=vG
  simpa using this
 refine cl (T7 (tk:=s.toks+([]:List (Str×Value)).length) I hc ff nH Jk jT eA) ?_;intro a3 vL
 have nv:cA 0 bw:=d0.ku.frame _ _ _ d0.ao fun b ah ob e=>by
  have cg:f1.get? b=some ob:=by refine bu u8 ?_;exact e
  refine up1 b ob cg (fun q=> ?_)
  have:=Heap.lt_size cg
  (replace this:=q▸this;replace this:=ck▸this;replace this:=dQ▸this)
  exact absurd this (Nat.not_lt.mpr (Nat.le_succ _))
 have X9:cw (bP (bl ρ) bw) gu.objs.size .frame s.heap.objs.size=.aV:=by refine B (bp wi) ?_;exact gD (g5.mpr fI) (up1 _ _ RB wi)
 have Ut:cw (bP (bl ρ) bw) gu.objs.size .frame f1.objs.size=.aV:=by refine B (bp uS) ?_;exact gD (g5.mpr mz) EW
 have Bl:codeAny (model aw w) A (.compLoop (.ListComp elt [⟨.Name x px,iter,ifs,0⟩] aW pos) 0 (.ref s.heap.objs.size) (.ref f1.objs.size) (compEnvC aW eJ gu.objs.size env)) (RR (.ref f1.objs.size) gu.objs.size) {s with heap:=bw,toks:=s.toks+([]:List (Str×Value)).length}:=by
  refine OH (S _) (Ne.symm wi) ae dq d0 (g5.mpr fI) (g5.mpr mz) o6 q a3 vL X9 Ut ⟨[],0,EW,a8.nil⟩ nv fun iV vt rG RP qH=> ?_
  refine ef (cp.un (K:=K) (K':=K) rfl rfl (fun _ h=>h) rG (hR ρ)) ?_;intro cT dE mf
  refine ef (I.sg cT dE mf) ?_;intro e1 lw lW
  have Nq:fo ρ (bl iV) gu.objs.size=.stack:=(kH (g5.mpr jT)).trans (by
   have:iV gu.objs.size=.frame:=rG.dA.cJ
   exact congrArg e4 this)
  have MN:fo ρ (bl iV) f1.objs.size=.aV:=(kH (g5.mpr mz)).trans (pb RP)
  have XV:gu.objs.size∉K.frames:=fun h=>by have:=(I.base.fq _ h).1;replace this:=jT▸this;exact this
  have lH:=e1.drop Nq XV
  refine bS rG.dA.fC ?_;intro m aY
  have Ll:∀a ob,iV a=.be ob->cw (fo ρ (bl iV)) gu.objs.size .aV a=.be ob:=fun a ob e=>by
   have b1:a≠gu.objs.size:=fun q=>by have:iV gu.objs.size=.frame:=rG.dA.cJ;(replace e:=q▸e;replace e:=this▸e);cases e
   refine B (bp b1) ?_;exact(pe dE).1 a ob (l4.mpr e)
  have L7:∀a k,iV a=.per k->cw (fo ρ (bl iV)) gu.objs.size .aV a=.per k:=fun a ob e=>by
   have b1:a≠gu.objs.size:=fun q=>by have:iV gu.objs.size=.frame:=rG.dA.cJ;(replace e:=q▸e;replace e:=this▸e);cases e
   refine B (bp b1) ?_;exact(pe dE).2 a ob (o9.mpr e)
  exact cW _ _ _ _ m lH (lw.kF jT) (lW.kF jT (by nofun)) mz (by refine B (bp uS) ?_;exact MN) (qH.bt Ll L7 fun _ e=>e) jT dI (Ne.symm uS) aY
 exact codeAny_compStart_list Bl (d0.ku.self 0 _ _ _ nv Bl)
theorem PC (bn:jL CM bj F) (bz:K.f=F) (bc:f4 K A) (xd:cB w CM K env J A zc) (S:∀ed,cB w CM K ed aW A R) {elt iter:Expr} {x:Str} {px pos:Pos} {ifs:List Expr} {items cj:List H} {fs₁ fs₂:X}
  (bZ:hv zc J iter fs=some (items,fs₁)) (dq:items.length<=a4) (ae:aW.names.lookup x=some .local) (hc:nZ J aW=true) (bo:gd R x ifs elt items {fs₁ with loc:=mh aW fs₁.loc}=some (cj,fs₂)) (I:aK w CM K env J ρ s fs):
  wpAny (model aw w) A (eval (.ListComp elt [⟨.Name x px,iter,ifs,0⟩] aW pos) env) (b3 w CM K env J ρ s fs (.own (.am cj)) {fs₁ with per:=fs₂.per}) cc s:=by
 refine cl (vZ bn bz bc xd bZ I) ?_;intro ss l1
 have lz:=F8 hc
 obtain⟨eJ,zD,ff,nH⟩:=AO (env:=env) (scope:=aW) (fun n k aY ag=>by
  subst ag
  refine hw (I.cells n (lz.c1 n aY)) ?_;intro c v M _
  exact⟨c,M⟩)
 rw [eval_ListComp]
 refine wpAny_comprehension_free (use:=none) rfl ss zD lz.kind lz.loc (wpAny_mono l1 (fun eS aj bw=>wpAny_mono bw (fun di ct dJ=> ?_) fun _ _ e=>e) fun _ _ e=>e)
 obtain⟨aN,nL,o,fh,P,cA,rfl,rfl,aZ,a0,bv,d0⟩:=dJ
 refine DA S ae dq lz ff nH aZ d0 bo (RR:=fun cm C=>compPost (model aw w) A cc none _ cm C) fun ρ' az D C m e1 lw lW mz vg aq jT rx tZ aY=> ?_
 refine⟨m,aY,fun h' hs=> ?_⟩
 refine jV (e1.eU (h':=h') (tk:=az.toks) rx (h9 aZ jT) fun b ob ah e=>(hs.2 b ah).trans e) ?_;intro lH uP dE jt _
 have wW:∀a,ρ' a≠.aV->ρ' a≠.free->eU ρ' C h' a=ρ' a:=fun a M O=>jt a (fun q=>M (by refine B q ?_;exact rx)) O
 refine⟨eU ρ' C h',lH,uP (a0.ic _ jT) (a0.trans lw),?_,D,rfl,a0.ic _ mz,(jt D (Ne.symm tZ) (bI vg)).trans vg,?_⟩
 ·have oh:=bv.trans lW
  refine⟨oh.U,fun a y e=> ?_,fun a y e=>oh.gl a y (dE a y e)⟩
  rcases oh.aD a y e with h|h
  ·exact .inl ((wW a (bI h) (bI h)).trans h)
  ·exact .inr h
 ·exact aq.bt (fun a ob e=>(wW a (bI e) (bI e)).trans e) (fun a ob e=>(wW a (bI e) (bI e)).trans e) fun ob e=>(hs.2 D (Ne.symm tZ)).trans e
theorem Ls (bn:jL CM bj F) (bz:K.f=F) (bc:f4 K A) (xd:cB w CM K env J A zc) (S:∀ed,cB w CM K ed aW A R) {elt iter:Expr} {x y:Str} {px jE pos oP:Pos} {ifs:List Expr} {items cj:List H} {fs₁ fs₂ fs₃:X}
  (sw:swapsWith (.ListComp elt [⟨.Name x px,iter,ifs,0⟩] aW pos) (some (.Name y jE)) oP.line env=pure true)
  (bZ:hv zc J iter fs=some (items,fs₁)) (dq:items.length<=a4) (ae:aW.names.lookup x=some .local) (hc:nZ J aW=true) (bo:gd R x ifs elt items {fs₁ with loc:=mh aW fs₁.loc}=some (cj,fs₂))
  (ee:eQ J y (.own (.am cj)) {fs₁ with per:=fs₂.per}=some fs₃) (a3:cp w CM K env J aT a7 ρ s fs):
  wpAny (model aw w) A (exec (.Assign [.Name y jE] (.ListComp elt [⟨.Name x px,iter,ifs,0⟩] aW pos) oP) env) (eg w CM K env J aT a7 ρ s .next fs₃) cc s:=by
 obtain⟨I,uI,gK⟩:=a3
 refine cl (vZ bn bz bc xd bZ I) ?_;intro ss l1
 have lz:=F8 hc
 obtain⟨eJ,zD,ff,nH⟩:=AO (env:=env) (scope:=aW) (fun n k aY ag=>by
  subst ag
  refine hw (I.cells n (lz.c1 n aY)) ?_;intro c v M _
  exact⟨c,M⟩)
 refine B (exec_Assign_Name_used _ _ _ _ sw) ?_
 refine wpAny_bind (wpAny_standAt (wpAny_bind ?_))
 show wpAny _ A (do let _<-comprehension (.ListComp elt [⟨.Name x px,iter,ifs,0⟩] aW pos) aW env _ (newList []) false (eval iter env) (some (assign (.Name y jE) env))) _ _ s
 refine wpAny_bind (wpAny_mono (wpAny_comprehension_free (use:=some (assign (.Name y jE) env)) (Q:=fun _ az=>eg w CM K env J aT a7 ρ s .next fs₃ .next az) rfl ss zD lz.kind lz.loc
  (wpAny_mono l1 (fun eS aj bw=>wpAny_mono bw (fun di ct dJ=> ?_) fun _ _ e=>e) fun _ _ e=>e)) (fun _ az aA=>wpAny_pure (wpAny_pure aA)) fun _ _ e=>e)
 obtain⟨aN,nL,o,fh,P,cA,rfl,rfl,aZ,a0,bv,d0⟩:=dJ
 refine DA S ae dq lz ff nH aZ d0 bo (RR:=fun cm C=>compPost (model aw w) A cc (some (assign (.Name y jE) env)) (fun _ az=>eg w CM K env J aT a7 ρ s .next fs₃ .next az) cm C) fun ρ' az D C m e1 lw lW mz vg aq jT rx tZ aY=> ?_
 have U8:=a0.ic _ mz
 have FI:=a0.ic _ jT
 have hu:=a0.trans lw
 show wpAny _ A (assign (.Name y jE) env (.ref D)) _ _ _
 refine wpAny_assign_Name (GD (ρ₀:=ρ) ee e1 ⟨D,rfl,U8,vg,aq⟩ (fun a aL x c M O=>h9 I aL x c M O) fun b8 dJ jp cN b9 op pA pu=> ?_)
 have tv:dJ.Ns C m:=by obtain⟨o,es,cr,gp,gE⟩:=aY;exact⟨o,es,cr,pA _ _ rx gp,gE⟩
 have KH:=pu C rx (fun q=>tZ (by injection q with q;exact q.symm))
 refine⟨m,tv,fun h' hs=> ?_⟩
 have KQ:a2 aT a7 b8 {az with heap:=dJ,toks:=jp}:=by
  rcases b9 with b9|b9
  ·exact(uI.trans hu).trans b9
  ·exact uI.trans (b9 _ hu)
 refine jV (cN.eU (h':=h') (tk:=jp) KH (h9 aZ jT) fun b ob ah e=>(hs.2 b ah).trans e) ?_;intro lH uP dE jt _
 have KT:a2 ρ s b8 {az with heap:=dJ,toks:=jp}:=by
  rcases b9 with b9|b9
  ·exact hu.trans b9
  ·exact b9 _ hu
 refine⟨rfl,eU b8 C h',⟨lH,uP (uI.ic _ FI) KQ,fun a z e=> ?_⟩,uP FI KT⟩
 rcases op a z (dE a z e) with h|h
 ·exact gK a z (bv.gl a z (lW.gl a z h))
 ·exact uI.ic _ h
end
end Mine
end
section
open PySem PySem.W PySem.Calls PyProof.Rows
namespace Mine
structure nQ (CM:cn) (bj:dM) (F:Frag):Prop extends uq CM bj F where
 inh:∃a n nU oC o0 tK,hr F "INHERITED"=some (.ref a)/\F.lookup a=some (qI [.str "Resources" nU,.str "MediaBox" oC,.str "CropBox" o0,.str "Rotate" tK] n)
 DY:∃t,hr F "MOST_HOPS"=some (.int 30 t)
section
variable{w:World} {CM:cn} {bj:dM} {F:Frag} {K:Top} {env ed:Env} {J aW:Scope} {A:Around} {E:Value->Shared->Prop} {ρ ρ₀ aT ρ':a5} {s c9 a7 az:Shared} {fs fs' fs₁:X} {R:bk} {C:cs} {k:Nat}
theorem ek.CA {k:Nat} (bc:ek K k A):A.units+eK<cLine:=Nat.lt_of_le_of_lt (by refine B (Nat.add_assoc _ _ _) ?_;exact Nat.add_le_add_left (Nat.le_trans (by decide:eK<=400) (Nat.le_add_left _ _)) _) bc.units
theorem W9 (bn:nQ CM bj F) (bz:K.f=F) {x:Str} {pos:Pos} {v:H} (ae:J.names.lookup x=some .globalImplicit) (q:GZ x=some v) (I:aK w CM K env J ρ s fs):
  wpAny (model aw w) A (eval (.Name x pos) env) (b3 w CM K env J ρ s fs (.U v) fs) cc s:=by
 subst bz
 refine hn q (fun h q=>cF q ?_) fun _ q=>cK q (fun h q=>cF q ?_) Z<;>rw [h] at ae|-
 ·refine TI bn.inh ?_;intro a n nU oC o0 tK M O
  refine oR M ae I.c0 I.in (by decide+kernel) (ew (tk:=s.toks) I ⟨a,_,n,rfl,I.base.fU _ _ O,?_⟩)
  exact a8.cons ⟨_,rfl⟩ (a8.cons ⟨_,rfl⟩ (a8.cons ⟨_,rfl⟩ (a8.cons ⟨_,rfl⟩ a8.nil)))
 ·refine bS bn.DY ?_;intro t M
  exact oR M ae I.c0 I.in (by decide+kernel) (ew (tk:=s.toks) I ⟨t,rfl⟩)
theorem Ws (bn:nQ CM bj F) (bz:K.f=F) (c4:gM w CM bj F k C) (bc:ek K k A) (S:cB w CM K env J A R) {f:Str} {p pos:Pos} {args:List Expr} {r:aU} (q:qa C R J f args fs=some (r,fs')) (I:aK w CM K env J ρ s fs):
  wpAny (model aw w) A (eval (.Call (.Name f p) args [] pos) env) (b3 w CM K env J ρ s fs r fs') cc s:=by
 have Ba:=bn.touq.towL
 have GW:=Ba.topV
 have kM:=GW.tojL
 refine cK q (fun ae q=>hn q (fun aB q=> ?_) fun _ q=>hn q (fun aB q=> ?_) fun _ q=>hn q (fun _ q=> ?_) fun _ q=>hn q (fun aB q=> ?_) fun _ q=> ?_) Z
 ·refine b5 q (fun e c bA q=>b5 q (fun gJ fs₁ M q=>bG q (fun v O q=>bG q (fun b Y q=>cK q (fun aC q=>b6 q ?_) Z) Z) Z) Z) Z
  rw [aB] at ae|-
  refine bS (Jl bA) ?_;intro tB ak
  refine B ak ?_
  exact Q4 GW bz bc S ae M O Y aC I
 ·refine b5 q (fun vs fs₁ M q=>b5 q (fun a b O q=>b6 q ?_) Z) Z
  rw [aB] at ae|-
  exact JH kM bz bc S ae (IQ O▸M) I
 ·refine bG q (fun e bA q=>b5 q (fun gJ fs₁ M q=>bG q (fun v O q=>bG q (fun r' Y q=>b6 q ?_) Z) Z) Z) Z
  refine B (ty bA) ?_
  exact R8 kM bz bc S ae M O Y I
 ·refine cK q (fun bA q=>b6 q ?_) Z
  rw [aB] at ae|-
  refine B (List.isEmpty_iff.mp bA) ?_
  refine et bn.Ec ?_;intro YA ck bi eY
  refine lN (bz▸bi) ae I (by decide+kernel) (xR S (bz▸eY.keep) (vs:=[]) (fs':=fs) rfl I fun bf aj aN aZ a0 bv ay=> ?_)
  refine B (show bf=[] from ay) ?_
  exact iF a0 bv (HN kM.tou0.toqF bz bc ck eY aZ)
 ·unfold sM at q
  generalize aR:jl f=t at q
  cases t with
  |some names=>exact b5 q (fun vs fs₁ M q=>bG q (fun l hz q=>b6 q (Sw Ba bz bc S ae aR M hz I)) Z) Z
  |none=>exact cK q (fun an q=>b5 q (fun vs fs₁ M q=>x7 q (fun r' per O q=>b6 q (wpAny_mono (G1 kM.tou0 bz c4 bc S an ae M O I) (fun v aj P=>P) fun e aj P=>nomatch P.1)) Z) Z) Z
theorem Kd (bn:nQ CM bj F) (bz:K.f=F) {x:Str} {pos:Pos} {r:aU} (q:Hb J x fs=some (r,fs')) (I:aK w CM K env J ρ s fs):
  wpAny (model aw w) A (eval (.Name x pos) env) (b3 w CM K env J ρ s fs r fs') cc s:=
 bG q (fun k ag q=>hn q (fun ae q=>bG q (fun v ay q=>b6 q (W9 bn bz (ae▸ag) ay I)) Z) fun _ q=>xG q fun hd q=>bG q (fun bh aq q=>b6 q (Lu aq (Bool.eq_false_iff.mpr hd) I)) Z) Z
theorem Sp (bn:nQ CM bj F) (bz:K.f=F) (bc:ek K k A) {ca:Scope->bk} (S:∀env J,cB w CM K env J A (ca J)) {elt:Expr} {gens:List Comprehension} {aW:Scope} {pos:Pos} {r:aU} (q:xc ca J elt gens aW fs=some (r,fs')) (I:aK w CM K env J ρ s fs):
  wpAny (model aw w) A (eval (.ListComp elt gens aW pos) env) (b3 w CM K env J ρ s fs r fs') cc s:=by
 refine bG q (fun g bi q=>b5 q (fun items fs₁ M q=>cK q (fun hz q=>b5 q (fun cj fs₂ O q=>b6 q ?_) Z) Z) Z) Z
 refine bS (Eu bi) ?_;intro px e
 refine B e ?_
 have hz:=Bool.and_eq_true_iff.mp hz
 have oG:=Bool.and_eq_true_iff.mp hz.2
 exact PC bn.touq.towL.topV.tojL bz bc.eD (S env J) (fun ed=>S ed aW) M (of_decide_eq_true hz.1) (beq_iff_eq.mp oG.1) oG.2 O I
theorem Li (S:cB w CM K env J A R) {e i:Expr} {pos:Pos} {r:aU} (q:yt R e i fs=some (r,fs')) (I:aK w CM K env J ρ s fs):
  wpAny (model aw w) A (eval (.Subscript e i pos) env) (b3 w CM K env J ρ s fs r fs') cc s:=by
 unfold yt at q
 generalize hs:oY i=t at q
 cases t with
 |some t=>
  refine b5 q (fun gJ fs₁ M q=>b5 q (fun a fs₂ O q=>b5 q (fun b fs₃ Y q=>bG q (fun l aC q=>cK q (fun hz q=>b6 q ?_) Z) Z) Z) Z) Z
  refine bS (Ix hs) ?_;intro p ak
  refine B ak ?_
  exact Ni (r':=gJ) S M O Y (vj aC) hz I
 |none=>
  refine b5 q (fun gJ fs₁ M q=>rM q (fun eI fs₂ O q=>bG q (fun v Y q=>bG q (fun Yt ec q=>b6 q ?_) Z) Z) Z) Z
  exact Subscript_ (S.eV M I fun e9 aj aN aZ a0 bv aP=>S.eV O aZ fun lS ct b8 cN b9 dG nN=>iF (a0.trans b9) (bv.trans dG) (Mq (Og hs) ec cN (hT cN (aP.bt b9 dG) Y) (.ga nN)))
theorem PX (S:cB w CM K env J A R) {bU:UnaryOp} {x:Expr} {pos:Pos} {r:aU} (q:Aq R bU x fs=some (r,fs')) (I:aK w CM K env J ρ s fs):
  wpAny (model aw w) A (eval (.UnaryOp bU x pos) env) (b3 w CM K env J ρ s fs r fs') cc s:=by
 cases bU with
 |Not=>
  refine EK q (fun b fs₁ M q=>b6 q (wpAny_UnaryOp (S.eV M I fun v aj aN aZ a0 bv aP=> ?_))) Z
  refine B (show v=.bool b from aP) ?_
  exact not_value (wpAny_truthy_bool ⟨aN,aZ,a0,bv,rfl⟩)
 |USub=>
  refine BH q (fun i fs₁ M q=>b6 q (wpAny_UnaryOp (S.eV M I fun v aj aN aZ a0 bv aP=> ?_))) Z
  refine aP.elim fun t e=> ?_
  refine B e ?_
  exact PyProof.Rows.neg_int (b3.trans a0 bv (ew aZ ⟨_,rfl⟩))
 |_=>exact Z q
theorem KX (bn:nQ CM bj F) (bz:K.f=F) (c4:gM w CM bj F k C) (bc:ek K k A) {ca:Scope->bk} (S:∀env J,cB w CM K env J A (ca J)) {e:Expr} {r:aU} (q:iY C ca J e fs=some (r,fs')) (I:aK w CM K env J ρ s fs):
  wpAny (model aw w) A (eval e env) (b3 w CM K env J ρ s fs r fs') cc s:=by
 have kM:=bn.touq.towL.topV.tojL
 have fe:=S env J
 cases e with
 |Constant c kk pos=>exact H7 q I
 |Name x pos=>exact Kd bn bz q I
 |BoolOp bU vs pos=>
  cases bU with
  |Or=>exact Z q
  |And=>exact b5 (show(ob (nR (ca J) vs fs) fun b fs₁=>some (.U (.bool b),fs₁))=some (r,fs') from q) (fun b fs₁ M q=>b6 q (by rw [arm_eval_BoolOp];exact Oa fe _ M I)) Z
 |BinOp l bU jJ pos=>
  exact b5 q (fun a fs₁ M q=>b5 q (fun b fs₂ O q=>hH q (fun YN oT Y aC q=>bG q (fun c bR q=>b6 q (wpAny_BinOp (fe.eV M I fun lP aj aN aZ a0 bv gJ=>fe.eV O aZ fun nI ct b8 cN b9 dG uz=>
   iF (a0.trans b9) (bv.trans dG) (Js bR cN (hT cN (gJ.bt b9 dG) Y) (hT cN uz aC))))) Z) Z) Z) Z
 |UnaryOp bU x pos=>exact PX fe q I
 |IfExp c a b pos=>
  refine b5 q (fun t fs₁ M q=>wpAny_IfExp (fe.lx M I fun aj aN aZ a0 bv=> ?_)) Z
  cases t with
  |true=>exact iF a0 bv (fe.ba a fs₁ r fs' q aN aj aZ)
  |false=>exact iF a0 bv (fe.ba b fs₁ r fs' q aN aj aZ)
 |Dict ks vs pos=>exact b5 q (fun l fs₁ M q=>cK q (fun hz q=>b6 q (Ig (bz▸kM.sm) fe M hz I)) Z) Z
 |List es pos=>exact b5 q (fun vs fs₁ M q=>cK q (fun hz q=>b6 q (RO fe M hz I)) Z) Z
 |Tuple es kk pos=>exact b5 q (fun vs fs₁ M q=>cK q (fun hz q=>b6 q (IS fe M hz I)) Z) Z
 |ListComp elt gens aW pos=>exact Sp bn bz bc S q I
 |Compare l e6 lL pos=>
  refine b5 q (fun a fs₁ M q=>b5 q (fun b fs₂ O q=>b6 q ?_) Z) Z
  rw [arm_eval_Compare]
  exact wpAny_bind (fe.eV M I fun v aj aN aZ a0 bv aP=>iF a0 bv (G2 fe bc.CA _ O aZ aP).1)
 |Call f args lR pos=>
  refine cK q (fun ag q=> ?_) Z
  refine B (List.isEmpty_iff.mp ag) ?_
  cases f with
  |Attribute o m h3=>
   refine cK q (fun hz q=>b5 q (fun gJ fs₁ M q=> ?_) Z) Z
   have hz:=Bool.and_eq_true_iff.mp hz
   have mv:=Bool.and_eq_true_iff.mp hz.1
   exact VM bn.touq bz c4 bc fe mv.1 mv.2 (of_decide_eq_true hz.2) M q I
  |Name f p=>exact Ws bn bz c4 bc fe q I
  |_=>exact Z q
 |Attribute o a pos=>
  refine b5 q (fun gJ fs₁ M q=>b5 q (fun c l O q=>cK q (fun hz q=>bG q (fun v ay q=>b6 q ?_) Z) Z) Z) Z
  have hz:=Bool.and_eq_true_iff.mp hz
  exact Attribute_any_ (fe.eV M I fun e9 aj aN aZ a0 bv aP=>iF a0 bv (SQ (bz▸kM.tou0.toqF.tozq) aZ (hT aZ aP (NJ O)).dS hz.1 ay)) (by(rw [arm_eval_Attribute];refine B (Ex hz.2) ?_;rfl))
 |Subscript o i pos=>exact Li fe q I
 |_=>exact Z q
theorem CF (S:cB w CM K env J A R) {e:Expr} {b:Bool} (an:∀{Q E},wpAny (model aw w) A (eval e env) (fun v aj=>wpAny (model aw w) A (truthy v) Q E aj) E s->wpAny (model aw w) A (isTrue e env (eval e env)) Q E s)
  (q:uC R e fs=some (b,fs')) (I:aK w CM K env J ρ s fs):
  wpAny (model aw w) A (isTrue e env (eval e env)) (kj w CM K env J ρ s fs b fs') cc s:=
 b5 q (fun r fs₁ bH q=>bG q (fun v b7 q=>bG q (fun gh c7 q=>b6 q (an (S.eV bH I fun e9 aj aN aZ a0 bv aP=>rT a0 bv (PP c7 aZ (hT aZ aP b7))))) Z) Z) Z
theorem HS (bn:nQ CM bj F) (bz:K.f=F) (c4:gM w CM bj F k C) (bc:ek K k A) {ca:Scope->bk} (S:∀env J,cB w CM K env J A (ca J)) {e:Expr} {b:Bool} (q:rs ca J e fs=some (b,fs')) (I:aK w CM K env J ρ s fs):
  wpAny (model aw w) A (isTrue e env (eval e env)) (kj w CM K env J ρ s fs b fs') cc s:=by
 have fe:=S env J
 cases e with
 |UnaryOp bU x pos=>
  cases bU with
  |Not=>exact b5 q (fun gh fs₁ M q=>b6 q (wpAny_isTrue_Not (fe.lx M I fun aj aN aZ a0 bv=>⟨rfl,aN,aZ,a0,bv⟩))) Z
  |_=>exact CF fe (fun h=>isTrue_plain h rfl) q I
 |BoolOp bU vs pos=>exact wpAny_isTrue_BoolOp (NT fe _ q I)
 |Compare l e6 lL pos=>
  refine b5 q (fun a fs₁ M q=> ?_) Z
  rw [arm_isTrue_Compare]
  exact wpAny_bind (fe.eV M I fun v aj aN aZ a0 bv aP=>rT a0 bv (G2 fe bc.CA _ q aZ aP).2)
 |IfExp c a b pos=>exact Z q
 |_=>exact CF fe (fun h=>isTrue_plain h rfl) q I
end
end Mine
end
section
open PySem PySem.W PySem.Calls PyProof.Rows
namespace Mine
section
variable{w:World} {CM:cn} {bj:dM} {F:Frag} {K:Top} {env ed:Env} {J aW:Scope} {A:Around} {E:Value->Shared->Prop} {ρ ρ₀ aT ρ':a5} {s c9 a7 az:Shared} {fs fs' fs₁:X} {R:bk} {C:cs} {k:Nat}
theorem To {l:Addr} {vs:List Value} {n:Nat} {i:Int} {t:Tok} {v:Value} {Q:Unit->Shared->Prop} (cq:s.heap.get? l=some (mD vs n)) (aL:0<=i) (CW:i<2^63) (aE:i.toNat<vs.length)
  (cW:∀h' jf,h'.get? l=some (mD (vs.set i.toNat v) jf)->Heap.SameBut l s.heap h'->Q () {s with heap:=h'}):
  wpAny (model aw w) A (setItem (.ref l) (.int i t) v) Q E s:=by
 have aq:s.heap.IsList l (Array.mk vs):=fv cq
 unfold setItem
 try with_reducible refine wpAny_holding ?_
 first|refine wpAny_bind (wpAny_pure ?_)|skip
 refine wpAny_bind (wpAny_sequenceKey aq.typeIs (by decide) ?_)
 refine wpAny_bind (wpAny_callSpecial?_slot (name:=Str.ofString "__setitem__") aq.typeIs slot_list_setitem
  (wpAny_call_entry slot_list_setitem aq.typeIs entry_list_setitem ?_ (args_list_setitem _ _ _)))
 show wpAny _ _ (Builtin.List.listSubscript? (.int i t)>>=_) _ _ s
 refine wpAny_bind (wpAny_listSubscript_int (fitsIndex_of aL CW) ?_)
 clear CW
 refine bS (Int.eq_ofNat_of_zero_le aL) ?_;intro j u;subst u
 have bF:j<(Array.mk vs).size:=by simpa using aE
 have rI:(Array.mk vs)[j]? =some (Array.mk vs)[j]:=Array.getElem?_eq_getElem bF
 show wpAny _ _ ((seqItemAt l j>>=fun r=>pure (r.map (j, ·)))>>=_) _ _ s
 refine wpAny_bind (wpAny_bind (wpAny_seqItemAt cq rfl (wpAny_pure ?_)))
 refine B rI ?_
 show wpAny _ _ (setSeqItemAt l j v>>=_) _ _ s
 have Di:=get?_update_seq cq (·.setIfInBounds j v)
 have e:(Array.mk vs).setIfInBounds j v=Array.mk (vs.set j v):=by
  apply Array.toList_inj.mp
  simp
 refine wpAny_bind (wpAny_setSeqItemAt cq rfl ?_)
 first
  |exact wpAny_bind (wpAny_pure (wpAny_pure ⟨.none,rfl,wpAny_pure (cW _ _ (by(refine B Di ?_;refine B e ?_);rfl) (Heap.SameBut.update ..))⟩))
  |exact wpAny_pure ⟨.none,rfl,wpAny_pure (cW _ _ (by rw [Di,e];rfl) (Heap.SameBut.update ..))⟩
theorem RG {base:aU} {c:H} {jx:H->X} {oT:Value} (q:A9 base fs=some (c,jx)) (I:aK w CM K env J ρ s fs) (ah:eP w CM ρ₀ ρ s fs base oT):
  ∃a,oT=.ref a/\dN w CM ρ s.heap a c/\∀h' tk c',Heap.SameBut a s.heap h'->dN w CM ρ h' a c'->aK w CM K env J ρ {s with heap:=h',toks:=tk} (jx c')/\a2 ρ s ρ {s with heap:=h',toks:=tk}:=by
 cases base with
 |own _=>exact Z q
 |var x=>
  refine bG q (fun v ay q=>b6 q ?_) Z
  have bi:=od ay
  refine et (ah.r9 I bi) ?_;intro a ak ar bQ
  exact⟨a,ak,bQ,fun h' tk c' hs nS=>⟨(I.p8 (tk:=tk) ar bi hs nS).1,(I.p8 (tk:=tk) ar bi hs nS).2.1⟩⟩
 |U v=>
  refine bG q (fun k ag q=>bG q (fun y aQ q=>b6 q ?_) Z) Z
  replace ah:=(P6 ag)▸ah
  refine bb ah ?_;clear ah;intro a ak ar
  refine bb (I.base.fS a k ar) ?_;intro x M O
  exact⟨a,ak,Option.some.inj (M.symm.trans aQ)▸O,fun h' tk c' hs nS=>I.Qe ar hs nS⟩
theorem Wj {base:aU} {eI v:H} {oT lS qD:Value} {Q:Unit->Shared->Prop} (q:qs base eI v fs=some fs') (I:aK w CM K env J ρ s fs) (ah:eP w CM ρ₀ ρ s fs base oT) (ag:bX w CM ρ eI lS) (ay:bX w CM ρ v qD)
  (h:∀h' tk,aK w CM K env J ρ {s with heap:=h',toks:=tk} fs'->a2 ρ s ρ {s with heap:=h',toks:=tk}->Q () {s with heap:=h',toks:=tk}):
  wpAny (model aw w) A (setItem oT lS qD) Q E s:=by
 refine b5 q (fun c jx an q=> ?_) Z
 refine et (RG an I ah) ?_;intro a u fy DZ;subst u;clear an ah
 cases c with
 |V l=>
  refine bG q (fun cS eB q=>cK q (fun hz q=> ?_) Z) Z
  replace h:=(Eq.symm (Option.some.inj q))▸h
  have hm:iy cS lS=true:=cv.key (s:=s) (.ga ag) eB
  refine GI fy ?_;intro ob es cr aS aL ak ar bQ cX dn
  refine ef dn ?_;intro dn fg jM
  refine wpAny_setItem_pairs (knd:=kk w) hm ⟨ob,es,cr,ak,ar,bQ,cX,dn,fg⟩ (fun h' rj fD=> ?_) (by refine B jM.length ?_;exact Nat.le_trans hz jb)
  refine qC rj ?_;clear rj;intro hC d2 vx d9 fO hG kC pm q1
  have z:=DZ h' (s.toks+1) (.V (cU cS v l)) fD ⟨hC,d2,vx,_,aL,d9,fO,hG,kC,pm,q1,jM.set fg ay⟩
  exact h _ _ z.1 z.2
 |am l=>
  refine bG q (fun i aR q=>cK q (fun hz q=> ?_) Z) Z
  replace h:=(Eq.symm (Option.some.inj q))▸h
  have mv:=Bool.and_eq_true_iff.mp hz
  have oG:=Bool.and_eq_true_iff.mp mv.2
  refine hw fy ?_;intro vs n ak ar
  replace ag:=(jK aR)▸ag
  refine ag.elim fun t u=> ?_;subst u
  refine To ak (of_decide_eq_true mv.1) (Int.lt_trans (of_decide_eq_true oG.1) (by decide)) (by refine B ar.length ?_;exact of_decide_eq_true oG.2) fun h' jf bQ fD=> ?_
  have z:=DZ h' s.toks (.am (l.set i.toNat v)) fD ⟨_,jf,bQ,ar.set _ ay⟩
  exact h _ s.toks z.1 z.2
 |_=>exact Z q
theorem nh.draw {items:List H} {o:Obj} {fh:List Addr} {P:Nat->Value->Prop} {cA:Nat->Heap->Prop} (d0:nh w CM A ρ s items o fh P cA):
  ∀(n i:Nat) (t:Shared) (Q:List Value->Shared->Prop),cA i t.heap->i+n<=items.length->
  (∀vs h' tk,a8 w CM ρ ((items.drop i).take n) vs->cA (i+n) h'->(∀b ob,b≠s.heap.objs.size->t.heap.get? b=some ob->h'.get? b=some ob)->Q vs {t with heap:=h',toks:=tk})->wpAny (model aw w) A (draw (.ref s.heap.objs.size) n) Q E t:=by
 intro n
 induction n with
 |zero=>
  intro i t Q ao qH cW
  exact wpAny_pure (cW [] t.heap t.toks a8.nil ao fun _ _ _ e=>e)
 |succ n ih=>
  intro i t Q ao qH cW
  show wpAny _ _ (pyNext (.ref s.heap.objs.size)>>=_) Q E t
  have cy:i<items.length:=Nat.lt_of_lt_of_le (Nat.lt_add_of_pos_right (Nat.succ_pos n)) qH
  rw [show i+(n+1)=i+1+n from(Nat.add_right_comm i 1 n).symm] at qH cW
  refine wpAny_bind (d0.ku.item i t _ _ cy ao fun v bw kQ i7 Pc ml=> ?_)
  refine bb (d0.bf i v cy i7) ?_;intro x ae aP
  refine wpAny_bind (wpAny_holding (ih (i+1) _ _ Pc qH fun vs dJ jp iT O8 M4=>wpAny_pure ?_))
  refine cW _ dJ jp ?_ O8 fun b ob ah e=>M4 b ob ah (ml b ob (fun q=>ah (List.mem_singleton.mp q)) e)
  (refine B (List.drop_eq_getElem_cons cy) ?_;refine B List.take_succ_cons ?_;refine B (show items[i]=x from Option.some.inj ((List.getElem?_eq_getElem cy).symm.trans ae)) ?_)
  exact a8.cons aP iT
theorem Bu (bc:f4 K A) {l:List H} {v:Value} {n:Nat} {Q:List Value->Shared->Prop} (aE:n=l.length) (I:aK w CM K env J ρ s fs) (aP:bX w CM ρ (.aF l) v)
  (h:∀ρ' vs h' tk,aK w CM K env J ρ' {s with heap:=h',toks:=tk} fs->a2 ρ s ρ' {s with heap:=h',toks:=tk}->cb ρ fs.loc ρ' fs.loc->a8 w CM ρ' l vs->Q vs {s with heap:=h',toks:=tk}):
  wpAny (model aw w) A (unpackItems v n none) Q E s:=by
 subst aE
 refine dH (id aP) ?_;intro a cZ m u;subst u;intro M O
 have iB:=I.base.bK _ _ M
 have aG:s.heap.IsTuple a (Array.mk cZ):=mr iB
 unfold unpackItems
 refine wpAny_bind ?_
 unfold notIterableAtAll
 refine wpAny_bind (wpAny_specialOf aG.typeIs slot_tuple_iter.lookup ?_)
 refine wpAny_pure ?_
 simp only [Bool.false_eq_true,if_false]
 refine wpAny_bind (wpAny_holding (wpAny_mono (C0 bc (x:=.aF l) rfl I aP) (fun di aj P=> ?_) fun _ _ f=>f))
 refine jF P ?_;clear P;intro aN nL o fh P
 refine u5 P ?_;clear P;intro P cA u sb aZ a0 bv d0;subst u;subst sb
 have fI:aN nL.heap.objs.size=.free:=(aZ.base.c1 _).mpr fd
 refine jV (aZ.push d0.e7) ?_;intro cN b9 dG pu _
 refine wpAny_bind (wpAny_holding (d0.draw l.length 0 {nL with heap:=nL.heap.push o} _ d0.ao (Nat.le_of_eq (Nat.zero_add _)) fun vs fk TW iT w7 TQ=> ?_))
 (replace iT:=List.drop_zero▸iT;replace iT:=List.take_length▸iT)
 have bC:=iT.length
 refine B (if_neg (by rw [bC];exact Nat.lt_irrefl _)) ?_
 replace w7:=(Nat.zero_add _)▸w7
 refine wpAny_bind (wpAny_holding (d0.ku.done {nL with heap:=fk,toks:=TW} _ _ w7 fun xL En R9=> ?_))
 simp only [Option.isSome_none,Bool.false_eq_true,if_false]
 refine jV (cN.eU (h':=xL) (tk:=En) pu (h9 aZ fI) fun b ob ah e=>R9 b ob (fun q=>ah (List.mem_singleton.mp q)) (TQ b ob ah e)) ?_;intro hi eh KZ HM _
 have hu:=eh fI b9
 have ao:=a0.ao
 refine i9 ao ?_;clear ao;intro bx EB e
 subst e
 refine wpAny_pure (h _ vs xL En hi (a0.trans hu) (bv.trans ⟨dG.U,fun b y e=> ?_,fun b y e=>dG.gl b y (KZ b y e)⟩) (iT.bt hu.bK hu.per))
 rcases dG.aD b y e with z|z
 ·exact .inl ((HM b (d6 z pu) (bI z)).trans z)
 ·exact .inr z
end
end Mine
end
section
open PySem PySem.W PySem.Calls PyProof.Rows
namespace Mine
section
variable{w:World} {CM:cn} {bj:dM} {F:Frag} {K:Top} {env ed:Env} {J aW:Scope} {A:Around} {E:Value->Shared->Prop} {ρ ρ₀ aT ρ':a5} {s c9 a7 az:Shared} {fs fs' fs₁:X} {R:bk} {C:cs} {k:Nat}
theorem eg.trans {aN:a5} {aj ct:Shared} {ai:bE} {f:Flow} (av:a2 ρ s aN aj) (P:eg w CM K env J aT a7 aN aj ai fs' f ct):eg w CM K env J aT a7 ρ s ai fs' f ct:=P.ext av
theorem cp.o1 {l:List (Str×cf)} (a3:cp w CM K env J aT a7 ρ s fs) (h:∀y,Mine.getL y l=Mine.getL y fs.loc):cp w CM K env J aT a7 ρ s {fs with loc:=l}:=⟨a3.dA.o1 h,a3.ext,a3.gK⟩
theorem Jv {r r':aU} {v:Value} (q:fs.take r=some (r',fs')) (a3:cp w CM K env J aT a7 ρ s fs) (aP:eP w CM ρ₀ ρ s fs r v) (aL:∀a,ρ₀ a=.free->aT a=.free):
  ∃ρ',cp w CM K env J aT a7 ρ' s fs'/\mM w CM aT ρ' s r' v:=by
 cases r with
 |U y=>exact b6 q ⟨ρ,a3,aP⟩
 |own y=>
  refine b6 q ⟨ρ,a3,?_⟩
  exact aP.imp fun a h=>⟨h.1,aL a h.2.1,h.2.2⟩
 |var x=>
  refine bG q (fun c hc q=>b6 q ?_) Z
  have bi:=od hc
  refine et (aP.r9 a3.dA bi) ?_;intro a u;subst u;intro bA hc
  refine nO (a3.dA.fl x) ?_;intro jG el cT hk
  exact⟨_,⟨jG,a3.ext.trans el,fun b y e=>a3.gK b y (cT b y e)⟩,a,rfl,a3.gK a x bA,if_pos bA,hc.bt el.bK el.per fun _ e=>e⟩
theorem xr {aN:a5} {aj:Shared} {x:Str} {r:aU} {v:Value} {Q:Unit->Shared->Prop} (q:eQ J x r fs₁=some fs') (a3:cp w CM K env J aT a7 ρ s fs) (aZ:aK w CM K env J aN aj fs₁) (a0:a2 ρ s aN aj) (bv:cb ρ fs.loc aN fs₁.loc) (aP:eP w CM ρ aN aj fs₁ r v)
  (h:∀az,(∃ρ',cp w CM K env J aT a7 ρ' az fs'/\a2 ρ s ρ' az)->Q () az):
  wpAny (model aw w) A (storeName env x v) Q E aj:=by
 refine GD q aZ aP (fun a aL y c M O=>h9 a3.dA aL y c M O) fun b8 dJ jp cN b9 op pA pu=>h _ ?_
 have hu:a2 ρ s b8 {aj with heap:=dJ,toks:=jp}:=by
  rcases b9 with b9|b9
  ·exact a0.trans b9
  ·exact b9 _ a0
 refine⟨b8,⟨cN,a3.ext.trans hu,fun a y e=> ?_⟩,hu⟩
 rcases op a y e with z|z
 ·exact a3.gK a y (bv.gl a y z)
 ·exact a3.ext.ic _ z
theorem U0 {x:Str} {v:H} (q:eQ J x (.U v) fs=some fs'):fs'={fs with loc:=bY x (.U v) fs.loc}/\∀ez:X,eQ J x (.U v) ez=some {ez with loc:=bY x (.U v) ez.loc}:=
 bG q (fun k ag q=>bG q (fun c hc q=>⟨(Option.some.inj q).symm,fun ez=>by
  exact bq ag (bq hc rfl)⟩) Z) Z
theorem nW {t:Expr} {ts:List Expr} {vs:List H} {G:Prop} (q:hJ J (t::ts) vs fs=some fs') (k:∀x px v cZ,t=.Name x px->vs=v::cZ->eQ J x (.U v) fs=some {fs with loc:=bY x (.U v) fs.loc}->(∀ez:X,eQ J x (.U v) ez=some {ez with loc:=bY x (.U v) ez.loc})->
  hJ J ts cZ {fs with loc:=bY x (.U v) fs.loc}=some fs'->G):G:=by
 cases vs with
 |nil=>exact Z q
 |cons v cZ=>
  refine bG q (fun x ae q=>bG q (fun fs₁ hs q=> ?_) Z) Z
  refine bS (n8 ae) ?_;intro px e
  refine cl (U0 hs) ?_;intro ak h
  replace q:=ak▸q
  exact k x px v cZ e rfl (h fs) h q
theorem sC {vs:List H} (q:hJ J [] vs fs=some fs'):vs=[]/\fs=fs':=by
 cases vs with
 |nil=>exact⟨rfl,Option.some.inj q⟩
 |cons _ _=>exact Z q
noncomputable def Ci (w:World) (CM:cn) (K:Top) (env:Env) (J:Scope) (aT:a5) (a7:Shared) (ρ:a5) (s:Shared) (fs:X) (az:Shared):Prop:=∃ρ',cp w CM K env J aT a7 ρ' az fs/\a2 ρ s ρ' az
theorem Mi (ts:List Expr):∀{vs:List H} {bf:List Value} {fs fs':X} {ρ:a5} {s:Shared},hJ J ts vs fs=some fs'->cp w CM K env J aT a7 ρ s fs->a8 w CM ρ vs bf->
  wpAny (model aw w) A (assignInOrder ((assignEach ts env).map (·.2)) bf) (fun _ az=>Ci w CM K env J aT a7 ρ s fs' az) E s:=by
 induction ts with
 |nil=>
  intro vs bf fs fs' ρ s q a3 ay
  refine cl (sC q) ?_;intro ak ar
  replace ay:=ak▸ay
  refine B (show bf=[] from ay) ?_
  exact wpAny_pure ⟨ρ,ar▸a3,a2.refl ..⟩
 |cons t ts ih=>
  intro vs bf fs fs' ρ s q a3 ay
  refine nW q fun x px v cZ ak ar hs _ bo=> ?_
  replace ay:=ar▸ay
  refine B ak ?_
  refine dP ay ?_;clear ay;intro u rg M O Y
  subst M
  show wpAny _ A (do holding rg (assign (.Name x px) env u);assignInOrder ((assignEach ts env).map (·.2)) rg) _ _ s
  refine wpAny_bind (wpAny_holding (PySem.wpAny_assign_Name (q4 hs a3.dA O fun aN bw kQ aZ a0 iu _=> ?_)))
  exact wpAny_mono (ih bo ⟨aZ,a3.ext.trans a0,fun a y e=>a3.gK a y (iu a y e)⟩ (Y.bt a0.bK a0.per)) (fun _ ct P=>P.imp fun b8 z=>⟨z.1,a0.trans z.2⟩) fun _ _ e=>e
theorem qu {x y:Str} {v:cf} {l:List (Str×cf)}:Mine.getL y (bY x v l)=if y=x then some v else Mine.getL y l:=by
 by_cases q:y=x
 ·subst q;(refine B (if_pos rfl) ?_;refine B kq ?_;rfl)
 ·(refine B (if_neg q) ?_;refine B (ik q) ?_;rfl)
theorem JB (ts:List Expr):∀{xs:List Str} {vs:List H} {bf:List Value} {fs fs':X} {ρ:a5} {s:Shared},hJ J ts vs fs=some fs'->ts.map gT=xs.map some->cp w CM K env J aT a7 ρ s fs->a8 w CM ρ vs bf->
  wpAny (model aw w) A (assignInOrder (xs.map fun n=>bindName env n) bf) (fun _ az=>Ci w CM K env J aT a7 ρ s fs' az) E s:=by
 induction ts with
 |nil=>
  intro xs vs bf fs fs' ρ s q e a3 ay
  cases xs with
  |cons _ _=>exact(nomatch e)
  |nil=>
   refine cl (sC q) ?_;intro ak ar
   replace ay:=ak▸ay
   refine B (show bf=[] from ay) ?_
   exact wpAny_pure ⟨ρ,ar▸a3,a2.refl ..⟩
 |cons t ts ih=>
  intro xs vs bf fs fs' ρ s q e a3 ay
  cases xs with
  |nil=>exact(nomatch e)
  |cons y cj=>
   refine nW q fun x px v cZ ak ar hs _ bo=> ?_
   replace ay:=ar▸ay
   refine dP ay ?_;clear ay;intro u rg M O Y
   subst M
   have cg:=List.cons.inj e
   refine bu (Option.some.inj ((congrArg gT ak).symm.trans cg.1)) ?_
   show wpAny _ A (do holding rg (bindName env x u);assignInOrder (cj.map fun n=>bindName env n) rg) _ _ s
   refine wpAny_bind (wpAny_holding (wpAny_bindName (q4 hs a3.dA O fun aN bw kQ aZ a0 iu _=> ?_)))
   exact wpAny_mono (ih bo cg.2 ⟨aZ,a3.ext.trans a0,fun a y e=>a3.gK a y (iu a y e)⟩ (Y.bt a0.bK a0.per)) (fun _ ct P=>P.imp fun b8 z=>⟨z.1,a0.trans z.2⟩) fun _ _ e=>e
theorem set_comm {x y:Str} {a b:cf} {l:List (Str×cf)} (h:¬x=y) (z:Str):Mine.getL z (bY y b (bY x a l))=Mine.getL z (bY x a (bY y b l)):=by
 (refine B qu ?_;refine B qu ?_;refine B qu ?_;refine B qu ?_)
 by_cases M:z=y
 ·(refine B (if_pos M) ?_;refine B (if_neg (fun e=>h (e.symm.trans M))) ?_;refine B (if_pos M) ?_;rfl)
 ·(refine B (if_neg M) ?_;refine B (if_neg M) ?_;rfl)
theorem OA {y:Str} {b:cf} {l c8:List (Str×cf)} (h:∀z,Mine.getL z l=Mine.getL z c8) (z:Str):Mine.getL z (bY y b l)=Mine.getL z (bY y b c8):=by
 (refine B qu ?_;refine B qu ?_;refine B (h _) ?_;rfl)
theorem sJ {x:Str} {px:Pos} {ts:List Expr} {v:H} {cZ:List H} (h:∀ez:X,eQ J x (.U v) ez=some {ez with loc:=bY x (.U v) ez.loc}):hJ J (.Name x px::ts) (v::cZ) fs=hJ J ts cZ {fs with loc:=bY x (.U v) fs.loc}:=by
 show br (eQ J x (.U v) fs) (fun fs₁=>hJ J ts cZ fs₁)=_
 refine B (h _) ?_;rfl
theorem Qq {ts:List Expr} {vs:List H} (aq:ts.length=2\/ts.length=3) (hd:vy ts=true) (q:hJ J ts vs fs=some fs'):
  ∃fs₂,hJ J ts.reverse vs.reverse fs=some fs₂/\fs'.per=fs₂.per/\∀y,Mine.getL y fs'.loc=Mine.getL y fs₂.loc:=by
 have ht:=of_decide_eq_true (Bool.and_eq_true_iff.mp hd).2
 clear hd
 cases ts with
 |nil=>exact aq.elim (fun h=>nomatch h) fun h=>nomatch h
 |cons nU ts=>cases ts with
  |nil=>exact aq.elim (fun h=>nomatch h) fun h=>nomatch h
  |cons oC ts=>
   refine nW q fun x px v cZ ak ar _ d3 q=>nW q fun y jE u Yu bQ cX _ dR q=> ?_
   rw [ak,bQ] at ht|-
   (refine B ar ?_;refine B cX ?_)
   have rK:¬x=y:=fun e=>(List.nodup_cons.mp ht).1 (by refine B e ?_;exact List.mem_cons_self)
   cases ts with
   |nil=>
    refine cl (sC q) ?_;intro dn fg
    (refine B dn ?_;refine bu fg ?_)
    exact⟨_,(sJ dR).trans (sJ d3),rfl,set_comm rK⟩
   |cons o0 ts=>cases ts with
    |cons _ _=>exact aq.elim (fun h=>nomatch h) fun h=>nomatch h
    |nil=>
     refine nW q fun z lM t Zl dn fg _ fP q=> ?_
     refine cl (sC q) ?_;intro jM n5
     rw [dn] at ht|-
     (refine B fg ?_;refine B jM ?_;refine bu n5 ?_)
     have Ko:¬x=z:=fun e=>(List.nodup_cons.mp ht).1 (by refine B e ?_;exact List.mem_cons_of_mem _ List.mem_cons_self)
     have wJ:¬y=z:=fun e=>(List.nodup_cons.mp (List.nodup_cons.mp ht).2).1 (by refine B e ?_;exact List.mem_cons_self)
     exact⟨_,(sJ fP).trans ((sJ dR).trans (sJ d3)),rfl,fun k=>(set_comm wJ k).trans ((OA (set_comm Ko) k).trans (set_comm rK k))⟩
theorem RV {f:Expr->Option Str} (aB:∀e x,f e=some x->gT e=some x) (ts:List Expr):(ts.filterMap f).length=ts.length->ts.map gT=(ts.filterMap f).map some:=by
 induction ts with
 |nil=>intro _;rfl
 |cons t ts ih=>
  intro h
  cases aG:f t with
  |none=>
   replace h:=(List.filterMap_cons_none aG)▸h
   exact absurd (h▸List.length_filterMap_le f ts) (Nat.not_succ_le_self _)
  |some x=>
   rw [List.filterMap_cons_some aG] at h|-
   (refine B List.map_cons ?_;refine B List.map_cons ?_;refine B (aB t x aG) ?_;refine B (ih (Nat.succ.inj h)) ?_;rfl)
theorem qW {α:Type u} {c:Prop} [Decidable c] {a b:α} {P:α->Prop} (M:c->P a) (O:¬c->P b):P (if c then a else b):=by
 by_cases q:c
 ·refine B (if_pos q) ?_;exact M q
 ·refine B (if_neg q) ?_;exact O q
noncomputable def r6 (ts:List Expr) (A:Sem (Option (List Str))):Prop:=A=pure none\/∃names,A=pure (some names)/\ts.map gT=names.map some/\(ts.length=2\/ts.length=3)
theorem MO {ts:List Expr} {kk:Nat} {tp:Pos} {e:Expr} (an:tz e=true):swappedStores [.Tuple ts kk tp] e env=pure none\/
  ∃names,swappedStores [.Tuple ts kk tp] e env=pure (some names)/\ts.map gT=names.map some/\(ts.length=2\/ts.length=3):=by
 cases e with
 |Tuple vs k p=>
  refine qW (P:=r6 ts) (fun _=>.inl rfl) fun M=>qW (P:=r6 ts) (fun _=>.inl rfl) fun _=>qW (P:=r6 ts) (fun _=>.inl rfl) fun Y=>qW (P:=r6 ts) (fun _=>.inl rfl) fun _=>qW (P:=r6 ts) (fun bR=> ?_) fun _=> ?_
  ·exact lD ((congrArg (!·) bR).symm.trans an)
  ·refine .inr ⟨_,rfl,RV (fun e x h=> ?_) ts ?_,?_⟩
   ·cases e with
    |Name id pos=>exact cK h (fun _ h=>h) Z
    |_=>exact Z h
   ·(replace Y:=(Bool.or_eq_true _ _)▸Y;rw [not_or] at Y)
    have aC:=Y.1
    (rw [bne_iff_ne] at aC;replace aC:=(ne_eq _ _)▸aC;rw [Classical.not_not] at aC)
    exact aC
   ·simp only [Bool.or_eq_true,not_or,Bool.not_eq_true,Bool.not_eq_false',beq_iff_eq] at M
    exact M.1.1
 |_=>exact .inl rfl
end
end Mine
end
section
open PySem PySem.W PySem.Calls PyProof.Rows
namespace Mine
section
variable{w:World} {CM:cn} {bj:dM} {F:Frag} {K:Top} {env ed:Env} {J aW:Scope} {A:Around} {E:Value->Shared->Prop} {ρ ρ₀ aT ρ':a5} {s c9 a7 az:Shared} {fs fs' fs₁:X} {ai:bE} {R:bk} {C:cs} {k:Nat}
theorem Ye (S:cB w CM K env J A R) {e:Expr} {pos:Pos} {r r':aU} (q:R.ba e fs=some (r,fs₁)) (bo:fs₁.take r=some (r',fs')) (a3:cp w CM K env J aT a7 ρ s fs):
  wpAny (model aw w) A (exec (.Return (some e) pos) env) (eg w CM K env J aT a7 ρ s (.ret r') fs') (hD w CM K env J aT a7 (.ret r') fs') s:=by
 refine wpAny_Return_some (S.eV q a3.dA fun v aj aN aZ a0 bv aP=> ?_)
 exact(Jv bo (a3.step aZ a0 bv) aP fun a h=>a3.ext.ic a h).elim fun b8 z=>⟨v,rfl,b8,z⟩
theorem At (S:fE w CM K env J A R) {aN:a5} {aj:Shared} {body:List Stmt} (q:cO R body fs₁=some (ai,fs')) (av:a2 ρ s aN aj) (a3:cp w CM K env J aT a7 aN aj fs₁):
  wpAny (model aw w) A (execs body env) (eg w CM K env J aT a7 ρ s ai fs') (hD w CM K env J aT a7 ai fs') aj:=wpAny_mono (oN S _ q a3) (fun f ct P=>P.ext av) fun _ _ h=>h
theorem RE (S:fE w CM K env J A R) {c:Expr} {a b:List Stmt} {pos:Pos} {t:Bool} (q:R.dF c fs=some (t,fs₁)) (bo:(if t=true then cO R a fs₁ else cO R b fs₁)=some (ai,fs')) (a3:cp w CM K env J aT a7 ρ s fs):
  wpAny (model aw w) A (exec (.If c a b pos) env) (eg w CM K env J aT a7 ρ s ai fs') (hD w CM K env J aT a7 ai fs') s:=by
 refine wpAny_If (S.lx q a3.dA fun aj aN aZ a0 bv=> ?_)
 cases t with
 |true=>exact At S bo a0 (a3.step aZ a0 bv)
 |false=>exact At S bo a0 (a3.step aZ a0 bv)
theorem EQ {gX:bE} {f:Flow} {aj ct:Shared} {aN:a5} {fs₂:X} {k:X->Option (bE×X)} {G:Prop} (aq:py gX fs₂ k=some (ai,fs')) (av:a2 ρ s aN aj) (P:eg w CM K env J aT a7 aN aj gX fs₂ f ct)
  (k1:∀b8,f=.next->k fs₂=some (ai,fs')->cp w CM K env J aT a7 b8 ct fs₂->a2 ρ s b8 ct->a2 aN aj b8 ct->G) (k2:f=.brk->eg w CM K env J aT a7 ρ s ai fs' .next ct->G) (k3:∀v,f=.ret v->eg w CM K env J aT a7 ρ s ai fs' (.ret v) ct->G):G:=by
 cases gX with
 |next=>exact P.2.elim fun b8 z=>k1 b8 P.1 aq z.1 (av.trans z.2) z.2
 |brk=>
  refine P.2.elim fun b8 z=>k2 P.1 ?_
  exact b6 (show some (.next,fs₂)=some (ai,fs') from aq) ⟨rfl,b8,z.1,av.trans z.2⟩
 |ret r=>
  refine P.elim fun v z=>k3 v z.1 ?_
  exact b6 (show some (.ret r,fs₂)=some (ai,fs') from aq) ⟨v,rfl,z.2⟩
 |dC=>exact Z aq
theorem BJ {gX:bE} {fs₂:X} {k:X->Option (bE×X)} (aq:py gX fs₂ k=some (ai,fs')):gX≠.dC:=fun e=>Z ((congrArg (py · fs₂ k) e).symm.trans aq)
theorem NM (S:fE w CM K env J A R) {c:Expr} {body:List Stmt} {RR:Result->Shared->Prop} {n:Nat} (q:gz R c body n fs=some (ai,fs')) (a3:cp w CM K env J aT a7 ρ s fs)
  (gc:∀f t,eg w CM K env J aT a7 ρ s ai fs' f t->RR (.ok f) t):codeAny (model aw w) A (.whileLoop c body [] env) RR s:=by
 obtain⟨e1,jX⟩:∃e1:Nat->Shared->Prop,∀m t,e1 m t↔∃gs gW,gz R c body m gW=some (ai,fs')/\cp w CM K env J aT a7 gs t gW/\a2 ρ s gs t:=⟨_,fun _ _=>Iff.rfl⟩
 refine codeAny_whileLoop e1 ?_ n ((jX _ _).mpr ⟨ρ,fs,q,a3,a2.refl ..⟩)
 intro m t h
 refine dP ((jX m t).mp h) ?_;clear h;intro gs gW ec mK Xt
 cases m with
 |zero=>exact Z ec
 |succ m=>
  refine b5 ec (fun gh FK hc ec=>S.lx hc mK.dA fun aj aN aZ a0 bv=> ?_) Z
  cases gh with
  |true=>
   refine b5 (show ob (cO R body FK) (fun ai fs₂=>py ai fs₂ (gz R c body m))=some (ai,fs') from ec) (fun gX nn ah aq=> ?_) Z
   refine B (if_pos rfl) ?_
   refine wpAny_mono (oN S _ ah (mK.step aZ a0 bv)) (fun f ct P=>EQ aq (Xt.trans a0) P (fun b8 e ec cN b9 _=> ?_) (fun e P=> ?_) fun v e P=> ?_) fun _ _ h=>absurd h.1 (BJ aq)<;>refine B e ?_
   ·exact⟨m,Nat.lt_succ_self m,(jX m ct).mpr ⟨b8,nn,ec,cN,b9⟩⟩
   ·exact gc _ _ P
   ·exact gc _ _ P
  |false=>
   refine B (if_neg (by decide)) ?_
   refine wpAny_execs_nil (gc _ _ ?_)
   exact b6 (show some (.next,FK)=some (ai,fs') from ec) ⟨rfl,aN,mK.step aZ a0 bv,Xt.trans a0⟩
theorem J0 (S:fE w CM K env J A R) {c:Expr} {body:List Stmt} {pos:Pos} {n:Nat} (q:gz R c body n fs=some (ai,fs')) (a3:cp w CM K env J aT a7 ρ s fs):
  wpAny (model aw w) A (exec (.While c body [] pos) env) (eg w CM K env J aT a7 ρ s ai fs') E s:=
 wpAny_While (NM S q a3 fun f t P=>P)
theorem SM (S:fE w CM K env J A R) {x:Str} {px:Pos} {body:List Stmt} {items:List H} {o:Obj} {fh:List Addr} {P:Nat->Value->Prop} {cA:Nat->Heap->Prop} {RR:Result->Shared->Prop}
  (d0:nh w CM A ρ s items o fh P cA) (q:f5 R J x body items fs=some (ai,fs')) (a3:cp w CM K env J aT a7 ρ s fs)
  (gc:∀f t,eg w CM K env J aT a7 ρ s ai fs' f t->RR (.ok f) t):codeAny (model aw w) A (.forLoop (.Name x px) (.ref s.heap.objs.size) body [] env) RR {s with heap:=s.heap.push o}:=by
 have fI:ρ s.heap.objs.size=.free:=(a3.dA.base.c1 _).mpr fd
 refine jV (a3.dA.push d0.e7) ?_;intro P9 vo T8 Yj _
 have BX:∀x c,J.names.lookup x=some .free->env.cells.lookup x=some c->c≠s.heap.objs.size:=h9 a3.dA fI
 obtain⟨e1,jX⟩:∃e1:Nat->Shared->Prop,∀n t,e1 n t↔∃i,n=items.length-i/\i<=items.length/\∃gs gW,f5 R J x body (items.drop i) gW=some (ai,fs')/\cp w CM K env J aT a7 gs t gW/\a2 ρ s gs t/\gs s.heap.objs.size=.aV/\cA i t.heap:=⟨_,fun _ _=>Iff.rfl⟩
 refine codeAny_forLoop e1 ?_ items.length ((jX _ _).mpr ⟨0,rfl,Nat.zero_le _,_,fs,q,a3.step P9 vo T8,vo,Yj,d0.ao⟩)
 intro n t h
 refine et ((jX n t).mp h) ?_;clear h;intro i e aR h;subst e
 refine qb h ?_;clear h;intro gs gW e8 mK Xt lK eN
 have nE:∀{j:Nat} {iL fQ:a5} {io fx:Shared},a2 ρ s iL io->iL s.heap.objs.size=.aV->a2 iL io fQ fx->(∀a ob,iL a=.be ob->io.heap.get? a=some ob)->(∀a ob,fQ a=.be ob->fx.heap.get? a=some ob)->cA j io.heap->cA j fx.heap:=d0.By fun b ob e=>e
 by_cases cy:i<items.length
 ·refine d0.ku.item i t _ _ cy eN fun v bw kQ i7 nv ml=> ?_
  refine jV (mK.dA.eU (tk:=kQ) lK BX fun b ob ah e=>ml b ob (fun q=>ah (List.mem_singleton.mp q)) e) ?_;intro aZ a0 iu mq sP
  have rX:=(d0.uE _ _ nv).elim fun pN wO=>sP (fun q=>Z (q.symm.trans wO))
  have ma:=a0 fI Xt
  refine bb (d0.bf i v cy i7) ?_;intro eS pO sF
  (replace e8:=(List.drop_eq_getElem_cons cy)▸e8;replace e8:=(show items[i]=eS from Option.some.inj ((List.getElem?_eq_getElem cy).symm.trans pO))▸e8)
  refine bG e8 (fun MH hs e8=>b5 e8 (fun gX nn ah aq=> ?_) Z) Z
  refine wpAny_assign_Name (q4 hs aZ (bX.bt ma.bK ma.per sF) fun b8 dJ jp cN b9 op pA=> ?_)
  have mo:=ma.trans b9
  have ry:cp w CM K env J aT a7 b8 {t with heap:=dJ,toks:=jp} MH:=⟨cN,a3.ext.trans mo,fun a y e=>mK.gK a y (iu a y (op a y e))⟩
  have mR:=b9.aV _ rX
  have sd:cA (i+1) dJ:=nE ma rX b9 aZ.base.bK cN.base.bK nv
  refine wpAny_mono (oN S _ ah ry) (fun f ct P=>EQ aq mo P (fun jm e e8 hi eh e5=> ?_) (fun e P=> ?_) fun v e P=> ?_) fun _ _ h=>absurd h.1 (BJ aq)<;>refine B e ?_
  ·exact⟨items.length-(i+1),by exact Jo cy,(jX _ _).mpr ⟨i+1,rfl,cy,jm,nn,e8,hi,eh,e5.aV _ mR,nE mo mR e5 cN.base.bK hi.dA.base.bK sd⟩⟩
  ·exact gc _ _ P
  ·exact gc _ _ P
 ·have Ab:i=items.length:=Nat.le_antisymm aR (Nat.not_lt.mp cy)
  replace eN:=Ab▸eN
  (replace e8:=Ab▸e8;replace e8:=List.drop_length▸e8)
  refine d0.ku.done t _ _ eN fun bw kQ ml=> ?_
  refine jV (mK.dA.eU (h':=bw) (tk:=kQ) lK BX fun b ob ah e=>ml b ob (fun q=>ah (List.mem_singleton.mp q)) e) ?_;intro aZ a0 iu mq sP
  refine wpAny_execs_nil (gc _ _ ?_)
  exact b6 (show some (.next,gW)=some (ai,fs') from e8) ⟨rfl,_,⟨aZ,a3.ext.trans (a0 fI Xt),fun a y e=>mK.gK a y (iu a y e)⟩,a0 fI Xt⟩
theorem SS (bn:jL CM bj F) (bz:K.f=F) (bc:f4 K A) (S:fE w CM K env J A R) {x:Str} {px:Pos} {iter:Expr} {body:List Stmt} {pos:Pos} {items:List H} (q:hv R J iter fs=some (items,fs₁)) (bo:f5 R J x body items fs₁=some (ai,fs'))
  (a3:cp w CM K env J aT a7 ρ s fs):wpAny (model aw w) A (exec (.For (.Name x px) iter body [] pos) env) (eg w CM K env J aT a7 ρ s ai fs') (hD w CM K env J aT a7 ai fs') s:=by
 refine cl (vZ bn bz bc S.tocB q a3.dA) ?_;intro ss l1
 refine wpAny_For (wpAny_mono l1 (fun eS aj bw=>wpAny_mono bw (fun di ct dJ=> ?_) fun _ _ f=>f.elim) fun _ _ f=>f.elim) ss
 refine jF dJ ?_;clear dJ;intro aN nL o fh P
 refine u5 P ?_;clear P;intro P cA u sb aZ a0 bv d0;subst u;subst sb
 exact SM S d0 bo (a3.step aZ a0 bv) fun f t P=>P.ext a0
end
end Mine
end
section
open PySem PySem.W PySem.Calls PyProof.Rows
namespace Mine
section
variable{w:World} {CM:cn} {bj:dM} {F:Frag} {K:Top} {env ed:Env} {J aW:Scope} {A:Around} {E:Value->Shared->Prop} {ρ ρ₀ aT ρ':a5} {s c9 a7 az:Shared} {fs fs' fs₁ fs₂ fs₃:X} {ai:bE} {R:bk} {C:cs} {k:Nat}
theorem R5 {e:Expr} {x:Str} {px:Pos} {line:Nat}:(∃fa g c p,e=.SetComp fa g c p)\/(∃fa v g c p,e=.DictComp fa v g c p)\/(∃fa g c p,e=.ListComp fa g c p/\swapsWith e (some (.Name x px)) line env=pure true)\/swapsWith e (some (.Name x px)) line env=pure false:=by
 cases e with
 |ListComp fa g c p=>
  by_cases h:(env.blockKind==.function&&env.kindOf x==some .local&&px.line==p.line&& !(c.names.any fun(n,k)=>n==x&&(k==.local||k==.cell)))=true
  ·refine .inr (.inr (.inl ⟨fa,g,c,p,rfl,?_⟩))
   show(pure _:Sem Bool)=pure true
   exact congrArg pure h
  ·refine .inr (.inr (.inr ?_))
   show(pure _:Sem Bool)=pure false
   exact congrArg pure (Bool.eq_false_iff.mpr h)
 |SetComp fa g c p=>exact .inl ⟨_,_,_,_,rfl⟩
 |DictComp fa v g c p=>exact .inr (.inl ⟨_,_,_,_,_,rfl⟩)
 |_=>exact .inr (.inr (.inr rfl))
theorem Mj {e o i:Expr} {p:Pos} {line:Nat}:swapsWith e (some (.Subscript o i p)) line env=pure false:=by
 cases e<;>rfl
theorem CP {e:Expr} {ts:List Expr} {kk:Nat} {p:Pos} {line:Nat}:swapsWithSole [.Tuple ts kk p] e line env=pure false:=by
 show swapsWith e (some (.Tuple ts kk p)) line env=pure false
 cases e<;>rfl
theorem V0 (S:fE w CM K env J A R) {x:Str} {px pos:Pos} {e:Expr} {r:aU} (q:R.ba e fs=some (r,fs₁)) (bo:Dr J x r fs₁=some (ai,fs')) (a3:cp w CM K env J aT a7 ρ s fs):
  wpAny (model aw w) A (exec (.Assign [.Name x px] e pos) env) (eg w CM K env J aT a7 ρ s ai fs') (hD w CM K env J aT a7 ai fs') s:=by
 have main:swapsWith e (some (.Name x px)) pos.line env=pure false->wpAny (model aw w) A (exec (.Assign [.Name x px] e pos) env) (eg w CM K env J aT a7 ρ s ai fs') (hD w CM K env J aT a7 ai fs') s:=fun hs=>by
  refine wpAny_Assign_Name (S.eV q a3.dA fun v aj aN aZ a0 bv aP=> ?_) hs
  cases r with
  |U y=>exact pp bo fun M=>xr M a3 aZ a0 bv aP fun az P=>⟨rfl,P⟩
  |own y=>exact pp bo fun M=>xr M a3 aZ a0 bv aP fun az P=>⟨rfl,P⟩
  |var y=>
   refine b5 bo (fun eZ nn O7 bo=> ?_) Z
   refine gm (vW a3.dA aZ a0 bv aP O7) ?_;intro b8 cN b9 dG nN
   exact pp bo fun M=>xr M a3 cN b9 dG (r:=.U eZ) nN fun az P=>⟨rfl,P⟩
 refine(R5 (e:=e) (x:=x) (px:=px) (line:=pos.line) (env:=env)).elim (fun h=> ?_) fun h=>h.elim (fun h=> ?_) fun h=>h.elim (fun h=> ?_) main
 ·refine jF h ?_;intro a b c d ak
  (replace q:=ak▸q;rw [S.zd] at q);exact Z q
 ·refine h.elim fun a h=> ?_
  refine jF h ?_;intro b c d f ak
  (replace q:=ak▸q;rw [S.wP] at q);exact Z q
 ·refine qp h ?_;intro fa g c p ak hs
  rw [ak] at q hs|-
  refine bS (S.zz _ _ _ _ _ _ _ q) ?_;intro v e
  rw [e] at q bo
  exact pp bo fun M=>wpAny_mono (S.xF _ _ _ _ _ _ _ _ _ _ _ hs q M aT a7 ρ s a3) (fun _ _ P=>P) fun _ _ f=>f.elim
theorem IZ (bc:f4 K A) (S:fE w CM K env J A R) {b i e:Expr} {px pos:Pos} {v k:H} {r:aU} (bZ:dY R e fs=some (v,fs₁)) (bo:R.ba b fs₁=some (r,fs₂)) (ee:R.ba i fs₂=some (.U k,fs₃)) (h1:qs r k v fs₃=some fs')
  (a3:cp w CM K env J aT a7 ρ s fs):wpAny (model aw w) A (exec (.Assign [.Subscript b i px] e pos) env) (eg w CM K env J aT a7 ρ s .next fs') (hD w CM K env J aT a7 .next fs') s:=by
 refine wpAny_Assign_Subscript (ra S.tocB bZ a3.dA fun qD aj aN aZ a0 bv ay=> ?_) Mj
 refine S.eV bo aZ fun oT ct b8 cN b9 dG ah=>S.eV ee cN fun lS jD jm hi eh k9 ag=> ?_
 have hu:=(a0.trans b9).trans eh
 have oh:=(bv.trans dG).trans k9
 refine Wj h1 hi (ah.bt eh k9) ag (bX.bt eh.bK eh.per (bX.bt b9.bK b9.per ay)) fun h' tk u9 kY=> ?_
 exact⟨rfl,jm,⟨u9,a3.ext.trans (hu.trans kY),fun a y e=>a3.gK a y (oh.gl a y e)⟩,hu.trans kY⟩
theorem MX (ts:List Expr):∀{vs:List H} {fs fs':X},hJ J ts vs fs=some fs'->ts.length=vs.length:=by
 induction ts with
 |nil=>intro vs fs fs' q;refine B ((sC q).1) ?_;rfl
 |cons t ts ih=>intro vs fs fs' q;exact nW q fun x px v cZ _ e _ _ bo=>by refine B e ?_;exact congrArg (· +1) (ih bo)
theorem NR (ts:List Expr):∀{vs:List H} {fs fs':X},hJ J ts vs fs=some fs'->(assignEach ts env).findIdx? (·.1)=none/\(assignEach ts env).length=ts.length:=by
 induction ts with
 |nil=>intro _ _ _ _;exact⟨rfl,rfl⟩
 |cons t ts ih=>
  intro vs fs fs' q
  refine nW q fun x px v cZ e _ _ _ bo=> ?_
  refine B e ?_
  refine⟨?_,congrArg (· +1) (ih bo).2⟩
  show List.findIdx? (·.1) ((false,assign (.Name x px) env)::assignEach ts env)=none
  (refine B List.findIdx?_cons ?_;refine B ((ih bo).1) ?_);rfl
theorem a8.L3 (l:List H):∀{vs:List Value},a8 w CM ρ l vs->a8 w CM ρ l.reverse vs.reverse:=by
 induction l with
 |nil=>intro vs h;refine B (show vs=[] from h) ?_;exact a8.nil
 |cons x l ih=>
  intro vs h
  refine dP h ?_;clear h;intro v cZ u O Y;subst u
  (refine B List.reverse_cons ?_;refine B List.reverse_cons ?_)
  exact(ih Y).append (a8.cons O a8.nil)
theorem V7 (bc:f4 K A) (S:fE w CM K env J A R) {ts:List Expr} {kk:Nat} {tp pos:Pos} {e:Expr} {vs:List H} (an:tz e=true) (hd:vy ts=true) (q:R.ba e fs=some (.U (.aF vs),fs₁)) (bo:hJ J ts vs fs₁=some fs')
  (a3:cp w CM K env J aT a7 ρ s fs):wpAny (model aw w) A (exec (.Assign [.Tuple ts kk tp] e pos) env) (eg w CM K env J aT a7 ρ s .next fs') (hD w CM K env J aT a7 .next fs') s:=by
 have bC:=MX _ bo
 rcases MO (ts:=ts) (kk:=kk) (tp:=tp) (env:=env) an with ec|⟨names,ec,aE,aq⟩
 ·refine Assign_Tuple (S.eV q a3.dA fun v aj aN aZ a0 bv aP=> ?_) CP ec
  refine cl (NR (env:=env) _ bo) ?_;intro eN Qi
  rw [assign_Tuple]
  refine wpAny_bind (wpAny_standAt ?_)
  unfold unpack
  simp only [eN]
  refine wpAny_bind (wpAny_holding (Bu bc (by(refine B Qi ?_;refine B bC ?_;rfl)) aZ aP fun b8 bf dJ jp cN b9 dG ay=> ?_))
  exact wpAny_mono (Mi _ bo (a3.step cN (a0.trans b9) (bv.trans dG)) ay) (fun _ jD P=>⟨rfl,P.imp fun jm z=>⟨z.1,(a0.trans b9).trans z.2⟩⟩) fun _ _ f=>f
 ·refine Assign_Tuple_swapped (S.eV q a3.dA fun v aj aN aZ a0 bv aP=> ?_) CP ec
  have QH:names.length=ts.length:=by have:=congrArg List.length aE;simpa using this.symm
  refine Bu bc (by(refine B QH ?_;refine B bC ?_;rfl)) aZ aP fun b8 bf dJ jp cN b9 dG ay=> ?_
  refine et (Qq aq hd bo) ?_;intro nn ee Rm LJ
  refine wpAny_mono (JB _ (xs:=names.reverse) ee (by(refine B List.map_reverse ?_;refine B List.map_reverse ?_;refine B aE ?_;rfl)) (a3.step cN (a0.trans b9) (bv.trans dG)) (a8.L3 _ ay)) (fun _ jD P=> ?_) fun _ _ f=>f
  refine P.elim fun jm z=> ?_
  have e:fs'={nn with loc:=fs'.loc}:=by cases fs';cases nn;cases Rm;rfl
  refine B e ?_
  exact⟨rfl,jm,z.1.o1 LJ,(a0.trans b9).trans z.2⟩
theorem v3 (h:nP env J):interactive env=false:=by unfold interactive;refine B h.kind ?_;rfl
theorem Lg (bn:u0 CM bj F) (bz:K.f=F) (c4:gM w CM bj F k C) (bc:ek K k A) (S:fE w CM K env J A R) {f:Str} {p pos wo:Pos} {args:List Expr} {vs:List H} {qx:bE} {dg:List H}
  (an:kl f=true) (ae:J.names.lookup f=some .globalImplicit) (bZ:dk R args fs=some (vs,fs₁)) (bo:C f vs fs₁.per=some (qx,dg)) (ee:Ay qx {fs₁ with per:=dg}=some (ai,fs')) (a3:cp w CM K env J aT a7 ρ s fs):
  wpAny (model aw w) A (exec (.Expr (.Call (.Name f p) args [] pos) wo) env) (eg w CM K env J aT a7 ρ s ai fs') (hD w CM K env J aT a7 ai fs') s:=by
 refine wpAny_Expr_any (wpAny_mono (G1 bn bz c4 bc S.tocB an ae bZ bo a3.dA) (fun v aj P=> ?_) fun e aj P=> ?_) (v3 a3.dA.c0) rfl
 ·cases qx with
  |ret r=>exact b6 (show some (.next,_)=some (ai,fs') from ee) ⟨rfl,P.elim fun aN z=>⟨aN,a3.step z.1 z.2.1 z.2.2.1,z.2.1⟩⟩
  |_=>exact P.elim
 ·replace ee:=P.1▸ee
  exact b6 (show some (.dC,_)=some (ai,fs') from ee) ⟨rfl,P.2.imp fun aN z=>z.imp fun a z=>⟨a3.step z.1 z.2.1 z.2.2.1,z.2.2.2.1,z.2.2.2.2.base fun a h=>a3.ext.ic a h⟩⟩
theorem Hv (S:fE w CM K env J A R) {g:Expr} {pos wo:Pos} {args:List Expr} {r:aU} (q:R.ba (.Call g args [] pos) fs=some (r,fs')) (a3:cp w CM K env J aT a7 ρ s fs):
  wpAny (model aw w) A (exec (.Expr (.Call g args [] pos) wo) env) (eg w CM K env J aT a7 ρ s .next fs') (hD w CM K env J aT a7 .next fs') s:=by
 exact wpAny_Expr_any (S.eV q a3.dA fun v aj aN aZ a0 bv aP=>⟨rfl,aN,a3.step aZ a0 bv,a0⟩) (v3 a3.dA.c0) rfl
end
end Mine
end
section
open PySem PySem.W PySem.Calls PyProof.Rows
open Sem (wp)
namespace Mine
noncomputable abbrev f9:List Value:=[.type "Exception",.type "BaseException",.type "object"]
section
variable{F:Frag} {w:World} {A:Around} {E:Value->Shared->Prop} {s:Shared}
theorem VT:findCls F (.type "Exception") (.type "type") "__init__"=some (.val (.builtin "Exception.__init__")):=by kernel_rfl
theorem Oq {jr:Sem Bool} {Q:Value×List Value->Shared->Prop} (av:F.In s.heap) (h:Q (.builtin "Exception.__init__",[]) {s with toks:=s.toks+1}):
  wpAny (model aw w) A (getMethod (.type "Exception") "__init__" jr) Q E s:=by
 unfold getMethod
 have aG:Looks (model aw w) s.heap (typeOf (.type "Exception")) (.type "type"):=Looks.of_pure (by kernel_rfl)
 have bi:Looks (model aw w) s.heap (specialOf (.type "Exception") "__getattribute__") (some (.builtin "type.__getattribute__")):=aG.andThen (Looks.of_pure KF.slot_tga.lookup)
 refine wpAny_bind (bi.here ?_)
 dsimp only
 refine B (if_pos canon_tga) ?_
 refine wpAny_bind (cls_open (hook:=none) av (Looks.of_pure (by kernel_rfl)) aG (by kernel_rfl) (Looks.of_pure (by kernel_rfl)) (by kernel_rfl) VT ?_)
 refine wpAny_pure ?_
 show wpAny _ _ (handedOut _) _ _ _
 refine B (handedOut_of (by kernel_rfl)) ?_
 exact wpAny_pure (wpAny_pure h)
end
section
variable{w:World} {A:Around} {E:Value->Shared->Prop} {h:Heap} {g:Array GenState} {d:Drawn} {t:Nat} {os:OsState}
variable{nm q:Str} {C N P:Addr} {bs:List Value} {hdct:Bool} {sn:List Str} {sub:List Value} {ab:Bool} {col:Option Bool} {dd:Option Addr} {k0 k1 k2 k3 k5:Option Value}
theorem xZ {C P:Addr} {v:Value} (h:f9.contains v=true):(Value.ref C::.ref P::f9).contains v=true:=by
 (refine B List.contains_cons ?_;refine B List.contains_cons ?_;refine B h ?_;refine B (Bool.or_true _) ?_;refine B (Bool.or_true _) ?_;rfl)
theorem Ep {C P:Addr} {x:String} {b:Bool} (h:f9.contains (.type x)=b):(Value.ref C::.ref P::f9).contains (.type x)=b:=by
 (refine B List.contains_cons ?_;refine B List.contains_cons ?_;refine B h ?_)
 show(false||(false||b))=b
 rfl
theorem Pm {qw:Model} {rest:List Value} {Q:Unit->Shared->Prop} (ck:h.get? C=some (excClassObj nm q C N bs (.ref P::f9) hdct sn sub ab col dd k0 k1 k2 k3 k5 "Exception.__new__"))
  (aA:Q () ⟨h,g,d,t,os⟩):wpAny qw A (checkBuiltinCall "Exception.__new__" ⟨.ref C::rest,[]⟩) Q E ⟨h,g,d,t,os⟩:=by
 have F:=PySem.F.excBase_Exception
 have Rt:(Value.ref C::.ref P::f9).contains (.type "Exception")=true:=xZ F.hasB
 have Zx:=F.noStar
 simp only [checkBuiltinCall,F.newKind,F.newSplit,F.newRow]
 repeat (first|refine wpAny_loadPart_at ck ?_|(refine wpAny_isSubtype_exc ck ?_;refine B Rt ?_)|refine wpAny_staticBase_exc ck ?_|refine wpAny_madeBy_exc ck ?_|simp only [bne_self_eq_false,Bool.false_eq_true,if_false]|wp_step)
 exact aA
theorem Jh {R:Result->Shared->Prop} {rest:List Value} (ck:h.get? C=some (excClassObj nm q C N bs (.ref P::f9) hdct sn sub ab col dd k0 k1 k2 k3 k5 "Exception.__new__"))
  (aA:R (.ok (.ret (.ref (h.objs.size+1)))) ⟨(h.push {cls:=.type "tuple",data:=.seq rest.toArray}).push
   {cls:=.ref C,data:=.fields #[.ref h.objs.size,.none,.none,.none,.bool false,.none]},g,d,t,os⟩) (hrest:rest.length<=sizeLine:=by size_fits):
  codeAny (model aw w) A (.builtin "Exception.__new__" ⟨.ref C::rest,[]⟩) R ⟨h,g,d,t,os⟩:=by
 have F:=PySem.F.excBase_Exception
 have Zc:=F.ends
 have sA:(Value.ref C::.ref P::f9).contains (.type "Exception")=true:=xZ F.hasB
 have Ul:(Value.ref C::.ref P::f9).contains (.type "AttributeError")=false:=Ep F.noAttr
 have HJ:(Value.ref C::.ref P::f9).contains (.type "NameError")=false:=Ep F.noName
 refine codeAny_builtinAt F.entry ?_
 unfold Builtin.«BaseException.__new__»
 refine PySem.wpAt_bind ?_
 show PySem.wpAt _ _ _ (stack>>=_) _ _ _
 refine PySem.wpAt_bind (PySem.wpAt_stack fun p below=>PySem.wpAt_of_wpAny ?_)
 wp_walk
 refine PySem.wpAt_of_wpAny ?_
 refine B F.owner ?_
 repeat (first|with_reducible refine wpAny_madeHere_exc F.canon ck ?_|with_reducible refine wpAny_loadPart_at ck ?_|(with_reducible refine wpAny_isSubtype_exc ck ?_;first|refine B sA ?_|rw [Ul]|rw [HJ])|wp_step)
 show R _ _
 refine B (Heap.size_push _ _) ?_
 exact aA
theorem Ri {qw:Model} {e:Addr} {FN:Obj} {rest:List Value} {Q:Unit->Shared->Prop}
  (ck:h.get? C=some (excClassObj nm q C N bs (.ref P::f9) hdct sn sub ab col dd k0 k1 k2 k3 k5 "Exception.__new__")) (aX:h.get? e=some FN) (Tn:FN.cls=.ref C) (aA:Q () ⟨h,g,d,t,os⟩):
  wpAny qw A (checkBuiltinCall "Exception.__init__" ⟨.ref e::rest,[]⟩) Q E ⟨h,g,d,t,os⟩:=by
 have F:=PySem.F.excBase_Exception
 have sA:(Value.ref C::.ref P::f9).contains (.type "Exception")=true:=xZ F.hasB
 have YF:=F.noStar
 simp only [checkBuiltinCall,F.initKind,F.initSplit,F.initRow]
 repeat (first|(with_reducible refine wpAny_loadPart_at aX ?_;refine B Tn ?_)|with_reducible refine wpAny_loadPart_at ck ?_|(with_reducible refine wpAny_isSubtype_exc ck ?_;refine B sA ?_)|wp_step)
 refine wpAny_onRaise ?_
 rw [show∀(a b:String) (n:Nat),Bind.check ⟨.positional,"*","Exception",.self,[⟨"args",.varPos,false⟩]⟩ a b n (List.map (fun x=>x.fst) ({pos:=Value.ref e::rest}:Args).kw)=pure () from
  fun a b n=>check_star_args _ _ _ _ _ _]
 exact wpAny_pure aA
theorem IK {e A8:Addr} {v:Value} {Q:Value->Shared->Prop}
  (ck:h.get? C=some (excClassObj nm q C N bs (.ref P::f9) hdct sn sub ab col dd k0 k1 k2 k3 k5 "Exception.__new__")) (aX:h.get? e=some {cls:=.ref C,data:=.fields #[.ref A8,.none,.none,.none,.bool false,.none]})
  (aA:∀h' T,(∀b o,b≠e->h.get? b=some o->h'.get? b=some o)->h'.get? e=some {cls:=.ref C,data:=.fields #[.ref T,.none,.none,.none,.bool false,.none]}->Q .none ⟨h',g,d,t,os⟩):
  wpAny (model aw w) A (call (.builtin "Exception.__init__") [.ref e,v]) Q E ⟨h,g,d,t,os⟩:=by
 have F:=PySem.F.excBase_Exception
 refine wpAny_call (codeAny_call_builtin F.init.plain F.initEntry (Ri ck aX rfl ?_))
 wp_walk
 refine aA _ h.objs.size (fun b o ah Nw=> ?_) ?_
 ·refine B (Heap.get?_update_other _ _ (Ne.symm ah)) ?_
  exact Heap.get?_push_of_some _ Nw
 ·refine B (Heap.get?_update_self _ (Heap.get?_push_of_some _ aX) rfl) ?_
  rfl
theorem OC {rest:List Value} {fI:Addr} {sc:Obj} {Q:Fin->Shared->Prop}
  (ck:h.get? C=some (excClassObj nm q C N bs (.ref P::f9) hdct sn sub ab col dd k0 k1 k2 k3 k5 "Exception.__new__"))
  (aq:∀h',(∀b o,h.get? b=some o->h'.get? b=some o)->Looks (model aw w) h' (typeLookup (.ref C) "__init__") (some (.ref fI)))
  (wF:h.get? fI=some sc) (w6:sc.cls=.type "function")
  (aA:∀h' e,Heap.MadeExcOf h h' e (.ref C) rest->
   wpAny (model aw w) A (call (.ref fI) (.ref e::rest)) (fun r az=>r=.none/\Q (.done (.ret (.ref e))) az) E ⟨h',g,d,t,os⟩) (hrest:rest.length<=sizeLine:=by size_fits):
  wpAny (model aw w) A (Builtin.«type.__call__» ⟨.ref C::rest,[]⟩) Q E ⟨h,g,d,t,os⟩:=by
 have F:=PySem.F.excBase_Exception
 repeat (first|with_reducible refine wpAny_loadPart_at ck ?_|with_reducible refine wpAny_madeBy_exc ck ?_|wp_step)
 refine codeAny_call_builtin_code (Code.quiet_builtin _ F.quiet) (Pm ck ?_)
 refine Jh ck ?_ hrest
 show wpAny _ _ _ _ _ _
 have ag:∀b o,h.get? b=some o->((h.push {cls:=.type "tuple",data:=.seq rest.toArray}).push {cls:=.ref C,data:=.fields #[.ref h.objs.size,.none,.none,.none,.bool false,.none]}).get? b=some o:=
  fun b o e=>Heap.get?_push_of_some _ (Heap.get?_push_of_some _ e)
 have Lf:=ag _ _ ck
 have Im:=ag _ _ wF
 have Kr:=aq _ ag
 have pR:((h.push {cls:=.type "tuple",data:=.seq rest.toArray}).push
   {cls:=.ref C,data:=.fields #[.ref h.objs.size,.none,.none,.none,.bool false,.none]}).get? (h.objs.size+1)=some
   {cls:=.ref C,data:=.fields #[.ref h.objs.size,.none,.none,.none,.bool false,.none]}:=by heap_get
 have Ph:(Value.ref C::.ref P::f9).contains (.ref C)=true:=by simp
 unfold isInstance
 repeat (first|with_reducible refine wpAny_loadPart_at pR ?_|(with_reducible refine wpAny_isSubtype_exc Lf ?_;refine B Ph ?_)|wp_step)
 show wpAny _ _ (typeLookup (.ref C) _) _ _ _
 refine Kr _ _ _ _ (fun _ _ e=>e) ?_
 refine wpAny_holding (wpAny_bind ?_)
 unfold bindSpecial
 refine wpAny_bind (wpAny_typeOf (T:="function") ⟨_,Im,w6⟩ ?_)
 refine B (if_pos (by decide)) ?_
 refine wpAny_pure (wpAny_bind (wpAny_mono (aA _ (h.objs.size+1) ⟨fun b o ah=>Heap.get?_push_of_some _ (Heap.get?_push_of_some _ ah),Heap.get?_none_of_le (Nat.le_succ _),h.objs.size,pR,Heap.get?_none_of_le (Nat.le_refl _),?_⟩) (fun r az aP=> ?_) fun _ _ x=>x))
 ·exact Heap.get?_push_of_some _ (Heap.get?_push_at rfl rfl)
 ·refine cl aP ?_;clear aP;intro u;subst u;intro cW
  wp_walk
  exact cW
theorem SY {rest:List Value} {fI:Addr} {sc:Obj} {Q:Value->Shared->Prop}
  (ck:h.get? C=some (excClassObj nm q C N bs (.ref P::f9) hdct sn sub ab col dd k0 k1 k2 k3 k5 "Exception.__new__"))
  (aq:∀h',(∀b o,h.get? b=some o->h'.get? b=some o)->Looks (model aw w) h' (typeLookup (.ref C) "__init__") (some (.ref fI)))
  (wF:h.get? fI=some sc) (w6:sc.cls=.type "function")
  (aA:∀h' e,Heap.MadeExcOf h h' e (.ref C) rest->
   wpAny (model aw w) (A.under (.builtin "type.__call__" ⟨.ref C::rest,[]⟩)) (call (.ref fI) (.ref e::rest)) (fun r az=>r=.none/\Q (.ref e) az) E ⟨h',g,d,t,os⟩) (hrest:rest.length<=sizeLine:=by size_fits):
  wpAny (model aw w) A (call (.ref C) rest) Q E ⟨h,g,d,t,os⟩:=by
 have d9:=tc_lookup
 have fO:=tc_bind (.ref C)
 have gR:(⟨h,g,d,t,os⟩:Shared).TypeIs (.ref C) "type":=⟨_,ck,rfl⟩
 refine wpAny_call (codeAny_of_tree ?_)
 show wpAny _ _ (callAny (.ref C) _) _ _ _
 repeat (any_goals (first|assumption|with_reducible refine wpAny_loadPart_at ck ?_|wp_step))
 refine⟨rfl,?_⟩
 refine codeAny_call_builtin_at (Code.quiet_builtin _ (by decide+kernel)) entry_typeCall (wpAny_check_type_call_sub ck (OC (hrest:=hrest) ck aq wF w6 fun h' e aY=> ?_))
 exact aA h' e aY
end
end Mine
end
section
open PySem PySem.W PySem.Calls PyProof.Rows PySem.Builtin PySem.Builtin.ObjectAttr
namespace Mine
structure lJ (F:Frag) (C P:Addr):Prop where
 gx:∃nm q N bs sn sub ab col dd k0 k1 k2 k3 k5,F.lookup C=some (excClassObj nm q C N bs (.ref P::f9) true sn sub ab col dd k0 k1 k2 k3 k5 "Exception.__new__")
 sa:findIn F (.ref C) "__setattr__"=some (some (.builtin "object.__setattr__"))
theorem lJ.fa {F:Frag} {C P:Addr} {G:Prop} (h:lJ F C P) (k:∀nm q N bs sn sub ab col dd k0 k1 k2 k3 k5,F.lookup C=some (excClassObj nm q C N bs (.ref P::f9) true sn sub ab col dd k0 k1 k2 k3 k5 "Exception.__new__")->G):G:=by
 obtain⟨nm,q,N,bs,sn,sub,ab,col,dd,k0,k1,k2,k3,k5,e⟩:=h.gx
 exact k nm q N bs sn sub ab col dd k0 k1 k2 k3 k5 e
theorem lJ.cls {F:Frag} {C P:Addr} (h:lJ F C P):∃cd,clsIn F C=some cd/\cd.mro=.ref C::.ref P::f9/\cd.hasDict=true:=
 h.fa fun nm q N bs sn sub ab col dd k0 k1 k2 k3 k5 e=>⟨_,by unfold clsIn;(refine B e ?_;rfl),rfl,rfl⟩
section
variable{w:World} {F:Frag} {A:Around} {E:Value->Shared->Prop} {s:Shared} {C P x:Addr} {R:Result->Shared->Prop}
theorem Dm {rJ:Obj} {hh:Option Obj} {name:Str} {tk:Tok} {v:Value} (av:F.In s.heap) (I:InstAt s.heap x rJ C hh) (ck:lJ F C P) (aG:takerIn F C name=some none)
  (h:∀b,wpAny (model aw w) A.in1 (storeInOwnDict (.ref x) (.ref C) (.str name tk) name v b)
   (fun cM az=>match cM with|.done f=>R (.ok f) az|.again c'=>c'.quiet=true/\codeAny (model aw w) A c' R az) (fun e az=>R (.error e) az) s):
  codeAny (model aw w) A (.call (.builtin "object.__setattr__") ⟨[.ref x,.str name tk,v],[]⟩) R s:=by
 have sO:=PySem.F.store_object
 refine et ck.cls ?_;intro cd hc cq hd
 have sub:Looks (model aw w) s.heap (isInstance (.ref x) (.type "object")) true:=I.type.andThen (looks_mroIn av (by unfold mroIn;(refine B hc ?_;refine B (Option.bind_some _ _) ?_;refine B cq ?_);rfl))
 refine codeAny_call_builtin sO.slot.plain sO.entry (@check_slot (model aw w) _ _ s "object.__setattr__" "object" "__setattr__" (.ref x) [.str name tk,v] [] _ sO.kind sO.split sub (sO.args (.ref x) (.str name tk) v) ?_)
 refine bb (Option.bind_eq_some_iff.mp aG) ?_;intro sR bA aP
 have aY:Looks (model aw w) s.heap (mroOf (.ref C)) cd.mro:=(looks_clsIn av hc).andThen .now
 have hF:Looks (model aw w) s.heap (storeTaker? sR) none:=by
  cases sR with
  |none=>exact .now
  |some a=>
   refine bb (Option.map_eq_some_iff.mp aP) ?_;intro b ah e
   refine(looks_takesIn av ah).andThen ?_
   cases b
   ·exact .now
   ·exact ii e
 (rw [osa_eq];refine B (refuse_eq _ _) ?_)
 refine wpAny_bind (wpAny_bind (I.type.here (wpAny_bind (aY.here ?_))))
 (refine B cq ?_;rw [refuseLoop_ref,refuseLoop_ref];refine B (PySem.F.store_Exception.passes _) ?_)
 refine wpAny_pure (wpAny_bind (I.type.here (wpAny_bind ((looks_findIn av bA).here (wpAny_bind (hF.here ?_))))))
 exact h _
theorem E1 {es:List DictEntry} {n:Nat} {nm:Str} {v:Value} {l:List (Str×Value)} {dx:Addr} {Q:Fin->Shared->Prop} (D:s.heap.get? dx=some (dictOf es n)) (aB:ft es l) (aE:nm∉l.map (·.1)) (hz:es.length<1000)
  (h:∀h' d2,Heap.SameBut dx s.heap h'->h'.get? dx=some (dictOf d2 (n+1))->ft d2 (l++[(nm,v)])->d2.length=es.length+1->Q (.done (.ret .none)) {s with heap:=h',toks:=s.toks+1}):
  wpAny (model aw w) A (do nsSet dx nm v;lookBehind dx (some (.str nm 0));ret .none) Q E s:=by
 have ak:es.any (·.key.isStr nm)=false:=by
  cases q:es.any (·.key.isStr nm) with
  |false=>rfl
  |true=>obtain⟨e,aX,z⟩:=List.any_eq_true.mp q;replace z:=(aB.fresh aE e aX)▸z;cases z
 have e:Obj.putName nm (PyData.keyHash w.params nm) (.str nm s.toks) v (dictOf es n)=dictOf (es++[⟨PyData.keyHash w.params nm,.str nm s.toks,v⟩]) (n+1):=by
  (rw [putName_dict];refine B (putL_new (aB.fresh aE)) ?_)
  show dictOf _ (if es.any (·.key.isStr nm) then n else n+1)=_
  (refine B ak ?_;refine B (if_neg Bool.false_ne_true) ?_;rfl)
 refine wpAny_bind ?_
 unfold nsSet
 refine wpAny_bind (wpAny_bind (wpAny_askSetting (wpAny_pure (wpAny_bind (wpAny_mkText (wpAny_bind (wpAny_loadPart D ?_)))))))
 dsimp only
 have c:aRefKeyMayBeTheName nm es.toArray=false:=by
  (refine B (aRefKeyMayBeTheName_at _ _) ?_;refine bu Array.any_toList ?_;refine bu Array.any_toList ?_)
  show(!es.any (·.key.isStr nm)&&es.any (·.refKey))=false
  (refine B aB.to ?_;refine B (Bool.and_false _) ?_;rfl)
 refine B c ?_
 refine wpAny_updatePart D ?_
 have rn:(s.heap.update dx (Obj.putName nm (PyData.keyHash w.params nm) (.str nm s.toks) v)).get? dx=some (dictOf (es++[⟨PyData.keyHash w.params nm,.str nm s.toks,v⟩]) (n+1)):=by
  have:=Heap.get?_update_self (Obj.putName nm (PyData.keyHash w.params nm) (.str nm s.toks) v) D (by refine B e ?_;rfl)
  replace this:=e▸this;exact this
 refine wpAny_bind (wpAny_lookBehind rn (pastItsLine_dict (by(refine B List.size_toArray ?_;refine B List.length_append ?_;refine B List.length_cons ?_;refine B List.length_nil ?_;refine B sizeLine_eq ?_);exact Dk hz)) ?_)
 exact wpAny_pure (h _ _ (Heap.SameBut.update ..) rn aB.yh (by simp))
theorem OJ {nm:Str} {v:Value} {vs:Array Value} {Q:Unit->Shared->Prop} (av:F.In s.heap) (ck:lJ F C P) (aG:takerIn F C nm=some none) (aX:s.heap.get? x=some {cls:=.ref C,data:=.fields vs})
  (h:∀h' tk dx d2,dx≠x->(∀b o,b≠x->s.heap.get? b=some o->h'.get? b=some o)->h'.get? x=some {cls:=.ref C,dict:=some dx,data:=.fields vs}->h'.get? dx=some (dictOf d2 1)->ft d2 [(nm,v)]->d2.length=1->s.heap.get? dx=none->Q () {s with heap:=h',toks:=tk}):
  wpAny (model aw w) A (setAttr (.ref x) nm v) Q E s:=by
 have In:InstAt s.heap x {cls:=.ref C,data:=.fields vs} C none:=⟨aX,rfl,rfl,trivial⟩
 refine set_plain av In ck.sa (Dm (s:={s with toks:=s.toks+1}) av In ck aG fun b=> ?_)
 refine et ck.cls ?_;intro cd hc aY hd
 refine wpAny_bind (wpAny_pure (wpAny_bind (wpAny_bind (wpAny_loadPart aX (wpAny_bind (Looks.here (s:={s with toks:=s.toks+1}) (looks_clsIn av hc) ?_))))))
 refine B hd ?_
 have b1:s.heap.objs.size≠x:=Nat.ne_of_gt (Heap.lt_size aX)
 have rN:(s.heap.push emptyDict).get? x=some {cls:=.ref C,data:=.fields vs}:=Heap.get?_push_of_some _ aX
 refine wpAny_bind (wpAny_alloc (wpAny_bind (wpAny_update rN (wpAny_pure (a:=some s.heap.objs.size) ?_))))
 have rI:((s.heap.push emptyDict).update x fun o=>{cls:=o.cls,dict:=some s.heap.objs.size,data:=o.data,slots:=o.slots}).get? x=some {cls:=.ref C,dict:=some s.heap.objs.size,data:=.fields vs}:=
  Heap.get?_update_self _ rN rfl
 have hL:((s.heap.push emptyDict).update x fun o=>{cls:=o.cls,dict:=some s.heap.objs.size,data:=o.data,slots:=o.slots}).get? s.heap.objs.size=some (dictOf [] 0):=
  (Heap.get?_update_ne _ _ _ _ b1).trans (Heap.get?_push_size _ rfl)
 refine wpAny_bind (wpAny_pure ?_)
 refine E1 (s:={s with heap:=_,toks:=s.toks+1}) hL (l:=[]) rfl (by simp) (by decide) fun h' d2 hs M O Y=> ?_
 refine h h' _ s.heap.objs.size d2 b1 (fun b o ah e=> ?_) ((hs.2 x (Ne.symm b1)).trans rI) M O Y fd
 have Wh:b≠s.heap.objs.size:=fun q=>by(replace e:=q▸e;replace e:=fd▸e);exact Z e
 exact(hs.2 b Wh).trans ((Heap.get?_update_ne _ _ _ _ ah).trans (Heap.get?_push_of_some _ e))
theorem MG {nm:Str} {v:Value} {vs:Array Value} {dx:Addr} {es:List DictEntry} {n:Nat} {l:List (Str×Value)} {Q:Unit->Shared->Prop} (av:F.In s.heap) (ck:lJ F C P) (aG:takerIn F C nm=some none) (b1:dx≠x)
  (aX:s.heap.get? x=some {cls:=.ref C,dict:=some dx,data:=.fields vs}) (D:s.heap.get? dx=some (dictOf es n)) (aB:ft es l) (aE:nm∉l.map (·.1)) (hz:es.length<1000)
  (h:∀h' tk,Heap.SameBut dx s.heap h'->h'.get? dx≠none->Q () {s with heap:=h',toks:=tk}):
  wpAny (model aw w) A (setAttr (.ref x) nm v) Q E s:=by
 have In:InstAt s.heap x {cls:=.ref C,dict:=some dx,data:=.fields vs} C (some (dictOf es n)):=⟨aX,rfl,rfl,D⟩
 refine set_plain av In ck.sa (Dm (s:={s with toks:=s.toks+1}) av In ck aG fun b=> ?_)
 refine et ck.cls ?_;intro cd hc aY hd
 refine wpAny_bind (wpAny_pure (wpAny_bind (wpAny_bind (wpAny_loadPart aX (wpAny_bind (Looks.here (s:={s with toks:=s.toks+1}) (looks_clsIn av hc) ?_))))))
 refine B hd ?_
 refine wpAny_pure (a:=some dx) (wpAny_bind (wpAny_pure ?_))
 exact E1 (s:={s with toks:=s.toks+1}) D aB aE hz fun h' d2 hs M O Y=>h h' _ hs (by refine B M ?_;nofun)
end
end Mine
end
section
open PySem PySem.W PySem.Calls PyProof.Rows
namespace Mine
structure yn (F:Frag) (C:Addr):Prop where
 name:hr F "TreeFault"=some (.ref C)
 dC:hr F "Exception"=some (.type "Exception")
 B0:takerIn F C "what"=some none
 EJ:takerIn F C "at"=some none
 cls:∃P,lJ F C P
 DD:∃fI ob bJ t,findIn F (.ref C) "__init__"=some (some (.ref fI))/\jY F (cG 2 0) fI ob bJ/\ob.cls=.type "function"/\∀s,F.In s.heap->∀v u,BindsTo s bJ ⟨[v,u],[]⟩ [("self",v),("what",u),("at",.int (-1) t)]
theorem Qf:params (cG 2 0)=(["self","what","at"]:List Str):=by kernel_rfl
theorem yq {x:Str} (h:x="self"\/x="what"\/x="at"):(bN (cG 2 0)).names.lookup x=some .local:=by rcases h with rfl|rfl|rfl<;>kernel_rfl
section
variable{w:World} {CM:cn} {bj:dM} {F:Frag} {K:Top} {env:Env} {J:Scope} {A:Around} {E:Value->Shared->Prop} {ρ ρ₀ aT ρ':a5} {s c9 a7 az:Shared} {fs fs' fs₁:X} {R:bk}
theorem e2.mE {h h':Heap} {x:Str} {v:Value} (q:e2 env J h x v) (ae:J.names.lookup x=some .local) (ag:∀o,h.get? env.locals=some o->h'.get? env.locals=some o):e2 env J h' x v:=by
 rcases q with⟨M,O,m,⟨o,es,cr,e,r⟩,aY⟩|⟨M|M,_⟩
 ·exact .inl ⟨M,O,m,⟨o,es,cr,ag o e,r⟩,aY⟩
 ·replace M:=ae▸M;cases M
 ·replace M:=ae▸M;cases M
theorem HP {f:Value} {pos hp hy:Pos} {x y:Str} {u v:Value} {Q:Args->Shared->Prop} (M:e2 env J s.heap x u) (O:e2 env J s.heap y v) (hP:nP env J) (o3:(x==("__debug__":Str))=false) (ht:(y==("__debug__":Str))=false) (h:Q ⟨[u,v],[]⟩ s):
  wpAny (model aw w) A (evalArgs f true (backTo pos (starEach [.Name x hp,.Name y hy] env)) []) Q E s:=by
 show wpAny _ _ (evalArgs f true ((false,eval (.Name x hp) env)::(false,_)::[]) []) _ _ _
 refine evalArgs_plain (spliced_cons (M.eval hP o3 (spliced_cons ?_)))
 refine B (if_neg (by decide)) ?_
 exact O.eval hP ht (spliced_nil h)
theorem UP (bn:qF CM bj F) (bz:K.f=F) {k:Nat} (bc:ek K k A) {C:Addr} (jB:yn F C) (I:aK w CM K env J ρ s fs) {v:Value} {Q:Value->Shared->Prop}
  (h:∀h' tk e T dx,(∀b o,s.heap.get? b=some o->h'.get? b=some o)->s.heap.get? e=none->h'.get? e=some {cls:=.ref C,dict:=some dx,data:=.fields #[.ref T,.none,.none,.none,.bool false,.none]}->Q (.ref e) {s with heap:=h',toks:=tk}):
  wpAny (model aw w) A (call (.ref C) [v]) Q E s:=by
 refine x8 jB.DD ?_;intro fI ob bJ t aR bV VI sD
 refine bS jB.cls ?_;intro P ck
 have gn:=Qf
 have ie:=yq (.inl rfl)
 have jv:=yq (.inr (.inl rfl))
 have vO:=yq (.inr (.inr rfl))
 have eX:F.In s.heap:=bz▸I.in
 refine ck.fa fun nm q N bs sn sub ab col dd k0 k1 k2 k3 k5 n6=> ?_
 obtain⟨bx,g,d,tk,os⟩:=s
 have pU:∀{h':Heap},(∀b o,bx.get? b=some o->h'.get? b=some o)->F.In h':=fun ag b x e=>ag _ _ (eX b x e)
 refine SY (eX _ _ n6) (fun h' ag=>looks_findIn (pU ag) aR) (eX _ _ bV.gx) VI (fun M e aY=> ?_) (by refine B sizeLine_eq ?_;simp)
 have iN:=aY.keeps
 have iX:=pU iN
 refine et aY.there ?_;intro A8 iQ _ _
 have uO:ρ e=.free:=(I.base.c1 _).mpr aY.new
 have o5:cH w CM K (bP (bl ρ) M) ⟨M,g,d,tk,os⟩ fs.per:=I.base.bl.dz (tk:=tk) iN
 have lF:iH (bP (bl ρ) M):=fun a=>⟨fun x q=>(hR ρ a).1 x (gg.mp q),fun q=>(hR ρ a).2.1 (nz.mp q),fun q=>(hR ρ a).2.2 (oO.mp q)⟩
 have KG:bP (bl ρ) M e=.aV:=gD (g5.mpr uO) iQ
 have fw:(params (cG 2 0)).length=[Value.ref e,v,.int (-1) t].length:=by refine B gn ?_;rfl
 have kf:(params (cG 2 0)).zip [Value.ref e,v,.int (-1) t]=([("self",.ref e),("what",v),("at",.int (-1) t)]:List (Str×Value)):=by refine B gn ?_;rfl
 have nj:=bV.J
 refine wpAny_call (BP (s:=⟨M,g,d,tk,os⟩) (Nat.lt_of_le_of_lt (xm (k:=k) A _ _ _) bc.depth) (iX _ _ bV.gx) bV.data (bn.qS _ iX) (codeRec_of iX bV.code) bV.body (sD _ iX _ _) bV.uD (fun y aQ=> ?_) (fun aj x=> ?_) (by refine B bV.scope ?_;exact bV.J.s8) (by refine B bV.scope ?_;exact bV.J.gen) (by refine B bV.scope ?_;exact bV.J.kind))
 ·have:y.1∈params (cG 2 0):=by(refine bu (q8 _ fw) ?_;refine B kf ?_);exact List.mem_map.mpr ⟨_,aQ,rfl⟩
  refine B bV.scope ?_
  rcases nj.par _ this with q|q
  ·exact .inl q
  ·exact .inr ⟨q,nj.fc _ _ q⟩
 replace x:=(Eq.symm kf)▸x
 have a3:=tN (w:=w) (CM:=CM) (K:=K) (loc:=[]) (ρ:=bP (bl ρ) M) bV fw (fun y bh g=>nomatch g) o5 lF rfl x
 have lP:=m4 bV fw rfl x (y:="self") (v:=.ref e) (by refine B kf ?_;simp)
 have nI:=m4 bV fw rfl x (y:="what") (v:=v) (by refine B kf ?_;simp)
 have wK:=m4 bV fw rfl x (y:="at") (v:=.int (-1) t) (by refine B kf ?_;simp)
 have nX:=a3.dA.c0
 have CX:(callEnvC bJ M.objs.size fI).locals≠e:=fun q=>by
  have M:=a3.dA.cJ
  have O:=a3.ext.aV _ KG
  replace O:=(Eq.symm q)▸O
  exact absurd (M.symm.trans O) (by nofun)
 refine i9 x.toInCall.same ?_;intro rP Yq u;subst u
 have l0:∀b o,bx.get? b=some o->rP.get? b=some o:=fun b o e=>x.toInCall.keep b o (iN b o e)
 have ix:=x.toInCall.keep _ _ iQ
 have CZ:∃o,rP.get? (callEnvC bJ M.objs.size fI).locals=some o:=by obtain⟨o,es,cr,e,_⟩:=x.toInCall.ns;exact⟨o,e⟩
 have Fq:∀{b:Addr} {o:Obj},bx.get? b=some o->b≠e:=fun h q=>by(replace h:=q▸h;replace h:=aY.new▸h);exact Z h
 generalize callEnvC bJ M.objs.size fI=rL at*
 show wpAny _ _ (execs [.Expr (.Call (.Attribute (.Name "Exception" _) "__init__" _) [.Name "self" _,.Name "what" _] [] _) _,.Assign [.Attribute (.Name "self" _) "what" _] (.Name "what" _) _,.Assign [.Attribute (.Name "self" _) "at" _] (.Name "at" _) _] _) _ _ _
 refine wpAny_execs_cons (wpAny_Expr_any (xk rfl rfl (by decide) rfl (oR jB.dC (by kernel_rfl) nX (pU l0) (by decide+kernel) (Oq (pU l0) (callWith_builtin rfl (HP (lP.mE ie fun _ e=>e) (nI.mE jv fun _ e=>e) nX (by decide+kernel) (by decide+kernel) ?_))))) (v3 nX) rfl)
 refine IK (l0 _ _ (eX _ _ n6)) ix fun Y T EO QM=> ?_
 have y2:∀b o,bx.get? b=some o->Y.get? b=some o:=fun b o q=>EO b o (Fq q) (l0 b o q)
 have hF:∀o,rP.get? rL.locals=some o->Y.get? rL.locals=some o:=fun o q=>EO _ _ CX q
 refine wpAny_execs_cons (plainObj_wpAny_Assign_Attribute ((nI.mE jv hF).eval nX (by decide+kernel) ((lP.mE ie hF).eval nX (by decide+kernel) ?_)) (hs:=rfl))
 refine OJ (pU y2) ck jB.B0 QM fun aC Yr dx Y7 ln DQ Gv Lc HY LO vf=> ?_
 have EL:∀b o,bx.get? b=some o->aC.get? b=some o:=fun b o q=>DQ b o (Fq q) (y2 b o q)
 have FC:∀o,Y.get? rL.locals=some o->aC.get? rL.locals=some o:=fun o q=>DQ _ _ CX q
 have Yx:rL.locals≠dx:=fun q=>by
  refine bS CZ ?_;clear CZ;intro o cq
  have:=hF o cq
  replace this:=q▸this
  dsimp only at vf
  replace this:=vf▸this;exact Z this
 refine wpAny_execs_cons (plainObj_wpAny_Assign_Attribute (((wK.mE vO hF).mE vO FC).eval nX (by decide+kernel) (((lP.mE ie hF).mE ie FC).eval nX (by decide+kernel) ?_)) (hs:=rfl))
 refine MG (pU EL) ck jB.EJ ln Gv Lc HY (by simp;decide+kernel) (by exact Pq LO) fun bR N1 Cs YR=>wpAny_execs_nil ?_
 refine⟨rfl,h bR N1 e T dx (fun b o q=> ?_) aY.new ((Cs.2 _ (Ne.symm ln)).trans Gv)⟩
 have JS:b≠dx:=fun z=>by
  have:=y2 b o q
  replace this:=z▸this
  dsimp only at vf
  replace this:=vf▸this;exact Z this
 exact(Cs.2 b JS).trans (EL b o q)
end
end Mine
end
section
open PySem PySem.W PySem.Calls PyProof.Rows
namespace Mine
structure jz (CM:cn) (bj:dM) (F:Frag):Prop extends nQ CM bj F where
 xe:∃C,CM "TreeFault"=some C/\yn F C
section
variable{qw:Model} {A:Around} {E:Value->Shared->Prop} {env:Env}
variable{nm q:Str} {C N:Addr} {bs bm:List Value} {hdct:Bool} {sn:List Str} {sub:List Value} {ab:Bool} {col:Option Bool} {dd:Option Addr} {k0 k1 k2 k3 k5:Option Value} {newId:String}
theorem JR {s:Shared} {x:Sem Value} {Q:Flow->Shared->Prop} (MU:bm.contains (.type "BaseException")=true) (bx:A.handled=none)
  (h:wpAny qw A x (fun v aj=>∃e t dx,v=.ref e/\aj.heap.get? C=some (excClassObj nm q C N bs bm hdct sn sub ab col dd k0 k1 k2 k3 k5 newId)/\
   aj.heap.get? e=some {cls:=.ref C,dict:=some dx,data:=.fields #[.ref t,.none,.none,.none,.bool false,.none]}/\E (.ref e) aj) E s):
  wpAny qw A (raiseStmt env (some x) none) Q E s:=by
 have sA:(Value.ref C::bm).contains (.type "BaseException")=true:=by(refine B List.contains_cons ?_;refine B MU ?_;refine B (Bool.or_true _) ?_;rfl)
 unfold raiseStmt
 refine wpAny_bind (wpAny_mono h (fun v aj bw=> ?_) fun _ _ x=>x)
 refine oL bw ?_;clear bw;intro e t dx u;subst u;intro ck aX hP
 obtain⟨an,g,d,tk,os⟩:=aj
 repeat (first|with_reducible refine wpAny_loadPart_at aX ?_|with_reducible refine wpAny_loadPart_at ck ?_|(with_reducible refine wpAny_isSubtype_exc ck ?_;refine B sA ?_)|wp_step)
 exact wpAny_raiseNew_none bx hP
end
section
variable{w:World} {CM:cn} {bj:dM} {F:Frag} {K:Top} {env:Env} {J:Scope} {A:Around} {E:Value->Shared->Prop} {ρ ρ₀ aT ρ':a5} {s c9 a7 az:Shared} {fs fs' fs₁:X} {R:bk}
theorem RS (bn:jz CM bj F) (bz:K.f=F) {k:Nat} (bc:ek K k A) (aE:K.eD=none) {c:Str} {m2 zK pos B1:Pos} {m:Str} {mk:Option Str} (hc:c=("TreeFault":Str)) (ae:J.names.lookup c=some .globalImplicit) {kk} (a3:cp w CM K env J aT a7 ρ s fs):
  wpAny (model aw w) A (exec (.Raise (some (.Call (.Name c m2) [.Constant (.str m) kk B1] [] zK)) none pos) env) (eg w CM K env J aT a7 ρ s .dC fs) (hD w CM K env J aT a7 .dC fs) s:=by
 subst hc
 refine bb bn.xe ?_;intro C zA jB
 have uT:=bn.tonQ.touq.towL.topV.tojL.tou0.toqF
 have bx:A.handled=none:=bc.eD.fa id fun e ob q _ _=>ii (q.symm.trans aE)
 have I:=a3.dA
 have eX:F.In s.heap:=bz▸I.in
 refine bS jB.cls ?_;intro P ck
 refine ck.fa fun nm q N bs sn sub ab col dd k0 k1 k2 k3 k5 n6=> ?_
 rw [arm_exec_Raise]
 simp only [arm_evalOpt_some,Option.map]
 refine wpAny_bind (wpAny_standAt (JR (C:=C) (nm:=nm) (q:=q) (N:=N) (bs:=bs) (bm:=.ref P::f9) (hdct:=true) (sn:=sn) (sub:=sub) (ab:=ab) (col:=col) (dd:=dd) (k0:=k0) (k1:=k1) (k2:=k2) (k3:=k3) (k5:=k5) (newId:="Exception.__new__") (by rfl) bx ?_))
 refine wpAny_bind (wpAny_mono (Call_Name rfl (oR jB.name ae I.c0 eX (by decide+kernel) ?_)) (fun v jD fk=>wpAny_bind (wpAny_standAt (wpAny_pure fk))) fun _ _ x=>x)
 unfold callWith
 show wpAny _ _ (holding _ (evalArgs (.ref C) true ((false,eval (.Constant (.str m) kk B1) env)::[]) [])>>=_) _ _ _
 refine wpAny_bind (wpAny_holding (evalArgs_plain (spliced_cons (wpAny_Constant_str (spliced_nil (wpAny_bind (wpAny_standAt ?_)))))))
 refine wpAny_bind (wpAny_keeperOf_exc (eX _ _ n6) ?_)
 refine wpAny_bind (UP uT bz bc jB (I.tok (tk:=s.toks+1)) fun h' tk e T dx ag b1 aX=>wpAny_bind (wpAny_holding (wpAny_point (wpAny_pure ?_))))
 refine⟨e,T,dx,rfl,ag _ _ (eX _ _ n6),aX,rfl,bP ρ h',e,a3.step (I.dz ag) (a2.dz ag) cb.dz,rfl,?_⟩
 have uO:ρ e=.free:=(I.base.c1 _).mpr b1
 exact⟨⟨a3.ext.ic _ uO,gD uO aX⟩,C,_,_,zA,aX,rfl,rfl,rfl,by simp,rfl,.inl rfl⟩
end
end Mine
end
section
open PySem PySem.W PySem.Calls PyProof.Rows
namespace Mine
section
variable{w:World} {CM:cn} {bj:dM} {F:Frag} {K:Top} {env:Env} {J:Scope} {A:Around} {E:Value->Shared->Prop} {ρ ρ₀ aT ρ':a5} {s c9 a7 az:Shared} {fs fs' fs₁:X} {R:bk}
theorem aK.pE {D:List Addr} {h':Heap} {tk:Nat} (I:aK w CM K env J ρ s fs) (d8:∀x,J.names.lookup x≠some .free) (dQ:∀a∈D,ρ a=.aV) (dO:∀a∈D,∃ob,h'.get? a=some ob)
  (ag:∀b o,b∉D->¬e3 (ρ b)->s.heap.get? b=some o->h'.get? b=some o) (hs:∀b o,e3 (ρ b)->s.heap.get? b=some o->∃f0,h'.get? b=some {o with slots:=f0}):
  aK w CM K env J (bP ρ h') {s with heap:=h',toks:=tk} fs:=by
 have f2:∀{a:Addr},ρ a≠.aV->a∉D:=fun h q=>h (dQ _ q)
 have e7:∀{a:Addr} {o:Obj},ρ a≠.aV->¬e3 (ρ a)->s.heap.get? a=some o->h'.get? a=some o:=fun M O e=>ag _ _ (f2 M) O e
 have aB:∀a o,ρ a=.be o->bP ρ h' a=.be o:=fun a o e=>hY.mpr e
 have an:∀a o,ρ a=.per o->bP ρ h' a=.per o:=fun a o e=>hf.mpr e
 have bx:∀a o,ρ a=.aD o->bP ρ h' a=.aD o:=fun a o e=>gg.mpr e
 have ns:∀{m:Str->Option Value},s.heap.Ns env.locals m->h'.Ns env.locals m:=fun{m} ⟨o,es,cr,bZ,bo⟩=>by
  refine bS (hs _ _ (by refine B I.cJ ?_;trivial) bZ) ?_;intro f0 e
  exact⟨_,es,cr,e,bo⟩
 refine⟨⟨fun a x e=>aB _ _ (I.base.fU a x e),fun a x e=>aB _ _ (I.base.fz a x e),fun a e=> ?_,fun a o e=> ?_,fun a=> ?_,fun k cy=>let⟨a,e⟩:=I.base.gq k cy;⟨a,an _ _ e⟩,fun a k e=> ?_,fun a b k ak ar=>I.base.inj a b k (hf.mp ak) (hf.mp ar)⟩,
   I.c0,nz.mpr I.cJ,let⟨m,q⟩:=I.fC;⟨m,ns q⟩,fun x bh e=> ?_,fun x e=> ?_,fun x c bZ bo=>absurd bZ (d8 x),I.apart,fun a x e=> ?_,fun a b x bZ bo=>I.fi a b x (gg.mp bZ) (gg.mp bo)⟩
 ·obtain⟨M,o,O,Y⟩:=I.base.fq a e
  refine bS (hs _ _ M O) ?_;intro f0 aC
  exact⟨Ah M,_,aC,Y⟩
 ·have e:=hY.mp e
  exact e7 (bI e) (by refine B e ?_;exact fun q=>q) (I.base.bK _ _ e)
 ·refine Fj (I.base.c1 a) fun e=> ?_
  cases bx:s.heap.get? a with
  |none=>rfl
  |some o=>
   by_cases q:a∈D
   ·exact(dO a q).elim fun ob z=>ii (z.symm.trans e)
   ·by_cases bo:e3 (ρ a)
    ·exact(hs _ _ bo bx).elim fun f0 z=>ii (z.symm.trans e)
    ·exact ii ((ag _ _ q bo bx).symm.trans e)
 ·have e:=hf.mp e
  obtain⟨x,M,O⟩:=I.base.fS a k e
  exact⟨x,M,O.bt aB an fun ob q=>e7 (bI e) (by refine B e ?_;exact fun q=>q) q⟩
 ·obtain⟨v,M,O⟩:=I.eW x bh e
  refine⟨v,?_,O.bt aB an bx⟩
  rcases M with⟨bW,cC,m,q,dX⟩|⟨bW,cC,c,cY,⟨o,dX,rz⟩⟩
  ·exact .inl ⟨bW,cC,m,ns q,dX⟩
  ·refine .inr ⟨bW,cC,c,cY,o,?_,rz⟩
   rcases bW with bW|bW
   ·obtain⟨c',eZ,cT,dE,_⟩:=I.cells x bW
    replace cT:=cY▸cT;cases cT
    exact e7 (bI dE) (by refine B dE ?_;exact fun q=>q) dX
   ·exact absurd bW (d8 x)
 ·obtain⟨c,v,bZ,bo,ee,⟨o,h1,im⟩⟩:=I.cells x e
  exact⟨c,v,bZ,oO.mpr bo,ee,o,e7 (bI bo) (by refine B bo ?_;exact fun q=>q) h1,im⟩
 ·have e:=gg.mp e
  obtain⟨aL,c,M,O⟩:=I.e0 a x e
  exact⟨aL,c,M,O.bt aB an fun ob q=>e7 (bI e) (by refine B e ?_;exact fun q=>q) q⟩
theorem a2.pE {D:List Addr} {h':Heap} {tk:Nat} (av:a2 aT a7 ρ s) (dQ:∀a∈D,aT a=.free)
  (ag:∀b o,b∉D->¬e3 (ρ b)->s.heap.get? b=some o->h'.get? b=some o) (hs:∀b o,e3 (ρ b)->s.heap.get? b=some o->∃f0,h'.get? b=some {o with slots:=f0}):
  a2 aT a7 (bP ρ h') {s with heap:=h',toks:=tk} where
 bK:=fun a ob e=>hY.mpr (av.bK a ob e)
 aV:=fun a e=>no (av.aV a e)
 per:=fun a k e=>hf.mpr (av.per a k e)
 cJ:=fun a e=>nz.mpr (av.cJ a e)
 fc:=fun a e=>oO.mpr (av.fc a e)
 stk:=fun a e=>CU.mpr (av.stk a e)
 aD:=fun a x e=>by
  rcases av.aD a x e with q|q|⟨ob,q⟩
  ·exact .inl (gg.mpr q)
  ·exact .inr (.inl ((lY (bI q)).trans q))
  ·exact .inr (.inr ⟨ob,hY.mpr q⟩)
 keep:=fun a ob e q=>ag a ob (fun z=>by replace e:=(dQ a z)▸e;cases e) (by refine B (av.aV a e) ?_;exact fun q=>q) (av.keep a ob e q)
 hV:=fun a ob e q=>by
  refine bS (av.hV a ob e q) ?_;intro f0 cg
  refine bS (hs a _ (by refine B (av.stk a e) ?_;trivial) cg) ?_;intro IY tE
  exact⟨IY,tE⟩
 ao:=by obtain⟨h,lj,e⟩:=av.ao;refine B e ?_;exact⟨h',tk,rfl⟩
theorem cp.pE {D:List Addr} {h':Heap} {tk:Nat} (a3:cp w CM K env J aT a7 ρ s fs) (d8:∀x,J.names.lookup x≠some .free) (dQ:∀a∈D,ρ a=.aV/\aT a=.free) (dO:∀a∈D,∃ob,h'.get? a=some ob)
  (ag:∀b o,b∉D->¬e3 (ρ b)->s.heap.get? b=some o->h'.get? b=some o) (hs:∀b o,e3 (ρ b)->s.heap.get? b=some o->∃f0,h'.get? b=some {o with slots:=f0}):
  cp w CM K env J aT a7 (bP ρ h') {s with heap:=h',toks:=tk} fs:=
 ⟨a3.dA.pE d8 (fun a h=>(dQ a h).1) dO ag hs,a3.ext.pE (fun a h=>(dQ a h).2) ag hs,fun a x e=>a3.gK a x (gg.mp e)⟩
noncomputable def md (CM:cn) (aT ρ:a5) (h:Heap) (a:Addr) (ai:Value):Prop:=
 aT a=.free/\ρ a=.aV/\∃C ob vs,CM "TreeFault"=some C/\h.get? a=some ob/\ob.isFreed=false/\ob.cls=.ref C/\ob.data=.fields vs/\2<vs.size/\vs[2]? =some .none/\
  ∃T lA ts,vs[1]? =some (.ref T)/\aT T=.free/\ρ T=.aV/\T≠a/\h.get? T=some lA/\lA.data=.fields ts/\ts[3]? =some ai
theorem md.at {h:Heap} {a:Addr} (x:md CM aT ρ h a .none):gy CM aT ρ h a:=
 ⟨⟨x.1,x.2.1⟩,x.2.2.imp fun C q=>q.imp fun ob q=>q.imp fun vs q=>⟨q.1,q.2.1,q.2.2.1,q.2.2.2.1,q.2.2.2.2.1,q.2.2.2.2.2.1,q.2.2.2.2.2.2.1,.inr (q.2.2.2.2.2.2.2.imp fun T q=>q.imp fun lA q=>q.imp fun ts q=>⟨q.1,⟨q.2.1,q.2.2.1⟩,q.2.2.2⟩)⟩⟩
theorem md.head {h:Heap} {a C:Addr} {ai:Value} (x:md CM aT ρ h a ai) (ck:CM "TreeFault"=some C):∃ob,h.get? a=some ob/\ob.cls=.ref C:=
 x.2.2.elim fun n7 q=>q.elim fun ob q=>q.elim fun vs q=>⟨ob,q.2.1,q.2.2.2.1.trans (congrArg Value.ref (Option.some.inj (q.1.symm.trans ck)))⟩
theorem md.obj {h:Heap} {a:Addr} {ai:Value} (x:md CM aT ρ h a ai):∃ob,h.get? a=some ob/\r8 ob:=
 x.2.2.elim fun n7 q=>q.elim fun ob q=>q.elim fun vs q=>⟨ob,q.2.1,q.2.2.1,vs,q.2.2.2.2.1,q.2.2.2.2.2.1,q.2.2.2.2.2.2.1⟩
theorem I4 {c4:Heap} (I:aK w CM K env J ρ s fs) (Np:∀b,e3 (ρ b)->c4.get? b=s.heap.get? b) (l:List Env):(∀e∈l,e.scope.kind≠.module/\∃L,e.frame=some L/\L∈K.frames)->c4.FunFrames {objs:= #[]} l:=by
 induction l with
 |nil=>intro _;trivial
 |cons e l ih=>
  intro h
  refine cl (h e List.mem_cons_self) ?_;intro M O
  refine bb O ?_;clear O;intro L O Y
  refine cl (I.base.fq L Y) ?_;intro dK aC
  refine bb aC ?_;clear aC;intro o aC bR
  exact⟨M,⟨L,o,O,rfl,(Np L dK).trans aC,bR⟩,ih fun cg aX=>h cg (List.mem_cons_of_mem _ aX)⟩
theorem JM (I:aK w CM K env J ρ s fs) {l:List Env} (h:∀e∈l,e.scope.kind≠.module/\∃L,e.frame=some L/\L∈K.frames) {b:Addr} (ah:b∈l.filterMap (·.frame)):e3 (ρ b):=by
 refine bb (List.mem_filterMap.mp ah) ?_;intro e aX aB
 obtain⟨_,L,O,Y⟩:=h e aX
 replace O:=aB▸O;cases O
 exact(I.base.fq _ Y).1
theorem vS (d8:∀x,J.names.lookup x≠some .free) (a3:cp w CM K env J aT a7 ρ s fs) {a:Addr} {ai:Value} {Q:Unit->Shared->Prop} (x:md CM aT ρ s.heap a ai)
  (h:∀ρ' h',cp w CM K env J aT a7 ρ' {s with heap:=h'} fs->md CM aT ρ' h' a .none->(∀e,s.heap.get? a=some e->h'.get? a=some e)->Q () {s with heap:=h'}):wpAny (model aw w) A (setFlight (.ref a) none) Q E s:=by
 obtain⟨M,O,C,ob,vs,ey,eC,h7,m5,kO,nF,p3,T,lA,ts,d1,eT,iK,o8,g8,k4,nJ⟩:=x
 have Fa:3<ts.size:=(Array.getElem?_eq_some_iff.mp nJ).1
 have other:∀b,b≠T->(s.heap.update T (Obj.mapFields (·.setIfInBounds 3 ((none:Option Addr).elim Value.none fun f=>rawInt f)))).get? b=s.heap.get? b:=
  fun b ah=>Heap.get?_update_other _ _ (Ne.symm ah)
 unfold setFlight
 refine wpAny_bind (wpAny_field eC kO d1 ?_)
 refine B (if_pos (show(Value.ref T !=Value.none)=true from by simp)) ?_
 have tM:=Heap.get?_update_self (Obj.mapFields (·.setIfInBounds 3 ((none:Option Addr).elim Value.none fun f=>rawInt f))) g8 (Obj.isFreed_of_fields (Obj.data_mapFields k4 _))
 have dQ:∀b∈[T],ρ b=.aV/\aT b=.free:=fun b ah=>by refine B (List.mem_singleton.mp ah) ?_;exact⟨iK,eT⟩
 refine wpAny_setField g8 k4 Fa (h _ _ (a3.pE (tk:=s.toks) (D:=[T]) d8 dQ (fun b ah=>by refine B (List.mem_singleton.mp ah) ?_;exact⟨_,tM⟩) (fun b o ah _ e=>(other b (fun q=>ah (List.mem_singleton.mpr q))).trans e) fun b o ah e=>⟨o.slots,(other b (fun q=>by(replace ah:=q▸ah;replace ah:=iK▸ah);exact ah)).trans e⟩) ?_ fun e aX=>(other a (Ne.symm o8)).trans aX)
 refine⟨M,(lY (bI O)).trans O,C,ob,vs,ey,(other a (Ne.symm o8)).trans eC,h7,m5,kO,nF,p3,T,_,_,d1,eT,(lY (bI iK)).trans iK,o8,tM,Obj.data_mapFields k4 _,?_⟩
 simp [Fa]
theorem Ed (d8:∀x,J.names.lookup x≠some .free) (a3:cp w CM K env J aT a7 ρ s fs) {a L:Addr} {hx:List Env} {Q:Unit->Shared->Prop} (x:gy CM aT ρ s.heap a) (ea:A.frames=some (env::hx)) (aB:xI K A) (dO:env.frame=some L)
  (h:∀ρ' h',cp w CM K env J aT a7 ρ' {s with heap:=h'} fs->md CM aT ρ' h' a (rawInt L)->Q () {s with heap:=h'}):wpAny (model aw w) A (noteFrame (.ref a) env) Q E s:=by
 obtain⟨⟨M,O⟩,C,ob,vs,ey,eC,h7,m5,kO,nF,p3,Y⟩:=x
 refine bb aB ?_;clear aB;intro l lI hO
 replace lI:=ea▸lI;cases lI
 have I:=a3.dA
 have dq:1<vs.size:=Nat.lt_of_succ_lt nF
 have tail:∀(D:List Addr) (c4:Heap) (head:Value) (aE:Bool),(∀b∈D,ρ b=.aV/\aT b=.free/\b≠a)->(∀b∈D,∃o,c4.get? b=some o)->(∀b,b∉D->c4.get? b=s.heap.get? b)->
   wpAny (model aw w) A (do let f<-frameOf env;let jr<-entryPlaceOf L aE;let b<-EntryCells.newEntry head f .none (rawInt L) .none jr;setField (.ref a) 1 b) Q E {s with heap:=c4}:=fun D c4 head aE dQ t9 t4=>by
  have SG:∀{b:Addr},b∈(env::hx).filterMap (·.frame)->e3 (ρ b):=fun ah=>JM I hO ah
  have Vr:a∉D:=fun q=>(dQ a q).2.2 rfl
  have De:∀b,e3 (ρ b)->c4.get? b=s.heap.get? b:=fun b ah=>t4 b fun q=>by replace ah:=((dQ b q).1)▸ah;exact ah
  refine wpAny_bind (wpAny_frameOf_fun (s:={s with heap:=c4}) ea (I4 I De _ hO) dO fun bw s0=> ?_)
  refine wpAny_bind (wpAny_entryPlaceOf fun jr gi=> ?_)
  unfold EntryCells.newEntry newFields
  refine wpAny_bind (wpAny_newObj_type ?_ (gi.sizeOk5 _ _ _ _ _))
  have JI:∀{b:Addr},¬e3 (ρ b)->b∉(env::hx).filterMap (·.frame):=fun h q=>h (SG q)
  have yb:∀b,¬e3 (ρ b)->bw.get? b=c4.get? b:=fun b ah=>s0.2.1 b (JI ah)
  have Gl:¬e3 (ρ a):=by refine B O ?_;exact fun q=>q
  have rN:bw.get? a=some ob:=(yb a Gl).trans ((t4 a Vr).trans eC)
  have FP:=Heap.get?_push_of_some (h:=bw) {cls:=.type "traceback",dict:=none,data:=.fields ([head,.ref L,.none,rawInt L,.none]++(if jr.isEmpty then List.replicate 6 Value.none else jr)).toArray} rN
  have Cw:bw.objs.size≠a:=Nat.ne_of_gt (Heap.lt_size rN)
  have xN:=Obj.data_mapFields kO (·.setIfInBounds 1 (Value.ref bw.objs.size))
  have CO:=Heap.get?_update_self (Obj.mapFields (·.setIfInBounds 1 (Value.ref bw.objs.size))) FP (Obj.isFreed_of_fields xN)
  have CN:=(Heap.get?_update_other (bw.push {cls:=.type "traceback",dict:=none,data:=.fields ([head,.ref L,.none,rawInt L,.none]++(if jr.isEmpty then List.replicate 6 Value.none else jr)).toArray})
   (Obj.mapFields (·.setIfInBounds 1 (Value.ref bw.objs.size))) (Ne.symm Cw)).trans (Heap.get?_push_size bw rfl)
  have keep:∀b o,b≠a->bw.get? b=some o->
    ((bw.push {cls:=.type "traceback",dict:=none,data:=.fields ([head,.ref L,.none,rawInt L,.none]++(if jr.isEmpty then List.replicate 6 Value.none else jr)).toArray}).update a (Obj.mapFields (·.setIfInBounds 1 (Value.ref bw.objs.size)))).get? b=some o:=fun b o iR ah=>by
   refine B (Heap.get?_update_other _ _ (Ne.symm iR)) ?_
   exact Heap.get?_push_of_some _ ah
  have Of:s.heap.get? bw.objs.size=none:=by
   cases e:s.heap.get? bw.objs.size with
   |none=>rfl
   |some o=>
    have tn:∃oF,c4.get? bw.objs.size=some oF:=by
     by_cases q:bw.objs.size∈D
     ·exact t9 _ q
     ·exact⟨o,(t4 _ q).trans e⟩
    refine bS tn ?_;clear tn;intro oF JE
    have:=Heap.lt_size JE
    replace this:=s0.1▸this
    exact absurd this (Nat.lt_irrefl _)
  have Dx:ρ bw.objs.size=.free:=(I.base.c1 _).mpr Of
  have KB:∀b∈a::D,ρ b=.aV/\aT b=.free:=fun b ah=>by
   rcases List.mem_cons.mp ah with rfl|ah
   ·exact⟨O,M⟩
   ·exact⟨(dQ b ah).1,(dQ b ah).2.1⟩
  refine wpAny_setField FP kO dq (h _ _ (a3.pE (tk:=s.toks) (D:=a::D) d8 KB (fun b ah=> ?_) (fun b o ah ea e=> ?_) (fun b o ea e=> ?_)) ?_)
  ·rcases List.mem_cons.mp ah with rfl|ah
   ·exact⟨_,CO⟩
   ·refine bS (t9 b ah) ?_;intro o cq
    exact⟨o,keep b o (dQ b ah).2.2 ((yb b (by refine B ((dQ b ah).1) ?_;exact fun q=>q)).trans cq)⟩
  ·exact keep b o (fun q=>ah (by refine B q ?_;exact List.mem_cons_self)) ((yb b ea).trans ((t4 b fun q=>ah (List.mem_cons_of_mem _ q)).trans e))
  ·refine bS (s0.2.2 b o ((De b ea).trans e)) ?_;intro f0 cg
   exact⟨f0,keep b _ (fun q=>Gl (q▸ea)) cg⟩
  ·refine⟨M,(lY (bI O)).trans O,C,_,_,ey,CO,Obj.isFreed_of_fields xN,(Obj.cls_mapFields _ _).trans m5,xN,by simpa using nF,by refine B (Array.getElem?_setIfInBounds_ne (by decide)) ?_;exact p3,bw.objs.size,_,_,by simp [dq],a3.ext.ic _ Dx,gD Dx CN,Cw,CN,rfl,?_⟩
   first|(simp;done)|(rcases gi with rfl|⟨_,_,_,_,_,_,_,rfl⟩<;>simp)
 unfold noteFrame
 simp only [dO]
 rcases Y with Y|⟨T,lA,ts,d1,⟨eT,iK⟩,o8,g8,k4,nJ⟩
 ·refine wpAny_bind (wpAny_field eC kO Y ?_)
  refine B (if_neg (by decide)) ?_
  exact tail [] s.heap .none false (fun b ah=>nomatch ah) (fun b ah=>nomatch ah) fun b _=>rfl
 ·refine wpAny_bind (wpAny_field eC kO d1 ?_)
  refine B (if_pos (show(Value.ref T !=Value.none)=true from by simp)) ?_
  refine wpAny_bind (wpAny_field g8 k4 nJ ?_)
  refine B (if_neg (show¬((Value.none==rawInt L)=true) from by simp [rawInt])) ?_
  refine wpAny_bind (wpAny_setField g8 k4 (Array.getElem?_eq_some_iff.mp nJ).1 ?_)
  have tM:=Heap.get?_update_self (Obj.mapFields (·.setIfInBounds 3 Value.none)) g8 (Obj.isFreed_of_fields (Obj.data_mapFields k4 _))
  refine tail [T] _ (.ref T) true (fun b ah=> ?_) (fun b ah=> ?_) fun b ah=>Heap.get?_update_other _ _ (fun q=>ah (List.mem_singleton.mpr q.symm))
  ·refine B (List.mem_singleton.mp ah) ?_;exact⟨iK,eT,o8⟩
  ·refine B (List.mem_singleton.mp ah) ?_;exact⟨_,tM⟩
theorem lO:Ai w CM:=by
 intro K env J A aT ρ a7 s fs a l d8 a3 x ea aB E
 obtain⟨L,dO⟩:∃L,env.frame=some L:=by
  refine bb aB ?_;clear aB;intro c8 M O
  replace M:=ea▸M;cases M
  obtain⟨_,L,Y,_⟩:=O env List.mem_cons_self
  exact⟨L,Y⟩
 unfold leaving
 refine wpAny_bind (Ed d8 a3 x ea aB dO fun aN bw yM KV=> ?_)
 exact vS (s:={s with heap:=bw}) d8 yM KV fun b8 dJ ry yF _=>⟨b8,ry,yF.at⟩
end
end Mine
end
section
open PySem PySem.W PySem.Calls PyProof.Rows
namespace Mine
section
variable{w:World} {CM:cn} {bj:dM} {F:Frag} {K:Top} {env:Env} {J:Scope} {A:Around} {E:Value->Shared->Prop} {ρ ρ₀ aT ρ':a5} {s c9 a7 az:Shared} {fs fs' fs₁:X} {ai:bE} {R Rh:bk}
theorem cp.oj {a:Addr} {ob:Obj} (a3:cp w CM K env J aT a7 ρ s fs) (aE:K.eD=none) (d8:∀x,J.names.lookup x≠some .free) (hd:ρ a=.aV) (ah:aT a=.free) (cq:s.heap.get? a=some ob):
  cp w CM {K with eD:=some (a,ob)} env J aT a7 (cw ρ a (.be ob)) s fs:=by
 have I:=a3.dA.fK hd (fun x c q _=>absurd q (d8 x)) cq
 refine⟨⟨⟨I.base.fU,fun b x e=> ?_,I.base.fq,I.base.bK,I.base.c1,I.base.gq,I.base.fS,I.base.inj⟩,I.c0,I.cJ,I.fC,I.eW,I.cells,I.frees,I.apart,I.e0,I.fi⟩,a3.ext.fK ah,fun b x e=>a3.gK b x ?_⟩
 ·refine b6 e ?_;clear e;exact dI
 ·by_cases q:b=a
  ·(replace e:=q▸e;replace e:=dI▸e);cases e
  ·rwa [bp q] at e
theorem cp.UQ {o:Option (Addr×Obj)} (a3:cp w CM {K with eD:=o} env J aT a7 ρ s fs) (aE:K.eD=none):cp w CM K env J aT a7 ρ s fs:=by
 have I:=a3.dA
 exact⟨⟨⟨I.base.fU,fun b x e=>by replace e:=aE▸e;(exact Z e),I.base.fq,I.base.bK,I.base.c1,I.base.gq,I.base.fS,I.base.inj⟩,I.c0,I.cJ,I.fC,I.eW,I.cells,I.frees,I.apart,I.e0,I.fi⟩,a3.ext,a3.gK⟩
theorem TL (bn:jz CM bj F) (bz:K.f=F) {k:Nat} (bc:ek K (k+1) A) (ag:k%2=0) (S:fE w CM K env J A R) (eb:∀K' kb,K'.f=F->ek K' k kb->kb.frames=A.frames->fE w CM K' env J kb Rh) {hx:List Env} (ea:A.frames=some (env::hx))
  {c:Str} {m2 an pos:Pos} {body h:List Stmt} {i0:Stmt} (hc:c=("TreeFault":Str)) (ae:J.names.lookup c=some .globalImplicit) (d8:∀x,J.names.lookup x≠some .free)
  (q:(ob (cO R body fs) fun ai fs₁=>Gr ai fs₁ (cO Rh (i0::h)))=some (ai,fs')) (a3:cp w CM K env J aT a7 ρ s fs):
  wpAny (model aw w) A (exec (.Try body [.ExceptHandler (some (.Name c m2)) none (i0::h) an] [] [] pos) env) (eg w CM K env J aT a7 ρ s ai fs') (hD w CM K env J aT a7 ai fs') s:=by
 subst hc
 refine bb bn.xe ?_;intro C zA jB
 have aE:K.eD=none:=bc.zh (by exact Lh ag)
 obtain⟨L,dO⟩:∃L,env.frame=some L:=by
  refine bb bc.frames ?_;intro c8 M O
  replace O:=(Eq.symm (Option.some.inj (ea.symm.trans M)))▸O
  exact(O env List.mem_cons_self).2.imp fun L z=>z.1
 refine bS jB.cls ?_;intro P ck
 refine ck.fa fun nm Ze N bs sn sub ab col dd k0 k1 k2 k3 k5 n6=> ?_
 refine wpAny_Try_except ?_
 refine b5 q (fun gX fs₁ M q=> ?_) Z
 by_cases mg:gX=.dC
 ·rw [mg] at q M
  refine x7 q (fun r fs₂ O q=>b6 q ?_) Z
  refine wpAny_mono (oN S _ M a3) (fun f aj P=>P.elim) fun e aj P=> ?_
  refine dP P.2 ?_;clear P;intro aN a yM u x;subst u
  refine Ed d8 yM x ea bc.frames dO fun b8 dJ ry yF=>vS (s:={aj with heap:=dJ}) d8 ry yF fun jm fk y0 Bo _=> ?_
  have eh:F.In fk:=bz▸y0.dA.in
  refine wpAny_handleBy_cons (codeAny_handlers_test (oR (s:={aj with heap:=fk}) jB.name ae y0.dA.c0 eh (by decide+kernel) ?_)) (by intro q;cases q)
  refine bb (Bo.head zA) ?_;intro hC eC m5
  refine wpAny_excMatches_sub_self (eh _ _ n6) eC m5 rfl (codeAny_handlers_suite (vS (s:={aj with heap:=fk}) d8 y0 Bo fun vU xL Qu ws _=> ?_))
  refine bb ws.obj ?_;intro Ft ar tn
  have Kn:=Qu.oj aE d8 ws.2.1 ws.1 ar
  have rp:ek {K with eD:=some (a,Ft)} k (A.mark (some (.ref a))):=
   ⟨⟨rfl,tn⟩,bc.frames,by have:=bc.depth;show A.depth+2*k+8<_;exact TO this,by have:=bc.units;show A.units+16*k+400<_;exact XW this,fun z=>by exact(NF ag z).elim⟩
  refine wpAny_mono (oN (eb {K with eD:=some (a,Ft)} _ bz rp rfl) _ O Kn) (fun f xx P=> ?_) fun e xx P=>nomatch P.1
  exact P.imp fun v z=>⟨z.1,z.2.imp fun YU z=>⟨z.1.UQ aE,z.2⟩⟩
 ·have e:some (gX,fs₁)=some (ai,fs'):=by
   cases gX with
   |dC=>exact absurd rfl mg
   |_=>exact q
  cases e
  refine wpAny_mono (oN S _ M a3) (fun f aj P=> ?_) fun e aj P=>absurd P.1 mg
  cases ai with
  |next=>refine B P.1 ?_;exact wpAny_execs_nil ⟨rfl,P.2⟩
  |brk=>refine B P.1 ?_;exact⟨rfl,P.2⟩
  |ret r=>exact P.elim fun v z=>by refine B z.1 ?_;exact⟨v,rfl,z.2⟩
  |dC=>exact P.elim
end
end Mine
end
section
open PySem PySem.W PySem.Calls PyProof.Rows
namespace Mine
section
variable{w:World} {CM:cn} {bj:dM} {F:Frag} {K:Top} {env:Env} {J:Scope} {A:Around} {E:Value->Shared->Prop} {ρ ρ₀ aT ρ':a5} {s c9 a7 az:Shared} {fs fs' fs₁:X} {ai:bE} {R:bk} {C CQ:cs} {k:Nat}
theorem IT {J:Scope} (h:J.names.all (fun p=>p.2 !=.free)=true):∀x,J.names.lookup x≠some .free:=fun x q=>lD (List.all_eq_true.mp h _ (mem_of_lookup q))
noncomputable def Hh (w:World) (CM:cn) (F:Frag) (k:Nat) (env:Env) (J:Scope) (A:Around):Option (Scope->bk)->Prop
 |none=>True
 |some Rh=>∃j,k=j+1/\j%2=0/\∀K' kb,K'.f=F->ek K' j kb->kb.frames=A.frames->fE w CM K' env J kb (Rh J)
theorem O5 (bn:jz CM bj F) (bz:K.f=F) (c4:gM w CM bj F k C) (bc:ek K k A) {ca:Scope->bk} {Rh:Option (Scope->bk)} (S:fE w CM K env J A (ca J)) (bx:Hh w CM F k env J A Rh) (ea:∃hx,A.frames=some (env::hx)) {ao:Stmt}
  (q:qt C ca Rh J ao fs=some (ai,fs')) (a3:cp w CM K env J aT a7 ρ s fs):
  wpAny (model aw w) A (exec ao env) (eg w CM K env J aT a7 ρ s ai fs') (hD w CM K env J aT a7 ai fs') s:=by
 have kM:=bn.tonQ.touq.towL.topV.tojL
 cases ao with
 |Return e pos=>
  refine bG q (fun e aX q=>b5 q (fun r fs₁ M q=>b5 q (fun r' fs₂ O q=>b6 q ?_) Z) Z) Z
  refine B aX ?_
  exact Ye S.tocB M O a3
 |Break p=>exact b6 q (wpAny_Break ⟨rfl,ρ,a3,a2.refl ..⟩)
 |If c a b p=>exact b5 q (fun t fs₁ M q=>RE S M q a3) Z
 |While c body gG p=>
  refine cK q (fun aX q=> ?_) Z
  refine B (List.isEmpty_iff.mp aX) ?_
  exact J0 S q a3
 |For t iter body gG p=>
  refine bG q (fun x ae q=>cK q (fun aX q=>b5 q (fun items fs₁ M q=> ?_) Z) Z) Z
  refine bS (n8 ae) ?_;intro px e
  (refine B e ?_;refine B (List.isEmpty_iff.mp aX) ?_)
  exact SS kM bz bc.eD S M q a3
 |Assign ts e p=>
  refine bG q (fun t aG q=> ?_) Z
  refine B (VU aG) ?_
  cases t with
  |Name x px=>exact b5 q (fun r fs₁ M q=>V0 S M q a3) Z
  |Tuple ts kk tp=>
   refine cK q (fun hz q=>UY q (fun vs fs₁ M q=>cK q (fun _ q=>pp q fun O=> ?_) Z) Z) Z
   have hz:=Bool.and_eq_true_iff.mp hz
   exact V7 bc.eD S hz.1 hz.2 M O a3
  |Subscript b i sp=>exact b5 q (fun v fs₁ M q=>b5 q (fun r fs₂ O q=>rM q (fun kk fs₃ Y q=>pp q fun aC=>IZ bc.eD S M O Y aC a3) Z) Z) Z
  |_=>exact Z q
 |Expr e p=>
  cases e with
  |Call f args lR zK=>
   refine cK q (fun ag q=> ?_) Z
   refine B (List.isEmpty_iff.mp ag) ?_
   cases f with
   |Name f m2=>
    refine cK q (fun hz q=>b5 q (fun vs fs₁ M q=>b5 q (fun qx per O q=> ?_) Z) Z) Z
    have hz:=Bool.and_eq_true_iff.mp hz
    exact Lg kM.tou0 bz c4 bc S hz.2 (of_decide_eq_true hz.1) M O q a3
   |Attribute o m g3=>exact b5 q (fun r fs₁ M q=>b6 q (Hv S M a3)) Z
   |_=>exact Z q
  |_=>exact Z q
 |Raise x d p=>
  refine bG q (fun e aX q=>b5 q (fun f args M q=>bG q (fun c O q=>bG q (fun a Y q=>cK q (fun hz q=>b6 q ?_) Z) Z) Z) Z) Z
  refine bS (ER M) ?_;intro zK ak
  refine bS (n8 O) ?_;intro m2 ar
  have gp:=Bool.and_eq_true_iff.mp hz
  have gE:=Bool.and_eq_true_iff.mp gp.2
  have km:=Bool.and_eq_true_iff.mp gE.2
  have nT:=Bool.and_eq_true_iff.mp km.2
  refine qz (Xi gp.1) ?_;intro s kk sp bQ
  (refine B aX ?_;refine B ak ?_;refine B ar ?_;refine B (ty Y) ?_;refine B bQ ?_;refine B (Option.isNone_iff_eq_none.mp gE.1) ?_)
  refine bS (Option.isSome_iff_exists.mp km.1) ?_;intro Iu cX
  replace bx:=cX▸bx
  refine et bx ?_;intro j dn fg _
  exact RS (mk:=none) bn bz bc (bc.zh (by(refine B dn ?_;refine B (Nat.add_mod _ _ _) ?_;refine B fg ?_;rfl))) (of_decide_eq_true nT.1) (beq_iff_eq.mp nT.2) a3
 |Try body hs gG cM p=>
  refine bG q (fun Iu gc q=>b5 q (fun c ah M q=>cK q (fun hz q=> ?_) Z) Z) Z
  have gp:=Bool.and_eq_true_iff.mp hz
  have gE:=Bool.and_eq_true_iff.mp gp.2
  have km:=Bool.and_eq_true_iff.mp gE.2
  refine dP (MW M) ?_;intro m2 an ak ar bQ
  cases ah with
  |nil=>exact lD km.2
  |cons i0 h=>
   (refine B ak ?_;refine B ar ?_;refine B bQ ?_)
   replace bx:=gc▸bx
   refine et bx ?_;clear bx;intro j cX dn fg
   subst cX
   refine bS ea ?_;clear ea;intro hx ea
   exact TL bn bz bc dn S fg ea (of_decide_eq_true gp.1) (beq_iff_eq.mp gE.1) (IT km.1) q a3
 |_=>exact Z q
theorem RT {ca:Scope->bk} {e:Expr} {p:Pos}:iY C ca J (.Starred e p) fs=none:=rfl
theorem LU {ca:Scope->bk} {es:List Expr} {k:Nat} {p:Pos}:iY C ca J (.Set es k p) fs=none:=rfl
theorem RW {ca:Scope->bk} {e g c p}:iY C ca J (.SetComp e g c p) fs=none:=rfl
theorem I9 {ca:Scope->bk} {e v g c p}:iY C ca J (.DictComp e v g c p) fs=none:=rfl
theorem AS {ca:Scope->bk} {elt gens aW} {r:aU} {G:Prop} (q:xc ca J elt gens aW fs=some (r,fs')) (k:∀x px iter ifs items fs₁ cj fs₂,gens=[⟨.Name x px,iter,ifs,0⟩]->hv (ca J) J iter fs=some (items,fs₁)->items.length<=a4->aW.names.lookup x=some .local->nZ J aW=true->
   gd (ca aW) x ifs elt items {fs₁ with loc:=mh aW fs₁.loc}=some (cj,fs₂)->r=.own (.am cj)->fs'={fs₁ with per:=fs₂.per}->G):G:=
 bG q (fun g bi q=>b5 q (fun items fs₁ M q=>cK q (fun hz q=>b5 q (fun cj fs₂ O q=>(Eu bi).elim fun px e=>x5 q fun u v=>
  k g.1 px g.2.1 g.2.2 items fs₁ cj fs₂ e M (of_decide_eq_true (Bool.and_eq_true_iff.mp hz).1) (beq_iff_eq.mp (Bool.and_eq_true_iff.mp (Bool.and_eq_true_iff.mp hz).2).1) (Bool.and_eq_true_iff.mp (Bool.and_eq_true_iff.mp hz).2).2 O u v) Z) Z) Z) Z
theorem BV (bn:jz CM bj F) (bz:K.f=F) (c4:gM w CM bj F k C) (bc:ek K k A) {ca:Scope->bk} {Rh:Option (Scope->bk)} (S:∀env J,cB w CM K env J A (ca J)):cB w CM K env J A ⟨iY C ca J,rs ca J,qt C ca Rh J⟩ where
 ba:=fun e fs r fs' q ρ s I=>KX bn.tonQ bz c4 bc S q I
 dF:=fun e fs b fs' q ρ s I=>HS bn.tonQ bz c4 bc S q I
 ro:=fun e p fs=>by show iY C ca J (.Starred e p) fs=none;exact RT
 set:=fun es k p fs=>by show iY C ca J (.Set es k p) fs=none;exact LU
theorem Dg (bn:jz CM bj F) (bz:K.f=F) (c4:gM w CM bj F k C) (bc:ek K k A) {ca:Scope->bk} {Rh:Option (Scope->bk)} (S:∀env J,cB w CM K env J A (ca J)) (R2:fE w CM K env J A (ca J)) (bx:Hh w CM F k env J A Rh) (ea:∃hx,A.frames=some (env::hx)):
  fE w CM K env J A ⟨iY C ca J,rs ca J,qt C ca Rh J⟩ where
 tocB:=BV bn bz c4 bc S
 de:=fun ao fs ai fs' q aT a7 ρ s a3=>O5 bn bz c4 bc R2 bx ea q a3
 xF:=fun elt gens aW pos y jE oP fs r fs' tu sw q bo aT a7 ρ s a3=>by
  refine AS q fun x px iter ifs items fs₁ cj fs₂ e M O Y aC bR ak ar=> ?_
  (replace bo:=ak▸bo;replace bo:=ar▸bo)
  rw [e] at sw|-
  exact Ls bn.tonQ.touq.towL.topV.tojL bz bc.eD (S env J) (fun ed=>S ed aW) sw M O Y aC bR bo a3
 zz:=fun elt gens aW pos fs r fs' q=>by
  exact AS q fun x px iter ifs items fs₁ cj fs₂ e M O Y aC bR ak ar=>⟨_,ak⟩
 zd:=fun e g c p fs=>by show iY C ca J (.SetComp e g c p) fs=none;exact RW
 wP:=fun e v g c p fs=>by show iY C ca J (.DictComp e v g c p) fs=none;exact I9
theorem Bq:cB w CM K env J A ⟨fun _ _=>none,fun _ _=>none,fun _ _=>none⟩ where
 ba:=fun e fs r fs' q=>by exact Z q
 dF:=fun e fs r fs' q=>by exact Z q
 ro:=fun _ _ _=>rfl
 set:=fun _ _ _ _=>rfl
theorem Gz:fE w CM K env J A ⟨fun _ _=>none,fun _ _=>none,fun _ _=>none⟩ where
 tocB:=Bq
 de:=fun e fs r fs' q=>by exact Z q
 xF:=fun elt gens aW pos y jE oP fs r fs' tu sw q=>by exact Z q
 zz:=fun elt gens aW pos fs r fs' q=>by exact Z q
 zd:=fun _ _ _ _ _=>rfl
 wP:=fun _ _ _ _ _ _=>rfl
theorem G8 (bn:jz CM bj F) (bz:K.f=F) {b:Bool} (c4:gM w CM bj F k C) (bc:ek K k A) (n:Nat):∀env J,cB w CM K env J A (aJ b C CQ n J):=by
 induction n with
 |zero=>exact fun env J=>Bq
 |succ n ih=>exact fun env J=>BV bn bz c4 bc ih
theorem C5 (bn:jz CM bj F) (c4:gM w CM bj F k C) (n:Nat) {K A env J} (bz:K.f=F) (bc:ek K k A) (ea:∃hx,A.frames=some (env::hx)):fE w CM K env J A (aJ false C CQ n J):=by
 induction n with
 |zero=>exact Gz
 |succ n ih=>exact Dg (Rh:=none) bn bz c4 bc (G8 bn bz c4 bc n) ih trivial ea
theorem HB (bn:jz CM bj F) {j:Nat} (bF:j%2=0) (c4:gM w CM bj F (j+1) C) (NZ:gM w CM bj F j CQ) (n:Nat) {K A env J} (bz:K.f=F) (bc:ek K (j+1) A) (ea:∃hx,A.frames=some (env::hx)):fE w CM K env J A (aJ true C CQ n J):=by
 induction n with
 |zero=>exact Gz
 |succ n ih=>exact Dg (Rh:=some (aJ false CQ CQ n)) bn bz c4 bc (G8 bn bz c4 bc n) ih ⟨j,rfl,bF,fun K' kb Io rp e=>C5 bn NZ n Io rp (by refine B e ?_;exact ea)⟩ ea
theorem GQ (bn:jz CM bj F) {b:Bool} {m:Nat} (mL:∀{K:Top} {A:Around} {env:Env} {J:Scope},K.f=F->ek K m A->(∃hx,A.frames=some (env::hx))->fE w CM K env J A (aJ b C CQ li J)):
  gM w CM bj F (m+2) (fun f args per=>br (ds f) fun ao=>jR b C CQ ao args per):=by
 intro f args per ai dg q K A bz bc
 have uT:=bn.tonQ.touq.towL.topV.tojL.tou0.toqF
 refine bG q (fun ao eN q=> ?_) Z
 refine dH (uT.sL f ao eN) ?_;intro a ob bJ ak ar sr
 refine⟨a,ak,⟨ao,ob,bJ,ar⟩,fun ρ s bf ap hc ay=> ?_⟩
 refine MD lO uT bz bc ar sr q ap hc ay fun L env aX=> ?_
 refine bb bc.frames ?_;intro l lI hO
 have B3:env.scope.kind≠.module/\env.frame=some env.locals:=by
  refine B aX ?_
  refine⟨?_,rfl⟩
  show bJ.scope.kind≠.module
  (refine B ar.scope ?_;refine B ar.J.kind ?_);nofun
 have rp:ek {K with frames:=env.locals::K.frames} m (A.deeper env):=by
  refine⟨bc.eD,⟨env::l,Around.frames_deeper lI,fun e aX=> ?_⟩,?_,?_,fun z=>bc.zh (by exact TX z)⟩
  ·rcases List.mem_cons.mp aX with rfl|aX
   ·exact⟨B3.1,_,B3.2,List.mem_cons_self⟩
   ·obtain⟨gp,L,gE,km⟩:=hO e aX
    exact⟨gp,L,gE,List.mem_cons_of_mem _ km⟩
  ·have:=bc.depth
   show A.depth+1+2*m+8<_
   exact R7 this
  ·have:=bc.units
   show A.units+3+16*m+400<_
   exact Rr this
 exact mL bz rp ⟨l,Around.frames_deeper lI⟩
theorem Gf {b:Bool} {m:Nat}:gM w CM bj F m (aH b 0):=fun f args per ai dg q=>by exact Z q
theorem Q2 (bn:jz CM bj F) (n:Nat):gM w CM bj F (2*n) (aH false n):=by
 induction n with
 |zero=>exact Gf
 |succ n ih=>exact GQ bn (m:=2*n) fun bz bc ea=>C5 bn ih _ bz bc ea
theorem Pg (bn:jz CM bj F) (n:Nat):gM w CM bj F (2*n+1) (aH true n):=by
 induction n with
 |zero=>exact Gf
 |succ n ih=>exact GQ bn (m:=2*n+1) fun bz bc ea=>HB bn (Nat.mul_mod_right 2 n) ih (Q2 bn n) _ bz bc ea
end
end Mine
end
section
open PySem PySem.W PySem.Calls PyProof.Rows
namespace Mine
section
noncomputable def ud:Nat->List Obj->Frag
 |_,[]=>[]
 |n,o::r=>(n,o)::ud (n+1) r
noncomputable def dj (P:Params):Frag:=ud 0 (Hd.og P)
noncomputable def IU (ob:Obj):FuncData:=match ob.data with
 |.func bJ=>bJ
 |_=>default
noncomputable def sZ (J:Scope) (ps:List Str):Bool:=J.kind==.function&& !J.isGenerator&& !J.isCoroutine&&ps.all (fun x=>J.names.lookup x==some .local||J.names.lookup x==some .cell)&&decide ps.Nodup&&J.names.all (fun p=>p.2 !=.free)&&decide (J.names.map (·.1)).Nodup
theorem v8:∀{names:List (Str×NameKind)} {n:Nat} {cm:List (Str×Addr)} {x:Str},(cm.lookup x).isSome=true->((cellsFrom n names cm).lookup x).isSome=true
 |[],_,_,_,h=>h
 |(y,k)::r,n,cm,x,h=>by
  unfold cellsFrom
  split
  ·refine v8 ?_
   refine B List.lookup_cons ?_
   split
   ·rfl
   ·exact h
  ·exact v8 h
theorem E9:∀{names:List (Str×NameKind)} {n:Nat} {cm:List (Str×Addr)} {x:Str},names.lookup x=some .cell->((cellsFrom n names cm).lookup x).isSome=true
 |(y,k)::r,n,cm,x,h=>by
  rw [List.lookup_cons] at h
  unfold cellsFrom
  split at h
  ·rename_i q
   cases h
   refine B (if_pos (show(NameKind.cell==NameKind.cell)=true from rfl)) ?_
   refine v8 ?_
   (refine B List.lookup_cons ?_;refine B q ?_);rfl
  ·split<;>exact E9 h
theorem tt:∀{names:List (Str×NameKind)} {n:Nat} {cm:List (Str×Addr)} {x:Str} {c:Addr},(names.map (·.1)).Nodup->(cellsFrom n names cm).lookup x=some c->names.lookup x=some .cell\/cm.lookup x=some c
 |[],_,_,_,_,_,h=>.inr h
 |(y,k)::r,n,cm,x,c,aE,h=>by
  obtain⟨M,O⟩:=List.nodup_cons.mp aE
  unfold cellsFrom at h
  refine B List.lookup_cons ?_
  by_cases rK:x=y
  ·subst rK
   refine B (beq_self_eq_true _) ?_
   split at h
   ·rename_i ag
    left
    (refine B (beq_iff_eq.mp ag) ?_;rfl)
   ·rcases tt O h with q|q
    ·exact absurd (List.mem_map.mpr ⟨_,mem_of_lookup q,rfl⟩) M
    ·exact .inr q
  ·have ah:(x==y)=false:=by simpa using rK
   refine B ah ?_
   split at h
   ·rcases tt O h with q|q
    ·exact .inl q
    ·(rw [List.lookup_cons] at q;replace q:=ah▸q);exact .inr q
   ·exact tt O h
theorem NO {J:Scope} {ps:List Str} (h:sZ J ps=true):CH J ps:=by
 unfold sZ at h
 simp only [Bool.and_eq_true,beq_iff_eq,Bool.not_eq_true',decide_eq_true_eq,List.all_eq_true,Bool.or_eq_true] at h
 obtain⟨⟨⟨⟨⟨⟨a,b⟩,c⟩,d⟩,e⟩,f⟩,g⟩:=h
 refine⟨a,b,c,d,e,fun x q=> ?_,fun n x q=>E9 q,fun n x c q=> ?_⟩
 ·have:=f _ (mem_of_lookup q)
  simp at this
 ·rcases tt g q with q|q
  ·exact q
  ·cases q
theorem S3 {bJ:FuncData} {ps:List Str} (n:Nat) (aE:ps.length=n) (h:∀v:Nat->Value,bindArgs bJ ⟨(List.range n).map v,[]⟩=pure (ps.zip ((List.range n).map v))):∀bf:List Value,bf.length=ps.length->bindArgs bJ ⟨bf,[]⟩=pure (ps.zip bf):=fun bf aq=>by
 have e:bf=(List.range n).map fun i=>bf.getD i .none:=by
  apply List.ext_getElem
  ·simp [aq,aE]
  ·intro i M O
   simp only [List.getElem_map,List.getElem_range]
   (refine B List.getD_eq_getElem?_getD ?_;refine B (List.getElem?_eq_getElem M) ?_);rfl
 refine B e ?_;exact h _
noncomputable def ju (P:Params) (a:Addr):Obj:=((dj P).lookup a).getD default
noncomputable abbrev hA (P:Params) (a:Addr):FuncData:=IU (ju P a)
noncomputable abbrev nu (P:Params) (ao:Stmt) (a:Addr):Prop:=jY (dj P) ao a (ju P a) (hA P a)
noncomputable abbrev uu (P:Params) (ao:Stmt) (a:Addr) (d:Value):Prop:=((dj P).lookup a,(ju P a).data,(hA P a).body,(hA P a).scope,(hA P a).globals,(hA P a).builtins,(hA P a).closure,codeIn (dj P) (hA P a).code (hA P a).qualname,keepIn (dj P) (.ref a),(hA P a).defaults)=(some (ju P a),.func (hA P a),.stmts (g0 ao),bN ao,mainGlobals,builtinsNs,[],true,true,d)
theorem yi {P:Params} {ao:Stmt} {a:Addr} {d:Value} (h:uu P ao a d) (hs:sZ (bN ao) (params ao)=true) (ah:∀bf:List Value,bf.length=(params ao).length->d=.none->bindArgs (hA P a) ⟨bf,[]⟩=pure ((params ao).zip bf)):nu P ao a:=by
 simp only [uu,Prod.mk.injEq] at h
 obtain⟨M,O,Y,aC,bR,dK,f3,o7,q2,IA⟩:=h
 exact⟨M,O,Y,aC,bR,dK,f3,o7,q2,fun bf aq hd=>ah bf aq (IA▸hd),NO hs⟩
theorem si {P:Params} {ao:Stmt} {a:Addr} {d:Value} (n:Nat) (h:uu P ao a d) (hs:(sZ (bN ao) (params ao)&&(params ao).length==n)=true) (ah:∀v:Nat->Value,bindArgs (hA P a) ⟨(List.range n).map v,[]⟩=pure ((params ao).zip ((List.range n).map v))):nu P ao a:=
 have q:=Bool.and_eq_true_iff.mp hs
 yi h q.1 fun bf aq _=>S3 n (beq_iff_eq.mp q.2) ah bf aq
theorem J8 (P:Params):nu P (cG 9 0) 180:=si (d:=.none) 2 (by kernel_rfl) (by decide+kernel) fun v=>by kernel_rfl
theorem Oj (P:Params):nu P (cG 12 0) 244:=si (d:=.none) 3 (by kernel_rfl) (by decide+kernel) fun v=>by kernel_rfl
theorem TG (P:Params):nu P (cG 22 0) 385:=si (d:=.none) 3 (by kernel_rfl) (by decide+kernel) fun v=>by kernel_rfl
theorem R4 (P:Params):nu P (cG 23 0) 406:=si (d:=.none) 6 (by kernel_rfl) (by decide+kernel) fun v=>by kernel_rfl
theorem P7 (P:Params):nu P (cG 18 0) 297:=yi (d:=.ref 290) (by kernel_rfl) (by decide+kernel) fun _ _ h=>nomatch h
theorem LQ (P:Params):nu P (cG 2 0) 36:=yi (d:=.ref 29) (by kernel_rfl) (by decide+kernel) fun _ _ h=>nomatch h
noncomputable def FL:List (Str×Addr):=[(o "Reference.pair",251),(o "kind_of",265),(o "told_plain",272),(o "told",277),(o "told_objects",277),(o "copied",282),(o "Lookup.fetch",304),(o "Lookup.get",311),(o "Shelf.put",332),(o "Shelf.add",339),(o "Shelf.numbers",353),(o "Shelf.root",360),(o "Shelf.told",365),(o "turned",420),(o "home_of",427),(o "is_node",434),(o "kids_of",441),(o "met",448),(o "spots",455),(o "fields_of",462),(o "page_spots",467),(o "pages",472),(o "page_count",479),(o "is_count",486),(o "page_at",493),(o "kid_with",500),(o "counts_of",507),(o "is_parent",514),(o "page_faults",521),(o "settle",528),(o "lay",535),(o "grouped",540),(o "build_pages",545),(o "place_of",550),(o "kid_index",555),(o "put_reference",562),(o "insert_page",569),(o "_law_pen",574),(o "_law_draw",581),(o "_law_page",595),(o "_law_seen",600),(o "_law_refused",607),(o "law",612)]
noncomputable def bj:dM:=fun x=>FL.lookup x
noncomputable def nr (p:Str×(Nat×Option Nat)):Stmt:=match p.2.2 with|none=>aI p.2.1|some j=>cG p.2.1 j
noncomputable def wX (P:Params) (p:Str×(Nat×Option Nat)):Prop:=∃a ob bJ,bj p.1=some a/\jY (dj P) (nr p) a ob bJ/\bJ.defaults=.none
theorem row {P:Params} {p:Str×(Nat×Option Nat)} (a n:Nat) (h:uu P (nr p) a .none) (M:bj p.1=some a) (hs:(sZ (bN (nr p)) (params (nr p))&&(params (nr p)).length==n)=true) (ah:∀v:Nat->Value,bindArgs (hA P a) ⟨(List.range n).map v,[]⟩=pure ((params (nr p)).zip ((List.range n).map v))):wX P p:=⟨a,ju P a,hA P a,M,si n h hs ah,(Prod.mk.inj (Prod.mk.inj (Prod.mk.inj (Prod.mk.inj (Prod.mk.inj (Prod.mk.inj (Prod.mk.inj (Prod.mk.inj (Prod.mk.inj h).2).2).2).2).2).2).2).2).2⟩
noncomputable def n2 {α:Type} (Q:α->Prop):List α->Prop
 |[]=>True
 |a::r=>Q a/\n2 Q r
theorem n2.c {α:Type} {Q:α->Prop} {a:α} {r:List α} (h:Q a) (k:n2 Q r):n2 Q (a::r):=⟨h,k⟩
theorem n2.mem {α:Type} {Q:α->Prop} {l:List α} (h:n2 Q l):∀a∈l,Q a:=by
 induction l with
 |nil=>exact fun a q=>nomatch q
 |cons b r ih=>exact fun a q=>(List.mem_cons.mp q).elim (fun e=>e▸h.1) (ih h.2 a)
theorem OB (P:Params):∀p∈rb,wX P p:=n2.mem (Q:=wX P) (l:=rb)<|
 .c (row 251 1 (by kernel_rfl) (by kernel_rfl) (by decide+kernel) fun v=>by kernel_rfl)<|
 .c (row 265 1 (by kernel_rfl) (by kernel_rfl) (by decide+kernel) fun v=>by kernel_rfl)<|
 .c (row 272 2 (by kernel_rfl) (by kernel_rfl) (by decide+kernel) fun v=>by kernel_rfl)<|
 .c (row 277 1 (by kernel_rfl) (by kernel_rfl) (by decide+kernel) fun v=>by kernel_rfl)<|
 .c (row 277 1 (by kernel_rfl) (by kernel_rfl) (by decide+kernel) fun v=>by kernel_rfl)<|
 .c (row 282 1 (by kernel_rfl) (by kernel_rfl) (by decide+kernel) fun v=>by kernel_rfl)<|
 .c (row 304 2 (by kernel_rfl) (by kernel_rfl) (by decide+kernel) fun v=>by kernel_rfl)<|
 .c (row 311 3 (by kernel_rfl) (by kernel_rfl) (by decide+kernel) fun v=>by kernel_rfl)<|
 .c (row 332 4 (by kernel_rfl) (by kernel_rfl) (by decide+kernel) fun v=>by kernel_rfl)<|
 .c (row 339 2 (by kernel_rfl) (by kernel_rfl) (by decide+kernel) fun v=>by kernel_rfl)<|
 .c (row 353 1 (by kernel_rfl) (by kernel_rfl) (by decide+kernel) fun v=>by kernel_rfl)<|
 .c (row 360 1 (by kernel_rfl) (by kernel_rfl) (by decide+kernel) fun v=>by kernel_rfl)<|
 .c (row 365 1 (by kernel_rfl) (by kernel_rfl) (by decide+kernel) fun v=>by kernel_rfl)<|
 .c (row 420 2 (by kernel_rfl) (by kernel_rfl) (by decide+kernel) fun v=>by kernel_rfl)<|
 .c (row 427 2 (by kernel_rfl) (by kernel_rfl) (by decide+kernel) fun v=>by kernel_rfl)<|
 .c (row 434 2 (by kernel_rfl) (by kernel_rfl) (by decide+kernel) fun v=>by kernel_rfl)<|
 .c (row 441 2 (by kernel_rfl) (by kernel_rfl) (by decide+kernel) fun v=>by kernel_rfl)<|
 .c (row 448 4 (by kernel_rfl) (by kernel_rfl) (by decide+kernel) fun v=>by kernel_rfl)<|
 .c (row 455 1 (by kernel_rfl) (by kernel_rfl) (by decide+kernel) fun v=>by kernel_rfl)<|
 .c (row 462 2 (by kernel_rfl) (by kernel_rfl) (by decide+kernel) fun v=>by kernel_rfl)<|
 .c (row 467 1 (by kernel_rfl) (by kernel_rfl) (by decide+kernel) fun v=>by kernel_rfl)<|
 .c (row 472 1 (by kernel_rfl) (by kernel_rfl) (by decide+kernel) fun v=>by kernel_rfl)<|
 .c (row 479 1 (by kernel_rfl) (by kernel_rfl) (by decide+kernel) fun v=>by kernel_rfl)<|
 .c (row 486 1 (by kernel_rfl) (by kernel_rfl) (by decide+kernel) fun v=>by kernel_rfl)<|
 .c (row 493 2 (by kernel_rfl) (by kernel_rfl) (by decide+kernel) fun v=>by kernel_rfl)<|
 .c (row 500 3 (by kernel_rfl) (by kernel_rfl) (by decide+kernel) fun v=>by kernel_rfl)<|
 .c (row 507 1 (by kernel_rfl) (by kernel_rfl) (by decide+kernel) fun v=>by kernel_rfl)<|
 .c (row 514 1 (by kernel_rfl) (by kernel_rfl) (by decide+kernel) fun v=>by kernel_rfl)<|
 .c (row 521 1 (by kernel_rfl) (by kernel_rfl) (by decide+kernel) fun v=>by kernel_rfl)<|
 .c (row 528 1 (by kernel_rfl) (by kernel_rfl) (by decide+kernel) fun v=>by kernel_rfl)<|
 .c (row 535 3 (by kernel_rfl) (by kernel_rfl) (by decide+kernel) fun v=>by kernel_rfl)<|
 .c (row 540 2 (by kernel_rfl) (by kernel_rfl) (by decide+kernel) fun v=>by kernel_rfl)<|
 .c (row 545 3 (by kernel_rfl) (by kernel_rfl) (by decide+kernel) fun v=>by kernel_rfl)<|
 .c (row 550 2 (by kernel_rfl) (by kernel_rfl) (by decide+kernel) fun v=>by kernel_rfl)<|
 .c (row 555 3 (by kernel_rfl) (by kernel_rfl) (by decide+kernel) fun v=>by kernel_rfl)<|
 .c (row 562 3 (by kernel_rfl) (by kernel_rfl) (by decide+kernel) fun v=>by kernel_rfl)<|
 .c (row 569 3 (by kernel_rfl) (by kernel_rfl) (by decide+kernel) fun v=>by kernel_rfl)<|
 .c (row 574 1 (by kernel_rfl) (by kernel_rfl) (by decide+kernel) fun v=>by kernel_rfl)<|
 .c (row 581 2 (by kernel_rfl) (by kernel_rfl) (by decide+kernel) fun v=>by kernel_rfl)<|
 .c (row 595 2 (by kernel_rfl) (by kernel_rfl) (by decide+kernel) fun v=>by kernel_rfl)<|
 .c (row 600 1 (by kernel_rfl) (by kernel_rfl) (by decide+kernel) fun v=>by kernel_rfl)<|
 .c (row 607 2 (by kernel_rfl) (by kernel_rfl) (by decide+kernel) fun v=>by kernel_rfl)<|
 .c (row 612 1 (by kernel_rfl) (by kernel_rfl) (by decide+kernel) fun v=>by kernel_rfl)<|
 trivial
end
end Mine
end
section
open PySem PySem.W PySem.Calls PyProof.Rows
namespace Mine
section
noncomputable def s9:List (Str×Addr):=[(o "TreeFault",59),(o "Decimal",155),(o "Name",183),(o "String",205),(o "Stream",226),(o "Reference",254),(o "Shelf",368),(o "Page",388),(o "Spot",409)]
noncomputable def CM:cn:=fun c=>s9.lookup c
theorem pF {α d7:Type} [BEq α] [LawfulBEq α] {x:α} {y:d7}:∀{l:List (α×d7)},l.lookup x=some y->(x,y)∈l
 |[],h=>by cases h
 |(a,b)::l,h=>by
  rw [List.lookup_cons] at h
  split at h
  ·rename_i e
   cases h
   refine B (beq_iff_eq.mp e) ?_;exact List.mem_cons_self
  ·exact List.mem_cons_of_mem _ (pF h)
noncomputable def yj (c:Str):List Str:=(jl c).getD []++(if c=("Shelf":Str) then [o "table",o "trailer"] else [])
theorem Ja {c a:Str} (h:pQ c a=true):a∈yj c:=by
 unfold pQ at h
 unfold yj
 split at h
 ·rename_i l e
  refine B e ?_
  exact List.mem_append_left _ (by simpa using h)
 ·simp only [Bool.and_eq_true,decide_eq_true_eq,Bool.or_eq_true] at h
  refine B (if_pos h.1) ?_
  refine List.mem_append_right _ ?_
  rcases h.2 with q|q
  ·refine B q ?_;exact List.mem_cons_self
  ·refine B q ?_;exact List.mem_cons_of_mem _ List.mem_cons_self
theorem ND (P:Params):(s9.all fun p=>(yj p.1).all fun a=>hasDictIn (dj P) p.2&&plainGet (dj P) p.2 a&&(match findIn (dj P) (.ref p.2) a with|some ol=>noGet (dj P) ol|none=>false))=true:=by kernel_rfl
theorem Kc (P:Params):zq CM (dj P) where
 sR:=fun c C a M O=>by
  have h:=List.all_eq_true.mp (List.all_eq_true.mp (ND P) _ (pF M)) a (Ja O)
  simp only [Bool.and_eq_true] at h
  obtain⟨⟨Y,aC⟩,bR⟩:=h
  split at bR
  ·rename_i ol e
   exact⟨Y,aC,ol,e,bR⟩
  ·cases bR
theorem UE {x:Str} {ao:Stmt} (h:ds x=some ao):∃p∈rb,p.1=x/\nr p=ao:=by
 unfold ds at h
 obtain⟨p,M,O⟩:=Option.map_eq_some_iff.mp h
 refine⟨(x,p),pF M,rfl,?_⟩
 refine bu O ?_
 unfold nr
 obtain⟨i,j⟩:=p
 cases j<;>rfl
theorem Pt (P:Params):qF CM bj (dj P) where
 tozq:=Kc P
 sm:=⟨((dj P).lookup sysModules).getD default,by kernel_rfl⟩
 qS:=fun h av=>⟨h.nsMap cStatics,.of_isNs (isNs_of_in av (by kernel_rfl)),nsMap_none_of_in av (by kernel_rfl) (by kernel_rfl)⟩
 sL:=fun x ao h=>by
  obtain⟨p,M,rfl,rfl⟩:=UE h
  exact OB P p M
theorem Hr (P:Params):(FL.all fun p=> !kl p.1||hr (dj P) p.1==some (.ref p.2))=true:=by kernel_rfl
theorem Rn (P:Params):u0 CM bj (dj P) where
 toqF:=Pt P
 Gx:=fun x a M O=>by
  have h:=List.all_eq_true.mp (Hr P) _ (pF M)
  simp only [O,Bool.not_true,Bool.false_or,beq_iff_eq] at h
  exact h
theorem NH (P:Params):((["len","abs","sum","sorted","min","isinstance"]:List String).all fun f=>hr (dj P) (Str.ofString f)==some (.builtin f))=true:=by kernel_rfl
theorem Jt (P:Params):((["int","tuple","dict","range","reversed","bool","list"]:List String).all fun f=>hr (dj P) (Str.ofString f)==some (.type f))=true:=by kernel_rfl
theorem SJ (P:Params):jL CM bj (dj P) where
 tou0:=Rn P
 lr:=fun f h=>beq_iff_eq.mp (List.all_eq_true.mp (NH P) f h)
 tV:=fun f h=>beq_iff_eq.mp (List.all_eq_true.mp (Jt P) f h)
noncomputable def rl:List Str:=sK++hE
theorem zm {c:Str} {eH:Value} (h:i6 CM c=some eH):c∈rl:=by
 unfold i6 at h
 unfold rl
 split at h
 ·rename_i q;exact List.mem_append_left _ (by simpa using q)
 ·split at h
  ·rename_i q;exact List.mem_append_right _ (by simpa using q)
  ·cases h
theorem Uv (P:Params):((["NoneType","bool","int","str","list","dict","tuple"]:List String).all fun T=>rl.all fun c=>match i6 CM c with|some eH=>kitOne (dj P) (.type T) eH==some (wn T c)|none=>true)=true:=by kernel_rfl
theorem O0 (P:Params):(s9.all fun p=> !(decide (p.1=("Shelf":Str))||hE.contains p.1)||rl.all fun c=>match i6 CM c with|some eH=>kitOne (dj P) (.ref p.2) eH==some (decide (c=p.1))|none=>true)=true:=by kernel_rfl
theorem Hn (P:Params):(s9.all fun p=> !(decide (p.1=("Shelf":Str))||hE.contains p.1)||(plainGet (dj P) p.2 "__class__"&&hasDictIn (dj P) p.2&&findIn (dj P) (.ref p.2) "__class__"==some (some (.builtin "object.__class__"))&&mroIn (dj P) p.2 (.type "object")==some true))=true:=by kernel_rfl
theorem Xc:(hE.all fun c=>(CM c).isSome)=true:=by decide+kernel
theorem Sg (P:Params):(rl.all fun c=>match i6 CM c with|some eH=>hr (dj P) c==some eH|none=>true)=true:=by kernel_rfl
theorem Ma (P:Params):pV CM bj (dj P) where
 tojL:=SJ P
 lf:=fun T gR c eH h=>by
  have:=List.all_eq_true.mp (List.all_eq_true.mp (Uv P) T gR) c (zm h)
  replace this:=h▸this
  exact beq_iff_eq.mp this
 r1:=fun d D c eH M O Y=>by
  have:=List.all_eq_true.mp (O0 P) _ (pF M)
  have e:(decide (d=("Shelf":Str))||hE.contains d)=true:=by
   rcases O with q|q
   ·refine B (decide_eq_true q) ?_;rfl
   ·(refine B q ?_;refine B (Bool.or_true _) ?_;rfl)
  replace this:=e▸this
  have:=List.all_eq_true.mp this c (zm Y)
  replace this:=Y▸this
  exact beq_iff_eq.mp this
 He:=fun d D M O=>by
  have:=List.all_eq_true.mp (Hn P) _ (pF M)
  have e:(decide (d=("Shelf":Str))||hE.contains d)=true:=by
   rcases O with q|q
   ·refine B (decide_eq_true q) ?_;rfl
   ·(refine B q ?_;refine B (Bool.or_true _) ?_;rfl)
  replace this:=e▸this
  simp only [Bool.not_true,Bool.false_or,Bool.and_eq_true,beq_iff_eq] at this
  exact⟨this.1.1.1,this.1.1.2,this.1.2,this.2⟩
 zl:=⟨by kernel_rfl,by kernel_rfl⟩
 cls:=fun c h=>Option.isSome_iff_exists.mp (List.all_eq_true.mp Xc c (by simpa using h))
 GB:=fun c eH h=>by
  have:=List.all_eq_true.mp (Sg P) c (zm h)
  replace this:=h▸this
  exact beq_iff_eq.mp this
end
end Mine
end
section
open PySem PySem.W PySem.Calls PyProof.Rows
namespace Mine
section
noncomputable def AB (F:Frag) (C:Addr) (names:List Str) (fI:Addr):Bool:=makesIn F C&&findIn F (.ref C) "__setattr__"==some (some (.builtin "object.__setattr__"))&&plainOver F C&&hasDictIn F C&&
 names.all (fun n=>takerIn F C n==some none)&&findIn F (.ref C) "__init__"==some (some (.ref fI))&&typeIn F (.ref fI)==some (.type "function")&&keepIn F (.ref C)&&decide names.Nodup&&decide (names.length<900)&&names.all (fun n=> !(n==("__debug__":Str)))
theorem vu {F:Frag} {C:Addr} {names:List Str} {fI:Addr} {ao:Stmt} {ob:Obj} {bJ:FuncData} (h:AB F C names fI=true) (bV:jY F ao fI ob bJ) (hd:bJ.defaults=.none) (an:params ao=("self":Str)::names) (ah:vM names (g0 ao)):oU F C names:=by
 unfold AB at h
 simp only [Bool.and_eq_true,beq_iff_eq,decide_eq_true_eq,List.all_eq_true,Bool.not_eq_true'] at h
 obtain⟨⟨⟨⟨⟨⟨⟨⟨⟨⟨a,b⟩,c⟩,d⟩,e⟩,f⟩,g⟩,i⟩,j⟩,k⟩,l⟩:=h
 exact⟨a,⟨b,c,d⟩,e,⟨ao,fI,ob,bJ,f,g,bV,hd,an,ah⟩,i,j,k,l⟩
theorem OX (P:Params):oU (dj P) 183 ["text"]:=vu (fI:=180) (by kernel_rfl) (J8 P) (by kernel_rfl) (by decide+kernel) ⟨_,_,_,_,_,rfl,rfl⟩
theorem Ob (P:Params):oU (dj P) 254 ["number","generation"]:=vu (fI:=244) (by kernel_rfl) (Oj P) (by kernel_rfl) (by decide+kernel) ⟨_,_,_,_,_,rfl,⟨_,_,_,_,_,rfl,rfl⟩⟩
theorem ME (P:Params):oU (dj P) 388 ["reference","fields"]:=vu (fI:=385) (by kernel_rfl) (TG P) (by kernel_rfl) (by decide+kernel) ⟨_,_,_,_,_,rfl,⟨_,_,_,_,_,rfl,rfl⟩⟩
theorem M9 (P:Params):oU (dj P) 409 ["reference","head","above","inherited","is_page"]:=vu (fI:=406) (by kernel_rfl) (R4 P) (by kernel_rfl) (by decide+kernel) ⟨_,_,_,_,_,rfl,⟨_,_,_,_,_,rfl,⟨_,_,_,_,_,rfl,⟨_,_,_,_,_,rfl,⟨_,_,_,_,_,rfl,rfl⟩⟩⟩⟩⟩
theorem WP (P:Params):wL CM bj (dj P) where
 topV:=Ma P
 Fc:=fun c names h=>by
  unfold jl at h
  split at h
  ·rename_i e;subst e;cases h;exact⟨183,by kernel_rfl,by kernel_rfl,OX P,by decide+kernel⟩
  ·split at h
   ·rename_i e;subst e;cases h;exact⟨254,by kernel_rfl,by kernel_rfl,Ob P,by decide+kernel⟩
   ·split at h
    ·rename_i e;subst e;cases h;exact⟨388,by kernel_rfl,by kernel_rfl,ME P,by decide+kernel⟩
    ·split at h
     ·rename_i e;subst e;cases h;exact⟨409,by kernel_rfl,by kernel_rfl,M9 P,by decide+kernel⟩
     ·cases h
noncomputable def x4:List (Str×Str×Str):=[(o "Reference",o "pair",o "Reference.pair"),(o "Shelf",o "fetch",o "Lookup.fetch"),(o "Shelf",o "get",o "Lookup.get"),(o "Shelf",o "put",o "Shelf.put"),(o "Shelf",o "add",o "Shelf.add"),(o "Shelf",o "numbers",o "Shelf.numbers"),(o "Shelf",o "root",o "Shelf.root"),(o "Shelf",o "told",o "Shelf.told")]
theorem HK {c m f:Str} (h:qK c m=some f):(c,m,f)∈x4:=by
 unfold qK at h
 unfold x4
 split at h
 ·rename_i e
  subst e
  split at h
  ·rename_i e;subst e;cases h;exact List.mem_cons_self
  ·cases h
 ·split at h
  ·rename_i e
   subst e
   split at h
   ·rename_i e;subst e;cases h;decide+kernel
   split at h
   ·rename_i e;subst e;cases h;decide+kernel
   split at h
   ·rename_i e;subst e;cases h;decide+kernel
   split at h
   ·rename_i e;subst e;cases h;decide+kernel
   split at h
   ·rename_i e;subst e;cases h;decide+kernel
   split at h
   ·rename_i e;subst e;cases h;decide+kernel
   split at h
   ·rename_i e;subst e;cases h;decide+kernel
   cases h
  ·cases h
theorem Mm (P:Params):(x4.all fun p=>match CM p.1 with
 |some C=>findIn (dj P) (.ref C) "__getattribute__"==some (some (.builtin "object.__getattribute__"))&&findIn (dj P) (.ref C) "__getattr__"==some none&&(match bj p.2.2 with
  |some a=>findIn (dj P) (.ref C) p.2.1==some (some (.ref a))&&typeIn (dj P) (.ref a)==some (.type "function")
  |none=>false)
 |none=>true)=true:=by kernel_rfl
theorem MI (P:Params):yk (dj P) 368 where
 tT:=by kernel_rfl
 ao:=⟨by kernel_rfl,by kernel_rfl,by kernel_rfl⟩
 tk:=⟨by kernel_rfl,by kernel_rfl⟩
 init:=by
  refine⟨cG 18 0,297,ju P 297,hA P 297,_,_,by kernel_rfl,by kernel_rfl,P7 P,by decide+kernel,rfl,⟨_,_,_,_,_,_,_,_,_,_,rfl⟩,⟨_,_,_,_,_,_,_,_,_,_,rfl⟩,fun s av v=> ?_⟩
  refine BindsTo.of_defaults (T:=290) (o:=((dj P).lookup 290).getD default) (items:= #[.none,.none]) (n:=0) (by kernel_rfl) (av _ _ (by kernel_rfl)) (by kernel_rfl) rfl (by kernel_rfl)
 keep:=by kernel_rfl
theorem VE (P:Params):uq CM bj (dj P) where
 towL:=WP P
 Fw:=fun c m f C M O=>by
  have h:=List.all_eq_true.mp (Mm P) _ (HK M)
  dsimp only at h
  replace h:=O▸h
  dsimp only at h
  simp only [Bool.and_eq_true,beq_iff_eq] at h
  obtain⟨⟨Y,aC⟩,bR⟩:=h
  split at bR
  ·rename_i a e
   simp only [Bool.and_eq_true,beq_iff_eq] at bR
   exact⟨Y,aC,a,e,bR.1,bR.2⟩
  ·cases bR
 Ec:=⟨368,by kernel_rfl,by kernel_rfl,MI P⟩
end
end Mine
end
section
open PySem PySem.W PySem.Calls PyProof.Rows
namespace Mine
section
theorem UG (P:Params):lJ (dj P) 59 46 where
 gx:=⟨o "TreeFault",o "TreeFault",58,[.ref 46],[],[],false,none,none,some (.ref 50),none,some (.str (o "TreeFault") 236),some (.str (o "TreeFault") 244),some (.bool true),by kernel_rfl⟩
 sa:=by kernel_rfl
theorem WB (P:Params):yn (dj P) 59 where
 name:=by kernel_rfl
 dC:=by kernel_rfl
 B0:=by kernel_rfl
 EJ:=by kernel_rfl
 cls:=⟨46,UG P⟩
 DD:=by
  refine⟨36,ju P 36,hA P 36,209,by kernel_rfl,LQ P,by kernel_rfl,fun s av v u=> ?_⟩
  refine BindsTo.of_defaults (T:=29) (o:=((dj P).lookup 29).getD default) (items:= #[.int (-1) 209]) (n:=0) (by kernel_rfl) (av _ _ (by kernel_rfl)) (by kernel_rfl) rfl (by kernel_rfl)
theorem VD (P:Params):jz CM bj (dj P) where
 touq:=VE P
 inh:=⟨371,0,654,655,656,657,by kernel_rfl,by kernel_rfl⟩
 DY:=⟨377,by kernel_rfl⟩
 xe:=⟨59,by kernel_rfl,WB P⟩
end
end Mine
end
section
open PySem PySem.W PySem.Calls PyProof.Rows
namespace Mine
section
variable{w:World}
theorem U2 {P:Params} {h:Heap} (dw:∀a x,(Hd.f1 P).get? a=some x->h.get? a=some x):(dj P).In h:=by
 intro a x e
 refine dw a x ?_
 have key:∀(a:Nat) (l:List Obj) (n:Nat),(ud n l).lookup a=some x->n<=a/\l[a-n]? =some x:=by
  intro a l
  induction l with
  |nil=>intro n h;cases h
  |cons o r ih=>
   intro n h
   unfold ud at h
   rw [List.lookup_cons] at h
   split at h
   ·rename_i q
    have q:=beq_iff_eq.mp q
    cases h
    subst q
    exact⟨Nat.le_refl _,by simp⟩
   ·obtain⟨M,O⟩:=ih (n+1) h
    refine⟨by exact Rg M,?_⟩
    have:a-n=(a-(n+1))+1:=by exact gp M
    refine B this ?_;exact O
 obtain⟨-,O⟩:=key _ _ _ e
 replace O:=(Nat.sub_zero _)▸O
 rw [Heap.get?_some_iff]
 refine⟨by show(Array.mk (Hd.og P))[a]? =_;refine B List.getElem?_toArray ?_;exact O,?_⟩
 have aY:x∈Hd.og P:=List.mem_of_getElem? O
 have tA:(Hd.og P).all (fun o=> !o.isFreed)=true:=by kernel_rfl
 simpa using List.all_eq_true.mp tA x aY
open Classical in
noncomputable def lV (h:Heap):a5:=fun a=>match h.get? a with
 |some ob=>.be ob
 |none=>.free
theorem tm {h:Heap} {a:Addr} {ob:Obj}:lV h a=.be ob↔h.get? a=some ob:=by
 unfold lV
 split
 ·rename_i o e;refine B e ?_;simp
 ·rename_i e;refine B e ?_;simp
theorem Ip (h:Heap):iH (lV h):=fun a=>by
 unfold lV
 split<;>exact⟨fun _ q=>(nomatch q),fun q=>(nomatch q),fun q=>(nomatch q)⟩
noncomputable def yw (P:Params):Top:=⟨dj P,none,[]⟩
theorem Wo {s:Shared} (av:(dj w.params).In s.heap):cH w CM (yw w.params) (lV s.heap) s [] where
 fU:=fun a x e=>tm.mpr (av a x e)
 fz:=fun a x e=>by cases e
 fq:=fun a e=>by cases e
 bK:=fun a ob e=>tm.mp e
 c1:=fun a=>by unfold lV;split<;>simp [*]
 gq:=fun k h=>by cases h
 fS:=fun a k e=>by unfold lV at e;split at e<;>cases e
 inj:=fun a b k e=>by unfold lV at e;split at e<;>cases e
theorem SC (P:Params):ek (yw P) (2*20+1) callerA:=⟨rfl,⟨[],rfl,fun e h=>by cases h⟩,by decide,by decide+kernel,fun _=>rfl⟩
theorem J7 (P:Params):bj (o "law")=some 612:=by kernel_rfl
theorem VC {ρ:a5} {h:Heap} {P:Params} (ns:List Int):∀{vs:List Value},WellAll P h vs (ns.map .int)->a8 w CM ρ (ns.map .int) vs:=by
 induction ns with
 |nil=>intro vs h;cases h;exact a8.nil
 |cons n r ih=>
  intro vs h
  obtain⟨v,K7,e,M,O⟩:=wellAll_cons_inv h
  refine B e ?_
  cases M
  exact a8.cons ⟨_,rfl⟩ (ih O)
theorem W7 (an:∀ns:List Int,ns.length<=63->∃per,aH true 20 "law" [.am (ns.map .int)] []=some (.ret (.U (.bool true)),per)) {s:Shared} (av:(dj w.params).In s.heap) {ns:List Int} (aE:ns.length<=63) {l:Addr} {vs:List Value}
  (aq:s.heap.get? l=some {cls:=.type "list",data:=.seq vs.toArray}) (ay:WellAll w.params s.heap vs (ns.map .int)) {E:Value->Shared->Prop} {Q:Value->Shared->Prop}
  (h:∀h' tk,(∀b o,s.heap.get? b=some o->h'.get? b=some o)->Q (.bool true) {s with heap:=h',toks:=tk}):
  wpAny (model aw w) callerA (call (.ref 612) [.ref l]) Q E s:=by
 obtain⟨per,aA⟩:=an ns aE
 refine bS (Pg (w:=w) (VD w.params) 20 _ _ _ _ _ aA (yw w.params) callerA rfl (SC _)) ?_;intro a c4
 have e:a=612:=Option.some.inj (c4.w9.symm.trans (J7 w.params))
 subst e
 refine wpAny_mono (c4.wp (lV s.heap) s [.ref l] (Wo av) (Ip _) (a8.cons ⟨l,vs,0,rfl,tm.mpr aq,VC _ ay⟩ a8.nil)) (fun v az P=> ?_) fun e az P=>nomatch P.1
 obtain⟨ρ',lv,e5,_,aP⟩:=P
 refine B (show v=.bool true from aP) ?_
 obtain⟨h',tk,e⟩:=e5.ao
 subst e
 exact h h' tk fun b o e=>lv.bK _ _ (e5.bK _ _ (tm.mpr e))
end
end Mine
end
section
open PySem PySem.W PySem.Calls PyProof.Rows
namespace Mine
noncomputable abbrev jJ:OpenRow:=PySem.Challenge.rw_og0185_01.row
noncomputable def iU:DefRec×List (Str×Expr):=match defOf Hd.q (o "law") with
 |some p=>p
 |none=>(⟨o "",default,[],default,default⟩,[])
theorem Lq:defOf Hd.q jJ.name=some (iU.1,iU.2):=by kernel_rfl
theorem Kp:jJ.prog.theDef jJ.name=some (iU.1.params,iU.1.body,iU.1.scope):=by kernel_rfl
theorem ki:kwWritten? iU.1.params.kwonlyargs iU.1.params.kw_defaults=some iU.2:=by kernel_rfl
theorem NY:(chainsOk Hd.q&&opensWell jJ.prog&&(frees jJ.toRowW&&jJ.within.isEmpty))=true:=by decide+kernel
theorem TE:jJ.prog.bare:=⟨rfl,rfl,rfl,rfl,rfl,by decide+kernel⟩
theorem W8:jJ.toRowW.promised:=⟨[.list []],by decide+kernel,by decide+kernel⟩
theorem RX:iU.1.name=o "law":=by kernel_rfl
theorem d4 {a b:Bool} (x:a=true) (y:b=true):(a&&b)=true:=by rw [x,y];rfl
noncomputable abbrev pl:OpenLaw:=PySem.Challenge.rw_og0185_01
noncomputable abbrev gL:Program:=pl.row.prog
theorem Sq:readsOut gL gL.main.body "vars"=false:=by decide+kernel
theorem Nr:readsOut gL gL.main.body "dir"=false:=by decide+kernel
theorem Py:readsOut gL gL.main.body "locals"=false:=by decide+kernel
theorem OG:(["vars","dir","locals"]:List Str).filter (readsOut gL gL.main.body)=[]:=by rw [List.filter_cons_of_neg (ne_true_of_eq_false Sq),List.filter_cons_of_neg (ne_true_of_eq_false Nr),List.filter_cons_of_neg (ne_true_of_eq_false Py)];rfl
noncomputable abbrev lk (b:List Str):Look:={strict:= !(importedModules gL.main.body).all cThrough.contains,foot:=none,bare:=b}
theorem HE:noRoadLSs (lk []) gL.main.body=true:=by decide+kernel
theorem MF:noRoadLSs (lk ((["vars","dir","locals"]:List Str).filter (readsOut gL gL.main.body))) gL.main.body=true:=(congrArg (fun b=>noRoadLSs (lk b) gL.main.body) OG).trans HE
theorem Xs:namesResolve gL=true:=by decide+kernel
theorem NE:(namesMeet gL gL.main.body fun _ n=>attrL n)=true:=by decide+kernel
theorem X5:looksOpen gL=true:=d4 (d4 (d4 (d4 (by decide+kernel) Xs) (by decide+kernel)) MF) NE
theorem OZ:pl.row.partSaid=true:=d4 (d4 (d4 (d4 (d4 (d4 (d4 (d4 (d4 (d4 (d4 (d4 (d4 X5 (by decide+kernel)) (by decide+kernel)) (by decide+kernel)) (by decide+kernel)) (by decide+kernel)) (by decide+kernel)) (by decide+kernel)) (by decide+kernel)) (by decide+kernel)) (by decide+kernel)) (by decide+kernel)) (by decide+kernel)) (by decide+kernel)
theorem I1:(pl.bound'.all fun n=> !builtinNamed n||pl.about==[n]|| !pl.reads n)=true:=by decide+kernel
theorem TS:pl.wellSaid=true:=by
 refine d4 (d4 (d4 (d4 (d4 (d4 (d4 (d4 (d4 (d4 (d4 (d4 (d4 (d4 (d4 (d4 (d4 (d4 (d4 (d4 OZ ?_) ?_) ?_) ?_) ?_) ?_) ?_) ?_) ?_) ?_) I1) ?_) ?_) ?_) ?_) ?_) ?_) ?_) ?_) ?_<;>decide+kernel
theorem Yo (call:WalkO Hd.q Hd.loose (XL Hd.q []) (Hook.says Hd.mm) jJ.toRowW iU.1 iU.2 fun f vs=>PySem.call f vs):PySem.Challenge.rw_og0185_01.Holds:=by
 refine holds_law TS fun Y4=> ?_
 exact PySem.W.holds_open (q:=Hd.q) (loose:=Hd.loose) (Xt:=fun s=>xlAt Hd.q [] s&&recOk [] s) (XP:=XL Hd.q []) (Yf:=Hook.obs Hd.mm) (Ya:=Hook.val Hd.mm) (YP:=Hook.says Hd.mm) (N:=8766) Hd.left (Hook.of Hd.mm) (Hook.keeps Hd.mm)
  (fun s e=>xl_of s (Bool.and_eq_true_iff.mp e).1) XL.keeps Lq Kp ki (fun s e=>recFacts_of (Bool.and_eq_true_iff.mp e).2) (by rfl) (by assumption) NY TE W8 call
end Mine
end
section
open PySem PySem.W PySem.Calls PyProof.Rows
namespace Mine
theorem ints_of:∀{xs:List WData},WShape.hasItems [] xs .int=true->∃ns:List Int,xs=ns.map WData.int
 |[],_=>⟨[],rfl⟩
 |x::r,h=>by
  simp only [WShape.hasItems,Bool.and_eq_true] at h
  obtain⟨ns,e⟩:=ints_of h.2
  cases x with
  |int i=>exact⟨i::ns,by refine B e ?_;rfl⟩
  |_=>exact lD h.1
theorem U6 {args:List WData} (h:WShape.hasAll [] args [.list .int]=true):∃ns:List Int,args=[.list (ns.map .int)]:=by
 match args,h with
 |[],h=>simp [WShape.hasAll] at h
 |_::_::_,h=>simp [WShape.hasAll] at h
 |[a],h=>
  simp only [WShape.hasAll,Bool.and_eq_true] at h
  cases a with
  |list xs=>
   have M:=h.1
   have M:(WShape.hasItems [] xs .int||false)=true:=M
   obtain⟨ns,e⟩:=ints_of ((Bool.or_false _).symm.trans M)
   exact⟨ns,by(refine B e ?_;rfl)⟩
  |_=>exact lD h.1
noncomputable def uZ:WTm:=.and (.not (.lt (.lit (.int 63)) (.len (.arg 0)))) (.lit (.bool true))
theorem Il {ns:List Int} (h:uZ.holds [] {args:=[.list (ns.map .int)]}=true):ns.length<=63:=by
 have e:WTm.value [] uZ {args:=[.list (ns.map .int)]}=some (.bool (!decide ((63:Int)<((ns.map WData.int).length:Int)))):=by
  have ak:less? (.int 63) (.int (ns.length:Int))=some (decide ((63:Int)<(ns.length:Int))):=by first|rfl|(unfold less?;rfl)|simp [less?]
  simp only [uZ,WTm.value,List.getElem?_cons_zero,List.length_map,ak,Option.map_some]
  cases decide ((63:Int)<(ns.length:Int))<;>rfl
 unfold WTm.holds at h
 replace h:=e▸h
 by_cases q:(63:Int)<((ns.map WData.int).length:Int)
 ·replace h:=(decide_eq_true q)▸h;cases h
 ·replace q:=(List.length_map _)▸q;exact gE q
theorem Sc {args after:List WData}:jJ.toRowW.claim.post args (.bool true) after=true:=by
 show(WShape.has [] (.bool true) .bool&&(WTm.eq .res (.lit (.bool true))).holds [] {args:=args,res:=some (.bool true),after:=after})=true
 have e:WTm.value [] (WTm.eq .res (.lit (.bool true))) {args:=args,res:=some (.bool true),after:=after}=some (.bool true):=by
  have ak:same (.bool true) (.bool true)=true:=by first|rfl|(unfold same;rfl)|simp [same]
  simp [WTm.value,ak]
 unfold WTm.holds
 refine B e ?_
 rfl
theorem Ve (an:∀ns:List Int,ns.length<=63->∃per,aH true 20 "law" [.am (ns.map .int)] []=some (.ret (.U (.bool true)),per)):
  WalkO Hd.q Hd.loose (XL Hd.q []) (Hook.says Hd.mm) jJ.toRowW iU.1 iU.2 fun f vs=>PySem.call f vs:=by
 intro w c9 aj YZ YW G dw QJ ob Ys cd doc Zm Zf cq hd sN dQ r4 bi args bf as PT Zs Y5 HF Zr
 have av:(dj w.params).In aj.heap:=U2 dw
 have Rc:QJ=612:=by
  have M:=mg_of av G.T.g (n:=o "law") (v:=.ref 612) (by kernel_rfl)
  replace r4:=RX▸r4
  replace r4:=M▸r4
  injection r4 with e
  injection e with e
  exact e.symm
 subst Rc
 have Kv:(WShape.hasAll [] args [.list .int]&&uZ.holds [] {args:=args})=true:=PT
 obtain⟨M,O⟩:=Bool.and_eq_true_iff.mp Kv
 obtain⟨ns,rfl⟩:=U6 M
 have aE:=Il O
 obtain⟨v,K7,rfl,ay,ww⟩:=wellAll_cons_inv HF
 cases ww with
 |nil=>
 cases ay with
 |list aq iT=>
 refine W7 an av aE aq iT fun h' tk ag=> ?_
 exact⟨.inl ⟨_,.bool true,[],rfl,fun cls=>rfl,.bool true,Sc,fun _=>⟨.nil,fun a bA=>by cases bA⟩⟩,.of_keep ag,rfl,.of_eq bi⟩
end Mine
end
section
open PySem
namespace Mine
theorem vA {a b:String}:(Str.ofString a=Str.ofString b)=(a=b):=by
 apply propext
 constructor
 ·intro h
  (replace h:=(Str.ofString_eq_toList _)▸h;replace h:=(Str.ofString_eq_toList _)▸h)
  simp only [Str.mk.injEq] at h
  have M:a.toList.map Char.toNat=b.toList.map Char.toNat:=by simpa using h
  have O:a.toList=b.toList:=by
   have inj:∀{l m:List Char},l.map Char.toNat=m.map Char.toNat->l=m:=by
    intro l
    induction l with
    |nil=>intro m h;cases m with
     |nil=>rfl
     |cons _ _=>cases h
    |cons c r ih=>
     intro m h
     cases m with
     |nil=>cases h
     |cons d s=>
      simp only [List.map_cons,List.cons.injEq] at h
      (refine B (ih h.2) ?_;refine B (Char.toNat_inj.mp h.1) ?_;rfl)
   exact inj M
  exact String.ext O
 ·intro h;(refine B h ?_;rfl)
section
variable{b:Bool} {C CQ:cs} {n:Nat} {J aW:Scope} {fs fs':X} {ca:Scope->bk} {R:bk} {Rh:Option (Scope->bk)}
theorem YT:(aJ b C CQ (n+1) J).ba=iY C (aJ b C CQ n) J:=rfl
theorem Y9:(aJ b C CQ (n+1) J).dF=rs (aJ b C CQ n) J:=rfl
theorem Zz:(aJ b C CQ (n+1) J).de=qt C (aJ b C CQ n) (if b then some (aJ false CQ CQ n) else none) J:=rfl
theorem bd {α:Type u} {d7:Type v} {b4:Type w} {x:Option (α×d7)} {f:α->d7->Option b4} {a:α} {b:d7} {o:Option b4} (h:x=some (a,b)) (k:f a b=o):ob x f=o:=by refine B h ?_;exact k
theorem i4 {α:Type u} {d7:Type v} {b4:Type w} {x:Option α} {y:Option d7} {f:α->d7->Option b4} {a:α} {b:d7} {o:Option b4} (h:x=some a) (O:y=some b) (k:f a b=o):fn x y f=o:=bq h (bq O k)
theorem cQ {b4:Type w} {c:Prop} [Decidable c] {a b o:Option b4} (h:c) (k:a=o):(if c then a else b)=o:=(if_pos h).trans k
theorem ej {b4:Type w} {c:Prop} [Decidable c] {a b o:Option b4} (h:¬c) (k:b=o):(if c then a else b)=o:=(if_neg h).trans k
end
end Mine
end
section
open PySem
namespace Mine
section
variable{b:Bool} {C CQ:cs} {n:Nat} {J aW:Scope} {fs fs':X} {ca:Scope->bk} {R:bk} {Rh:Option (Scope->bk)}
noncomputable def iI:H->Bool
 |.per _=>false
 |_=>true
theorem uA {v} (h:iI v=true):fs.cE (.U v)=some v:=by cases v<;>first|rfl|cases h
theorem Zn {k}:fs.cE (.U (.per k))=fs.per[k]? :=rfl
theorem YO {x v} (h:getL x fs.loc=some (.aD v)) (ay:iI v=true):fs.cE (.var x)=some v:=bq (bq h rfl) (by cases v<;>first|rfl|cases ay)
noncomputable def lp:Option H->Bool
 |some (.V _)=>true
 |_=>false
noncomputable def pc:Option H->Bool
 |some (.am _)=>true
 |_=>false
theorem FU {d:Option H} (h:lp d=true):∃l,d=some (.V l):=by
 cases d with
 |none=>cases h
 |some d=>cases d<;>first|exact⟨_,rfl⟩|cases h
theorem xn {d:Option H} (h:pc d=true):∃l,d=some (.am l):=by
 cases d with
 |none=>cases h
 |some d=>cases d<;>first|exact⟨_,rfl⟩|cases h
theorem DU {r args} (h:lp (fs.cE r)=true):iD C R "get" r args fs=Ag R r args fs:=(FU h).elim fun l e=>bq e (cQ rfl rfl)
theorem IC {r args} (h:lp (fs.cE r)=true):iD C R "pop" r args fs=Cx R r args fs:=(FU h).elim fun l e=>bq e (ej (by decide+kernel) (cQ rfl rfl))
theorem I6 {r args} (h:pc (fs.cE r)=true):iD C R "append" r args fs=G4 R r args fs:=(xn h).elim fun l e=>bq e (cQ rfl rfl)
theorem J9 {r args} (h:pc (fs.cE r)=true):iD C R "pop" r args fs=DN r args fs:=(xn h).elim fun l e=>bq e (ej (by decide+kernel) (cQ rfl rfl))
theorem HX {r args} (h:pc (fs.cE r)=true):iD C R "index" r args fs=Bb R r args fs:=(xn h).elim fun l e=>bq e (ej (by decide+kernel) (ej (by decide+kernel) (cQ rfl rfl)))
end
end Mine
end
section
open PySem
namespace Mine
section
variable{b:Bool} {C CQ:cs} {n:Nat} {J aW:Scope} {fs fs':X} {ca:Scope->bk} {R:bk} {Rh:Option (Scope->bk)} {args:List Expr}
theorem EN {f} (h:J.names.lookup f=some .globalImplicit) (M:f≠"isinstance") (O:f≠"min"):qa C R J f args fs=Fl C R f args fs:=cQ h (ej M (ej O rfl))
theorem B6 {f} (h:J.names.lookup f=some .globalImplicit) (M:f≠"isinstance") (O:f≠"min") (Y:mn.contains f≠true) (aC:f≠"Shelf"):qa C R J f args fs=sM C R f args fs:=(EN h M O).trans (ej Y (ej aC rfl))
theorem Qj {f names} (h:J.names.lookup f=some .globalImplicit) (M:f≠"isinstance") (O:f≠"min") (Y:mn.contains f≠true) (aC:f≠"Shelf") (bR:jl f=some names):qa C R J f args fs=AP R f names args fs:=(B6 h M O Y aC).trans (by unfold sM;(refine B bR ?_;rfl))
theorem HG {f} (h:J.names.lookup f=some .globalImplicit) (M:f≠"isinstance") (O:f≠"min") (Y:mn.contains f≠true) (aC:f≠"Shelf") (bR:jl f=none):qa C R J f args fs=ES C R f args fs:=(B6 h M O Y aC).trans (by unfold sM;(refine B bR ?_;rfl))
end
end Mine
end
section
open PySem
namespace Mine
section
variable{b:Bool} {C CQ:cs} {n:Nat} {J aW:Scope} {fs fs₁ fs₂ fs':X} {R:bk} {o:Option (bE×X)} {p:Pos}
theorem YV {ao args per loc r} (M:jq (params ao) args=some loc) (O:cO (aJ b C CQ li (bN ao)) (g0 ao) ⟨loc,per⟩=some (.ret r,fs)):jR b C CQ ao args per=some (.ret r,fs.per):=bq M (bd O rfl)
theorem dp {ao args per loc r dg} (M:jq (params ao) args=some loc) (O:cO (aJ b C CQ li (bN ao)) (g0 ao) ⟨loc,per⟩=some (.ret r,fs)) (Y:fs.per=dg):jR b C CQ ao args per=some (.ret r,dg):=Y▸bq M (bd O rfl)
theorem Zg {ao args per loc} (M:jq (params ao) args=some loc) (O:cO (aJ b C CQ li (bN ao)) (g0 ao) ⟨loc,per⟩=some (.next,fs)):jR b C CQ ao args per=some (.ret (.U .none),fs.per):=bq M (bd O rfl)
theorem Y3 {ao args per loc} (M:jq (params ao) args=some loc) (O:cO (aJ b C CQ li (bN ao)) (g0 ao) ⟨loc,per⟩=some (.dC,fs)):jR b C CQ ao args per=some (.dC,fs.per):=bq M (bd O rfl)
theorem aO {s r} (h:R.de s fs=some (.next,fs₁)) (O:cO R r fs₁=o):cO R (s::r) fs=o:=bd h O
theorem cu {s r v} (h:R.de s fs=some (.ret v,fs₁)):cO R (s::r) fs=some (.ret v,fs₁):=bd h rfl
theorem pX {s r} (h:R.de s fs=some (.dC,fs₁)):cO R (s::r) fs=some (.dC,fs₁):=bd h rfl
theorem co {c x y} (t:Bool) (h:(aJ b C CQ n J).dF c fs=some (t,fs₁)) (O:cO (aJ b C CQ n J) (if t then x else y) fs₁=o):(aJ b C CQ (n+1) J).de (.If c x y p) fs=o:=by
 exact bd h (by cases t<;>exact O)
theorem dc {x px e v} (h:(aJ b C CQ n J).ba e fs=some (.U v,fs₁)) (O:eQ J x (.U v) fs₁=some fs₂):(aJ b C CQ (n+1) J).de (.Assign [.Name x px] e p) fs=some (.next,fs₂):=bq rfl (bd h (bq O rfl))
theorem fB {x px e v} (h:(aJ b C CQ n J).ba e fs=some (.own v,fs₁)) (O:eQ J x (.own v) fs₁=some fs₂):(aJ b C CQ (n+1) J).de (.Assign [.Name x px] e p) fs=some (.next,fs₂):=bq rfl (bd h (bq O rfl))
theorem dD {e r r'} (h:(aJ b C CQ n J).ba e fs=some (r,fs₁)) (O:fs₁.take r=some (r',fs₂)):(aJ b C CQ (n+1) J).de (.Return (some e) p) fs=some (.ret r',fs₂):=bq rfl (bd h (bd O rfl))
theorem dZ {e m g3 args pos c l f vs r per} (aL:(kx e&&g3.endLine==pos.line&&args.length<30)=true) (aX:(aJ b C CQ n J).ba e fs=some (.U (.dS c l),fs₁)) (ag:qK c m=some f) (bi:iO m l=none)
  (bA:dk (aJ b C CQ n J) args fs₁=some (vs,fs₂)) (hc:C f (.dS c l::vs) fs₂.per=some (.ret r,per)):(aJ b C CQ (n+1) J).ba (.Call (.Attribute e m g3) args [] pos) fs=some (r,{fs₂ with per:=per}):=cQ aL (bd aX (bq rfl (cQ (by refine B bi ?_;rfl) (bq ag (bd rfl (bd bA (bd hc (bq rfl rfl))))))))
theorem je {x t} (h:(aJ b C CQ n J).dF x fs=some (t,fs₁)):(aJ b C CQ (n+1) J).dF (.UnaryOp .Not x p) fs=some (!t,fs₁):=by
 exact bd h rfl
theorem u3 {ao args per loc dg} (M:jq (params ao) args=some loc) (O:cO (aJ b C CQ li (bN ao)) (g0 ao) ⟨loc,per⟩=some (.next,fs)) (Y:fs.per=dg):jR b C CQ ao args per=some (.ret (.U .none),dg):=Y▸bq M (bd O rfl)
theorem Es {ao args per loc dg} (M:jq (params ao) args=some loc) (O:cO (aJ b C CQ li (bN ao)) (g0 ao) ⟨loc,per⟩=some (.dC,fs)) (Y:fs.per=dg):jR b C CQ ao args per=some (.dC,dg):=Y▸bq M (bd O rfl)
theorem c6 {m f ao args per o} (h:ds f=some ao) (O:jR b (aH b m) (aH false m) ao args per=o):aH b (m+1) f args per=o:=bq h O
theorem g6 {x px iter body items} (h:hv (aJ b C CQ n J) J iter fs=some (items,fs₁)) (O:f5 (aJ b C CQ n J) J x body items fs₁=o):(aJ b C CQ (n+1) J).de (.For (.Name x px) iter body [] p) fs=o:=bq rfl (bd h O)
theorem Kk {ca:Scope->bk} {Rh c body}:qt C ca Rh J (.While c body [] p) fs=gz (ca J) c body mc fs:=rfl
theorem rB {c body} (h:gz (aJ b C CQ n J) c body mc fs=o):(aJ b C CQ (n+1) J).de (.While c body [] p) fs=o:=(Kk (C:=C) (p:=p) (Rh:=if b then some (aJ false CQ CQ n) else none)).trans h
theorem lq {ts k tp e vs} (aL:(tz e&&vy ts)=true) (h:(aJ b C CQ n J).ba e fs=some (.U (.aF vs),fs₁)) (M:vs.length<=a4) (O:hJ J ts vs fs₁=some fs₂):(aJ b C CQ (n+1) J).de (.Assign [.Tuple ts k tp] e p) fs=some (.next,fs₂):=bq rfl (cQ aL (bd h (bq rfl (bq rfl (cQ M (bq O rfl))))))
theorem gP {x i q e v r k fs₃} (h:dY (aJ b C CQ n J) e fs=some (v,fs₁)) (M:(aJ b C CQ n J).ba x fs₁=some (r,fs₂)) (O:(aJ b C CQ n J).ba i fs₂=some (.U k,fs₃)) (Y:qs r k v fs₃=some fs'):(aJ b C CQ (n+1) J).de (.Assign [.Subscript x i q] e p) fs=some (.next,fs'):=bq rfl (bd h (bd M (bd O (bq rfl (bq Y rfl)))))
theorem mF {f args q rt vs r per} (aL:(decide (J.names.lookup f=some .globalImplicit)&&kl f)=true) (h:dk (aJ b C CQ n J) args fs=some (vs,fs₁)) (hc:C f vs fs₁.per=some (.ret r,per)):(aJ b C CQ (n+1) J).de (.Expr (.Call (.Name f p) args [] q) rt) fs=some (.next,{fs₁ with per:=per}):=cQ aL (bd h (bd hc rfl))
theorem F5 {f args q rt vs per} (aL:(decide (J.names.lookup f=some .globalImplicit)&&kl f)=true) (h:dk (aJ b C CQ n J) args fs=some (vs,fs₁)) (hc:C f vs fs₁.per=some (.dC,per)):(aJ b C CQ (n+1) J).de (.Expr (.Call (.Name f p) args [] q) rt) fs=some (.dC,{fs₁ with per:=per}):=cQ aL (bd h (bd hc rfl))
theorem nG {e m g3 args pos r rt} (h:(aJ b C CQ n J).ba (.Call (.Attribute e m g3) args [] pos) fs=some (r,fs₁)):(aJ b C CQ (n+1) J).de (.Expr (.Call (.Attribute e m g3) args [] pos) rt) fs=some (.next,fs₁):=bd h rfl
theorem eR {f args q vs r per} (aL:J.names.lookup f=some .globalImplicit) (M:f≠"isinstance") (O:f≠"min") (Y:mn.contains f≠true) (aC:f≠"Shelf") (bR:jl f=none) (dK:kl f=true) (bA:dk (aJ b C CQ n J) args fs=some (vs,fs₁)) (hc:C f vs fs₁.per=some (.ret r,per)):
  (aJ b C CQ (n+1) J).ba (.Call (.Name f p) args [] q) fs=some (r,{fs₁ with per:=per}):=(HG aL M O Y aC bR).trans (cQ dK (bd bA (bd hc (bq rfl rfl))))
theorem bM {e t r v vs fs₃} (h:R.ba e fs=some (r,fs₁)) (O:fs₁.oB r=some (v,fs₂)) (Y:dk R t fs₂=some (vs,fs₃)):dk R (e::t) fs=some (v::vs,fs₃):=by
 exact bd (bd h O) (bd Y rfl)
theorem du {e r v} (h:R.ba e fs=some (r,fs₁)) (O:fs₁.oB r=some (v,fs₂)):dY R e fs=some (v,fs₂):=bd h O
theorem fM {x body v t} (M:eQ J x (.U v) fs=some fs₁) (O:cO R body fs₁=some (.next,fs₂)) (Y:f5 R J x body t fs₂=o):f5 R J x body (v::t) fs=o:=bq M (bd O Y)
theorem zF {x body v t r} (M:eQ J x (.U v) fs=some fs₁) (O:cO R body fs₁=some (.ret r,fs₂)):f5 R J x body (v::t) fs=some (.ret r,fs₂):=bq M (bd O rfl)
theorem oI {c body m} (M:R.dF c fs=some (true,fs₁)) (O:cO R body fs₁=some (.next,fs₂)) (Y:gz R c body m fs₂=o):gz R c body (m+1) fs=o:=bd M (bd O Y)
theorem O1 {c body m r} (M:R.dF c fs=some (true,fs₁)) (O:cO R body fs₁=some (.ret r,fs₂)):gz R c body (m+1) fs=some (.ret r,fs₂):=bd M (bd O rfl)
theorem w_end {c body m} (M:R.dF c fs=some (false,fs₁)):gz R c body (m+1) fs=some (.next,fs₁):=bd M rfl
theorem cR {l bU e a c x y v w} (M:(aJ b C CQ n J).ba l fs=some (a,fs₁)) (O:(aJ b C CQ n J).ba e fs₁=some (c,fs₂)) (Y:fs₂.cE a=some v) (aC:fs₂.cE c=some w) (bR:eF bU v w=some x) (aQ:x=y):(aJ b C CQ (n+1) J).dF (.Compare l [bU] [e] p) fs=some (y,fs₂):=by
 exact bd M (bd O (i4 Y aC (bq bR (aQ▸rfl))))
theorem xw {l bU e a c x v w} (M:(aJ b C CQ n J).ba l fs=some (a,fs₁)) (O:(aJ b C CQ n J).ba e fs₁=some (c,fs₂)) (Y:fs₂.cE a=some v) (aC:fs₂.cE c=some w) (bR:eF bU v w=some x):(aJ b C CQ (n+1) J).ba (.Compare l [bU] [e] p) fs=some (.U (.bool x),fs₂):=by
 exact bd M (bd (bd O (i4 Y aC (bq bR rfl))) rfl)
theorem mO {c x y r} (t:Bool) (h:(aJ b C CQ n J).dF c fs=some (t,fs₁)) (O:(aJ b C CQ n J).ba (if t then x else y) fs₁=some (r,fs₂)):(aJ b C CQ (n+1) J).ba (.IfExp c x y p) fs=some (r,fs₂):=by
 exact bd h (by cases t<;>exact O)
theorem o4 {e c q cI r v t} (aL:J.names.lookup ("isinstance":Str)=some .globalImplicit) (M:(aJ b C CQ n J).ba e fs=some (r,fs₁)) (O:fs₁.cE r=some v) (Y:gB v c=some t) (aC:J.names.lookup c=some .globalImplicit):
  (aJ b C CQ (n+1) J).ba (.Call (.Name ("isinstance":Str) p) [e,.Name c q] [] cI) fs=some (.U (.bool t),fs₁):=cQ aL (cQ rfl (bd rfl (bd M (bq O (bq Y (cQ aC rfl))))))
theorem jZ {f a k t} (h:(aJ b C CQ n J).ba (.Call f a k p) fs=some (.U (.bool t),fs₁)):(aJ b C CQ (n+1) J).dF (.Call f a k p) fs=some (t,fs₁):=bd h (bq rfl (bq rfl rfl))
theorem BD {r:aU} {args k kk l d x} (aL:lp (fs.cE r)=true) (bA:dk R args fs=some ([k,d],fs₁)) (M:fs₁.cE r=some (.V l)) (O:gf k=some kk) (Y:(a9 kk l).getD d=x):iD C R "get" r args fs=some (.U x,fs₁):=(DU aL).trans (bd bA (bd rfl (i4 (congrArg qd M) O (Y▸rfl))))
theorem nw {r:aU} {args k kk l x} (aL:lp (fs.cE r)=true) (bA:dk R args fs=some ([k],fs₁)) (M:fs₁.cE r=some (.V l)) (O:gf k=some kk) (Y:(a9 kk l).getD .none=x):iD C R "get" r args fs=some (.U x,fs₁):=(DU aL).trans (bd bA (bd rfl (i4 (congrArg qd M) O (Y▸rfl))))
theorem f8 {e m g3 args pos r oF} (aL:(kx e&&g3.endLine==pos.line&&args.length<30)=true) (aX:(aJ b C CQ n J).ba e fs=some (r,fs₁)) (hd:iD C (aJ b C CQ n J) m r args fs₁=oF):(aJ b C CQ (n+1) J).ba (.Call (.Attribute e m g3) args [] pos) fs=oF:=cQ aL (bd aX hd)
theorem zi {k:Nat} {l:List (al×H)} {eI v:H} {kk:al} (h:fs.per[k]? =some (.V l)) (ag:gf eI=some kk) (aq:l.length<=a4):qs (.U (.per k)) eI v fs=some {fs with per:=fs.per.set k (.V (cU kk v l))}:=bd (bq h rfl) (bq ag (cQ aq rfl))
theorem jh {x:Str} {l:List (al×H)} {eI v:H} {kk:al} (h:getL x fs.loc=some (.aD (.V l))) (ag:gf eI=some kk) (aq:l.length<=a4):qs (.var x) eI v fs=some {fs with loc:=bY x (.aD (.V (cU kk v l))) fs.loc}:=bd (bq (bq h rfl) rfl) (bq ag (cQ aq rfl))
theorem kB {x y:Expr} {z:Bool} (M:(aJ b C CQ n J).dF x fs=some (true,fs₁)) (O:(aJ b C CQ n J).dF y fs₁=some (z,fs₂)):(aJ b C CQ (n+1) J).dF (.BoolOp .And [x,y] p) fs=some (z,fs₂):=bd M (bd O (by cases z<;>rfl))
theorem oK {x:Expr} {l:List Expr} (M:(aJ b C CQ n J).dF x fs=some (false,fs₁)):(aJ b C CQ (n+1) J).dF (.BoolOp .And (x::l) p) fs=some (false,fs₁):=bd M rfl
theorem rQ {x y:Expr} {z:Bool} (M:(aJ b C CQ n J).dF x fs=some (false,fs₁)) (O:(aJ b C CQ n J).dF y fs₁=some (z,fs₂)):(aJ b C CQ (n+1) J).dF (.BoolOp .Or [x,y] p) fs=some (z,fs₂):=bd M (bd O (by cases z<;>rfl))
theorem JG {x:Expr} {z:Bool} (M:(aJ b C CQ n J).ba x fs=some (.U (.bool z),fs₁)):(aJ b C CQ (n+1) J).ba (.UnaryOp .Not x p) fs=some (.U (.bool (!z)),fs₁):=by
 exact bd M (bq rfl (bq rfl rfl))
theorem zW {f:Str} {args:List Expr} {q:Pos} {names:List Str} {vs:List H} {l:List (Str×H)} (aL:J.names.lookup f=some .globalImplicit) (M:f≠"isinstance") (O:f≠"min") (Y:mn.contains f≠true) (aC:f≠"Shelf") (bR:jl f=some names) (bA:dk (aJ b C CQ n J) args fs=some (vs,fs₁)) (dK:pH names vs=some l):
  (aJ b C CQ (n+1) J).ba (.Call (.Name f p) args [] q) fs=some (.U (.dS f l),fs₁):=(Qj aL M O Y aC bR).trans (bd bA (bq dK rfl))
theorem kA {f:Str} {e:Expr} {q:Pos} {r r':aU} {v:H} (aL:J.names.lookup f=some .globalImplicit) (M:f≠"isinstance") (O:f≠"min") (Y:mn.contains f=true) (aX:(aJ b C CQ n J).ba e fs=some (r,fs₁)) (hd:fs₁.cE r=some v) (aC:gC f v=some r'):
  (aJ b C CQ (n+1) J).ba (.Call (.Name f p) [e] [] q) fs=some (r',fs₁):=(EN aL M O).trans (cQ Y (bq rfl (bd aX (bq hd (bq aC rfl)))))
theorem Cq {q xP:Pos} {a:Expr} {l:List H} (aL:J.names.lookup ("reversed":Str)=some .globalImplicit) (h:dY R a fs=some (.am l,fs₁)):hv R J (.Call (.Name ("reversed":Str) q) [a] [] xP) fs=some (l.reverse,fs₁):=cQ aL (ej (show("reversed":Str)≠"range" by decide+kernel) (cQ rfl (bd h (bq rfl rfl))))
theorem gY {e:Expr} {l:List H} (aL:hv R J e fs=oZ R pj e fs) (h:dY R e fs=some (.am l,fs₁)):hv R J e fs=some (l,fs₁):=aL.trans (bd h (bq rfl rfl))
theorem NI {e:Expr} {l:List (al×H)} (aL:hv R J e fs=oZ R pj e fs) (h:dY R e fs=some (.V l,fs₁)):hv R J e fs=some (l.map (fun p=>p4 p.1),fs₁):=aL.trans (bd h (bq rfl rfl))
theorem dB {l r:Expr} {bU:Operator} {a c:aU} {v w:H} {z:aU} (M:(aJ b C CQ n J).ba l fs=some (a,fs₁)) (O:(aJ b C CQ n J).ba r fs₁=some (c,fs₂)) (Y:fs₂.cE a=some v) (aC:fs₂.cE c=some w) (bR:ke bU v w=some z):(aJ b C CQ (n+1) J).ba (.BinOp l bU r p) fs=some (z,fs₂):=by
 exact bd M (bd O (i4 Y aC (bq bR rfl)))
theorem ky {es:List Expr} {k:Nat} {vs:List H} (h:dk (aJ b C CQ n J) es fs=some (vs,fs₁)) (M:vs.length<=a4):(aJ b C CQ (n+1) J).ba (.Tuple es k p) fs=some (.U (.aF vs),fs₁):=by
 exact bd h (cQ M rfl)
theorem wl {es:List Expr} {vs:List H} (h:dk (aJ b C CQ n J) es fs=some (vs,fs₁)) (M:vs.length<=a4):(aJ b C CQ (n+1) J).ba (.List es p) fs=some (.own (.am vs),fs₁):=by
 exact bd h (cQ M rfl)
theorem rF {x:Str} {args:List Expr} {v:H} {l:List H} (aL:pc (fs.cE (.var x))=true) (bA:dk R args fs=some ([v],fs₁)) (bi:getL x fs₁.loc=some (.aD (.am l))) (aq:l.length<=a4):iD C R "append" (.var x) args fs=some (.U .none,{fs₁ with loc:=bY x (.aD (.am (l++[v]))) fs₁.loc}):=(I6 aL).trans (bq rfl (bd bA (i4 rfl (congrArg mj (bq bi rfl)) (cQ aq rfl))))
theorem wk {x:Str} {v:H} {l:List H} (aL:pc (fs.cE (.var x))=true) (bi:getL x fs.loc=some (.aD (.am (l++[v])))) (aq:(l++[v]).length<=a4):iD C R "pop" (.var x) [] fs=some (.U v,{fs with loc:=bY x (.aD (.am l)) fs.loc}):=(J9 aL).trans (bq rfl (bq (congrArg mj (bq bi rfl)) (bq (List.getLast?_concat ..) (cQ (decide_eq_true aq) (by(refine B List.dropLast_concat ?_;rfl))))))
theorem td {x y:List H} (h:x.length+y.length<=a4):ke .Add (.aF x) (.aF y)=some (.U (.aF (x++y))):=bq rfl (cQ (decide_eq_true h) rfl)
theorem vd {x y:List H} (h:x.length+y.length<=a4):ke .Add (.am x) (.am y)=some (.own (.am (x++y))):=bq rfl (cQ (decide_eq_true h) rfl)
theorem s7 {e:Expr} {r:aU} {l:List H} {z:Bool} (aX:(aJ b C CQ (n+1) J).dF e fs=uC (aJ b C CQ n J) e fs) (h:(aJ b C CQ n J).ba e fs=some (r,fs₁)) (hd:fs₁.cE r=some (.am l)) (aq:l.length<=a4) (hz:(!l.isEmpty)=z):(aJ b C CQ (n+1) J).dF e fs=some (z,fs₁):=aX.trans (bd h (bq hd (bq (cQ aq rfl) (hz▸rfl))))
theorem sT {k:H} {l:List (al×H)} {kk:al} {z:Bool} (h:gf k=some kk) (hz:(a9 kk l).isSome=z):eF .In k (.V l)=some z:=by
 show(gf k).map (fun k=>(a9 k l).isSome)=_
 (refine B h ?_;refine bu hz ?_);rfl
theorem N0 {k:H} {l:List (al×H)} {kk:al} {z:Bool} (h:gf k=some kk) (hz:(!(a9 kk l).isSome)=z):eF .NotIn k (.V l)=some z:=by
 show(gf k).map (fun k=> !(a9 k l).isSome)=_
 (refine B h ?_;refine bu hz ?_);rfl
theorem Ic {x:Str} {args:List Expr} {k:H} {kk:al} {l:List (al×H)} (aL:lp (fs.cE (.var x))=true) (bA:dk R args fs=some ([k,.none],fs₁)) (bi:getL x fs₁.loc=some (.aD (.V l))) (ag:gf k=some kk) (aq:l.length<=a4):
  iD C R "pop" (.var x) args fs=some (.U ((a9 kk l).getD .none),{fs₁ with loc:=bY x (.aD (.V (hZ kk l))) fs₁.loc}):=(IC aL).trans (bq rfl (bd bA (bd rfl (i4 (congrArg qd (bq bi rfl)) ag (cQ (decide_eq_true aq) rfl)))))
theorem f6 {e i:Expr} {q:Pos} {r:aU} {k v w:H} (hs:oY i=none) (M:(aJ b C CQ n J).ba e fs=some (r,fs₁)) (O:(aJ b C CQ n J).ba i fs₁=some (.U k,fs₂)) (Y:fs₂.cE r=some v) (aC:ox v k=some w):(aJ b C CQ (n+1) J).ba (.Subscript e i q) fs=some (.U w,fs₂):=by
 show(match oY i with|some s=>CK (aJ b C CQ n J) e s.1 s.2 fs|none=>EG (aJ b C CQ n J) e i fs)=_
 refine B hs ?_;exact bd M (bd O (bq rfl (bq Y (bq aC rfl))))
theorem sy {x:Str} {v:H} {q:Pos} (hs:J.names.lookup x=some .local) (ae:¬(x==("__debug__":Str))=true) (h:getL x fs.loc=some (.aD v)):(aJ b C CQ (n+2) J).de (.Return (some (.Name x q)) p) fs=some (.ret (.own v),{fs with loc:=jC x fs.loc}):=bq rfl (bd (a:=aU.var x) (b:=fs) (bq hs (ej (by decide) (ej ae (bq h rfl)))) (bd (show fs.take (.var x)=_ from bq (bq h rfl) rfl) rfl))
theorem yK {v:H} {k:Nat} (h:we v=some k) (aE:k<=a4):gC "len" v=some (.U (.int k)):=cQ rfl (bq h (cQ aE rfl))
theorem yU {l:List H} (aq:l.length<=a4):gC "tuple" (.am l)=some (.U (.aF l)):=ej (by decide+kernel) (ej (by decide+kernel) (ej (by decide+kernel) (ej (by decide+kernel) (ej (by decide+kernel) (cQ rfl (cQ aq rfl))))))
theorem T5 {d:List (al×H)} {ns:List Int} (aq:d.length<64) (h:ow d=some ns):gC "sorted" (.V d)=some (.own (.am ((qE ns).map .int))):=ej (by decide+kernel) (ej (by decide+kernel) (ej (by decide+kernel) (ej (by decide+kernel) (cQ rfl (cQ aq (by unfold qQ;(refine B h ?_;rfl)))))))
theorem Cf {hd:List (al×H)} (aq:hd.length<=a4):gC "dict" (.V hd)=some (.own (.V hd)):=ej (by decide+kernel) (ej (by decide+kernel) (ej (by decide+kernel) (ej (by decide+kernel) (ej (by decide+kernel) (ej (by decide+kernel) (cQ rfl (cQ aq rfl)))))))
end
end Mine
end
section
open PySem
namespace Mine
theorem Oz:ds "Reference.pair"=some (cG 12 1):=by kernel_rfl
theorem Cp:ds "Lookup.fetch"=some (cG 18 1):=by kernel_rfl
theorem E5:ds "Lookup.get"=some (cG 18 2):=by kernel_rfl
theorem Nf:ds "Shelf.put"=some (cG 19 0):=by kernel_rfl
theorem NP:ds "Shelf.add"=some (cG 19 1):=by kernel_rfl
theorem Mx:ds "Shelf.numbers"=some (cG 19 3):=by kernel_rfl
theorem BO:ds "Shelf.root"=some (cG 19 4):=by kernel_rfl
noncomputable def bB (t u:Nat):H:=.dS "Shelf" [("table",.per t),("trailer",.per u)]
noncomputable def au (n:Int):H:=.dS "Reference" [("number",.int n),("generation",.int 0)]
noncomputable def gO (s:Str):H:=.dS "Name" [("text",.str s)]
section
variable{b:Bool} {C CQ:cs} {n:Nat} {J aW:Scope} {fs fs₁ fs₂ fs':X} {R:bk} {o:Option (bE×X)} {p:Pos} {m:Nat} {t u:Nat} {per:List H} {tab bL:List (al×H)}
theorem qq {v:H} {c:Str} {x:Bool} (h:gB v c=some x):fs.cE (.U v)=some v:=by
 cases v with
 |per k=>unfold gB at h;split at h<;>cases h
 |_=>rfl
theorem F9 {k:Int}:gB (au k) "Reference"=some true:=by rfl
theorem m8 {k:Int}:aH b (m+1) "Reference.pair" [au k] per=some (.ret (.U (.aF [.int k,.int 0])),per):=by
 refine c6 Oz ?_
 apply dp rfl
 ·exact cu (dD rfl rfl)
 ·rfl
theorem Wc {v:H} (h:gB v "Reference"=some false):aH b (m+1) "Lookup.fetch" [bB t u,v] per=some (.ret (.U v),per):=by
 refine c6 Cp ?_
 apply dp rfl
 ·refine aO (dc rfl rfl) ?_
  apply cu
  apply g6 rfl
  exact zF rfl (cu (co true (je (jZ (o4 rfl rfl (qq h) h rfl))) (cu (dD rfl rfl))))
 ·rfl
theorem UT {k:Int} {v:H} (aG:per[t]? =some (.V tab)) (bi:a9 (.int k) tab=some (.aF [.int 0,v])) (h:gB v "Reference"=some false):aH b (m+1) "Lookup.fetch" [bB t u,au k] per=some (.ret (.U v),per):=by
 refine c6 Cp ?_
 apply dp rfl
 ·refine aO (dc rfl rfl) ?_
  apply cu
  apply g6 rfl
  apply fM rfl
  ·refine aO (co false (je (jZ (o4 rfl rfl rfl F9 rfl))) rfl) ?_
   refine aO (lq (vs:=[.int 0,v]) rfl (f8 rfl rfl (BD (kk:=.int k) (l:=tab) (by show lp per[t]? =true;refine B aG ?_;rfl) rfl aG rfl (by refine B bi ?_;rfl))) (Nat.le_of_ble_eq_true rfl) rfl) ?_
   refine aO (co false (cR rfl rfl rfl rfl rfl rfl) rfl) ?_
   exact aO (dc rfl rfl) rfl
  ·exact zF rfl (cu (co true (je (jZ (o4 rfl rfl (qq h) h rfl))) (cu (dD rfl rfl))))
 ·rfl
noncomputable def ls (tab:List (al×H)) (v x:H):Prop:=(gB v "Reference"=some false/\x=v)\/∃k,v=au k/\a9 (.int k) tab=some (.aF [.int 0,x])/\gB x "Reference"=some false
theorem ls.hM {v:H} (h:gB v "Reference"=some false):ls tab v v:=.inl ⟨h,rfl⟩
theorem ls.r0 {k:Int} {x:H} (h:a9 (.int k) tab=some (.aF [.int 0,x])) (O:gB x "Reference"=some false):ls tab (au k) x:=.inr ⟨k,rfl,h,O⟩
theorem vC {v x:H} (aG:per[t]? =some (.V tab)) (h:ls tab v x):aH b (m+1) "Lookup.fetch" [bB t u,v] per=some (.ret (.U x),per):=by
 rcases h with⟨h,rfl⟩|⟨k,rfl,bi,h⟩
 ·exact Wc h
 ·exact UT aG bi h
theorem kE {hd:List (al×H)} {k:Str} {v x:H} (aG:per[t]? =some (.V tab)) (ag:(a9 (.str k) hd).getD .none=v) (h:ls tab v x):aH b (m+2) "Lookup.get" [bB t u,.V hd,.str k] per=some (.ret (.U x),per):=by
 refine c6 E5 ?_
 apply dp rfl
 ·apply cu
  apply dD
  ·exact dZ rfl rfl rfl rfl (bM (f8 rfl rfl (nw (kk:=.str k) (l:=hd) rfl rfl rfl rfl ag)) rfl rfl) (vC aG h)
  ·rfl
 ·rfl
theorem Db {w:Nat} {hd:List (al×H)} {k:Str} {v x:H} (aG:per[t]? =some (.V tab)) (ec:per[w]? =some (.V hd)) (ag:(a9 (.str k) hd).getD .none=v) (h:ls tab v x):aH b (m+2) "Lookup.get" [bB t u,.per w,.str k] per=some (.ret (.U x),per):=by
 refine c6 E5 ?_
 apply dp rfl
 ·apply cu
  apply dD
  ·exact dZ rfl rfl rfl rfl (bM (f8 rfl rfl (nw (kk:=.str k) (l:=hd) (by show lp per[w]? =true;refine B ec ?_;rfl) rfl ec rfl ag)) rfl rfl) (vC aG h)
  ·rfl
 ·rfl
theorem Jy {k g:Int} {v:H} (aG:per[t]? =some (.V tab)) (aq:tab.length<=a4):aH b (m+1) "Shelf.put" [bB t u,.int k,.int g,v] per=some (.ret (.U .none),per.set t (.V (cU (.int k) (.aF [.int g,v]) tab))):=by
 refine c6 Nf ?_
 apply u3 rfl
 ·exact aO (gP (k:=.int k) (r:=.U (.per t)) rfl rfl rfl (zi aG rfl aq)) rfl
 ·rfl
theorem yP {v:H} {hd:List (al×H)} (aG:per[t]? =some (.V tab)) (b2:per[u]? =some (.V bL)) (ag:(a9 (.str "Root") bL).getD .none=v) (h:ls tab v (.V hd)):aH b (m+3) "Shelf.root" [bB t u] per=some (.ret (.U (.V hd)),per):=by
 refine c6 BO ?_
 apply dp rfl
 ·refine aO (dc (dZ rfl rfl rfl rfl rfl (Db aG b2 ag h)) rfl) ?_
  exact cu (dD (mO true (jZ (o4 rfl rfl rfl rfl rfl)) rfl) rfl)
 ·rfl
theorem AD (aG:per[t]? =some (.V tab)) (b2:per[u]? =some (.V [])):aH b (m+3) "Shelf.root" [bB t u] per=some (.ret (.own (.V [])),per):=by
 refine c6 BO ?_
 apply dp rfl
 ·refine aO (dc (dZ rfl rfl rfl rfl rfl (Db (x:=.none) aG b2 rfl (.hM rfl))) rfl) ?_
  exact cu (dD (mO false (jZ (o4 rfl rfl rfl rfl rfl)) rfl) rfl)
 ·rfl
end
end Mine
end
section
open PySem
namespace Mine
noncomputable def ce (ao:Stmt) (i:Nat):Stmt:=((g0 ao)[i]?).getD default
noncomputable def LZ:Expr->List Expr
 |.BoolOp _ vs _=>vs
 |.BinOp l _ r _=>[l,r]
 |.UnaryOp _ x _=>[x]
 |.Compare l _ lL _=>l::lL
 |.Call f as _ _=>f::as
 |.ListComp e ez _ _=>e::ez.flatMap fun g=>g.iter::g.ifs
 |.Attribute x _ _=>[x]
 |.Subscript x i _=>[x,i]
 |.List es _=>es
 |_=>[]
noncomputable def it:Expr->Scope
 |.ListComp _ _ s _=>s
 |_=>default
noncomputable def Jg:Stmt->List Expr
 |.Return e _=>e.toList
 |.Assign _ e _=>[e]
 |.Expr e _=>[e]
 |.If c _ _ _=>[c]
 |.While c _ _ _=>[c]
 |_=>[]
noncomputable def d5:Stmt->List Stmt
 |.While _ x _ _=>x
 |.For _ _ x _ _=>x
 |.If _ x _ _=>x
 |_=>[]
noncomputable def mi (s:Stmt):Expr:=(Jg s).headD default
noncomputable def iJ (l:List Stmt) (i:Nat):Stmt:=(l[i]?).getD default
noncomputable def eo (s:Stmt) (l:List Nat):Expr:=l.foldl (fun e i=>((LZ e)[i]?).getD default) (mi s)
section
variable{b:Bool} {C CQ:cs} {n:Nat} {J aW:Scope} {fs fs₁ fs₂ fs':X} {R:bk} {o:Option (bE×X)} {p:Pos} {m:Nat} {t u:Nat} {per:List H} {tab bL:List (al×H)}
noncomputable def fX (tab:List (al×H)) (N:Nat):Prop:=tab.map (·.1)=(List.range N).map fun(i:Nat)=>al.int ((i:Int)+1)
theorem zg {k:al}:∀{l:List (al×H)},k∉l.map (·.1)->a9 k l=none
 |[],_=>rfl
 |(y,v)::r,h=>by
  unfold a9
  (refine B (if_neg (fun e=>h (by rw [e];exact List.mem_cons_self))) ?_;refine B (zg fun q=>h (List.mem_cons_of_mem _ q)) ?_;rfl)
theorem GN {k:al}:∀{l:List (al×H)},k∈l.map (·.1)->(a9 k l).isSome=true
 |[],h=>by cases h
 |(y,v)::r,h=>by
  unfold a9
  by_cases e:k=y
  ·refine B (if_pos e) ?_;rfl
  ·refine B (if_neg e) ?_
   exact GN ((List.mem_cons.mp h).resolve_left e)
theorem E2 {k:al} {v:H}:∀{l:List (al×H)},k∉l.map (·.1)->cU k v l=l++[(k,v)]
 |[],_=>rfl
 |(y,w)::r,h=>by
  unfold cU
  (refine B (if_neg (fun e=>h (by rw [e];exact List.mem_cons_self))) ?_;refine B (E2 fun q=>h (List.mem_cons_of_mem _ q)) ?_);rfl
theorem fX.mem {N j:Nat} (h:fX tab N):al.int (j:Int)∈tab.map (·.1)↔1<=j/\j<=N:=by
 (refine B h ?_;rw [List.mem_map])
 constructor
 ·rintro ⟨i,M,O⟩
  have M:=List.mem_range.mp M
  have O:(i:Int)+1=j:=by injection O
  exact V9 M O
 ·rintro ⟨M,O⟩
  exact⟨j-1,List.mem_range.mpr (by exact Yl M O),by congr 1;exact Mv M⟩
theorem fX.len {N:Nat} (h:fX tab N):tab.length=N:=by
 have:=congrArg List.length h
 simpa using this
theorem fX.add {N:Nat} {v:H} (h:fX tab N):cU (.int ((N:Int)+1)) v tab=tab++[(.int ((N:Int)+1),v)]/\fX (tab++[(.int ((N:Int)+1),v)]) (N+1):=by
 have aE:al.int ((N:Int)+1)∉tab.map (·.1):=fun q=>by
  have:=(h.mem (j:=N+1)).mp (by simpa using q)
  exact(CC this).elim
 refine⟨E2 aE,?_⟩
 unfold fX at*
 (refine B List.map_append ?_;refine B h ?_;refine B List.range_succ ?_;refine B List.map_append ?_);rfl
noncomputable def w1 (t u:Nat) (v:H) (j:Nat) (per:List H):X:=⟨[("self",.U (bB t u)),("value",.U v),("number",.U (.int j))],per⟩
theorem C2 {v:H} {N:Nat} (aG:per[t]? =some (.V tab)) (ag:fX tab N):∀(d j fuel:Nat),j+d=N+1->1<=j->d<fuel->
  gz (aJ b C CQ (n+12) (bN (cG 19 1))) (mi (ce (cG 19 1) 1)) (d5 (ce (cG 19 1) 1)) fuel (w1 t u v j per)=some (.next,w1 t u v (N+1) per)
 |0,j,fuel+1,bF,M,aB=>by
  have:j=N+1:=by exact PQ bF
  subst this
  refine w_end (cR rfl rfl rfl aG (x:=false) ?_ rfl)
  show some (a9 (.int ((N+1:Nat):Int)) tab).isSome=_
  refine B (zg (fun q=>by have:=(ag.mem).mp q;exact(CC this).elim)) ?_;rfl
 |d+1,j,fuel+1,bF,M,aB=>by
  refine oI (fs₂:=w1 t u v (j+1) per) (cR rfl rfl rfl aG (x:=true) ?_ rfl) ?_ (C2 aG ag d (j+1) fuel (by exact Mh bF) (by exact X1) (by exact Ra aB))
  ·show some (a9 (.int (j:Int)) tab).isSome=_
   (refine B (GN ((ag.mem).mpr ⟨M,by exact SF bF⟩)) ?_;rfl)
  ·exact aO (dc rfl rfl) rfl
theorem sI {v:H} {N:Nat} (aG:per[t]? =some (.V tab)) (ag:fX tab N) (dm:N<1000):aH b (m+1) "Shelf.add" [bB t u,v] per=some (.ret (.U (au ((N:Int)+1))),per.set t (.V (tab++[(.int ((N:Int)+1),.aF [.int 0,v])]))):=by
 refine c6 NP ?_
 apply dp rfl
 ·refine aO (dc rfl rfl) ?_
  refine aO (rB (C2 (n:=27) aG ag N 1 _ (by exact Rx) (by exact Pp) (by unfold mc;exact DE dm))) ?_
  refine aO (gP (k:=.int ((N+1:Nat):Int)) (r:=.U (.per t)) rfl rfl rfl (zi aG rfl (by refine B ag.len ?_;unfold a4;exact mJ dm))) ?_
  exact cu (dD rfl rfl)
 ·show per.set t (.V (cU (.int ((N:Int)+1)) _ tab))=_
  (refine B ag.add.1 ?_;rfl)
end
end Mine
end
section
open PySem
namespace Mine
theorem T9:ds "home_of"=some (aI 25):=by kernel_rfl
theorem A5:ds "is_node"=some (aI 26):=by kernel_rfl
theorem KN:ds "kids_of"=some (aI 27):=by kernel_rfl
theorem HI:ds "met"=some (aI 28):=by kernel_rfl
section
variable{b:Bool} {C CQ:cs} {n:Nat} {J aW:Scope} {fs fs₁ fs₂ fs':X} {R:bk} {o:Option (bE×X)} {p:Pos} {m:Nat} {t u:Nat} {per:List H} {tab bL:List (al×H)}
theorem wR {k:Int} {x:H} (aG:per[t]? =some (.V tab)) (bi:a9 (.int k) tab=some (.aF [.int 0,x])) (h:gB x "Reference"=some false):aH b (m+1) "home_of" [bB t u,au k] per=some (.ret (.U (au k)),per):=by
 refine c6 T9 ?_
 apply dp rfl
 ·refine aO (dc rfl rfl) ?_
  refine aO (fB rfl rfl) ?_
  apply cu
  apply rB
  apply O1 (m:=999999) (kB (jZ (o4 rfl rfl rfl F9 rfl)) (cR rfl rfl rfl rfl rfl rfl))
  refine aO (gP (k:=.int k) rfl rfl rfl (jh rfl rfl (Nat.le_of_ble_eq_true rfl))) ?_
  refine aO (lq (vs:=[.int 0,x]) rfl (f8 rfl rfl (BD (kk:=.int k) (l:=tab) (by show lp per[t]? =true;refine B aG ?_;rfl) rfl aG rfl (by refine B bi ?_;rfl))) (Nat.le_of_ble_eq_true rfl) rfl) ?_
  refine aO (co false (cR rfl rfl rfl rfl rfl rfl) rfl) ?_
  exact cu (co true (je (jZ (o4 rfl rfl (qq h) h rfl))) (cu (dD rfl rfl)))
 ·rfl
theorem pB {hd:List (al×H)} {v:H} {l:List H} (aG:per[t]? =some (.V tab)) (ag:(a9 (.str "Kids") hd).getD .none=v) (h:ls tab v (.am l)):aH b (m+3) "kids_of" [bB t u,.V hd] per=some (.ret (.U (.am l)),per):=by
 refine c6 KN ?_
 apply dp rfl
 ·refine aO (dc (dZ rfl rfl rfl rfl rfl (kE aG ag h)) rfl) ?_
  refine aO (co false rfl rfl) ?_
  exact cu (dD rfl rfl)
 ·rfl
theorem Xf {hd:List (al×H)} (aG:per[t]? =some (.V tab)) (ag:(a9 (.str "Type") hd).getD .none=gO "Pages"):aH b (m+3) "is_node" [bB t u,.V hd] per=some (.ret (.U (.bool true)),per):=by
 refine c6 A5 ?_
 apply dp rfl
 ·refine aO (dc (dZ rfl rfl rfl rfl rfl (kE aG ag (.hM rfl))) rfl) ?_
  exact cu (co true (kB rfl rfl) (cu (dD rfl rfl)))
 ·rfl
theorem TF {hd:List (al×H)} (aG:per[t]? =some (.V tab)) (ag:(a9 (.str "Type") hd).getD .none=gO "Page"):aH b (m+3) "is_node" [bB t u,.V hd] per=some (.ret (.U (.bool false)),per):=by
 refine c6 A5 ?_
 apply dp rfl
 ·refine aO (dc (dZ rfl rfl rfl rfl rfl (kE aG ag (.hM rfl))) rfl) ?_
  exact cu (co true (kB rfl rfl) (cu (dD rfl rfl)))
 ·rfl
noncomputable def bT (k:Int) (hd:List (al×H)) (ab:List H) (inh:List (al×H)) (pg:Bool):H:=.dS "Spot" [("reference",au k),("head",.V hd),("above",.aF ab),("inherited",.V inh),("is_page",.bool pg)]
noncomputable def qj (v:H):Prop:=gB v "Reference"=some false/\fG v=false
noncomputable def fN (hd g:List (al×H)) (k:Str):List (al×H):=match a9 (.str k) hd with
 |none=>g
 |some v=>cU (.str k) v g
noncomputable def sx (t u:Nat) (k0:Int) (ab:List H) (hd g:List (al×H)) (k:Str) (per:List H):X:=
 ⟨[("shelf",.U (bB t u)),("value",.U (au k0)),("above",.U (.aF ab)),("inherited",.U (.V [])),("reference",.U (au k0)),("head",.U (.V hd)),("given",.aD (.V g)),("key",.U (.str k))],per⟩
theorem t3 {k0:Int} {ab:List H} {hd g:List (al×H)} {k:Str} (aG:per[t]? =some (.V tab)) (an:∀v,a9 (.str k) hd=some v->qj v) (aq:g.length<=a4):
  cO (aJ b (aH b (m+2)) CQ (n+14) (bN (aI 28))) (d5 (ce (aI 28) 4)) (sx t u k0 ab hd g k per)=some (.next,sx t u k0 ab hd (fN hd g k) k per):=by
 cases bi:a9 (.str k) hd with
 |none=>
  have e:fN hd g k=g:=by unfold fN;(refine B bi ?_;rfl)
  refine B e ?_
  exact aO (co false (cR (dZ rfl rfl rfl rfl rfl (kE aG (v:=.none) (by refine B bi ?_;rfl) (.hM rfl))) rfl rfl rfl rfl rfl) rfl) rfl
 |some v=>
  have e:fN hd g k=cU (.str k) v g:=by unfold fN;(refine B bi ?_;rfl)
  refine B e ?_
  refine cl (an v bi) ?_;intro M O
  refine aO (co true (cR (dZ rfl rfl rfl rfl rfl (kE aG (v:=v) (by refine B bi ?_;rfl) (.hM M))) rfl (qq M) rfl (x:=true) (by show some (!fG v)=_;refine B O ?_;rfl) rfl) (aO (gP (fs₁:=sx t u k0 ab hd g k per) (fs₂:=sx t u k0 ab hd g k per) (fs₃:=sx t u k0 ab hd g k per) (v:=v) (k:=.str k) (r:=.var "given") ?_ rfl rfl (jh (l:=g) rfl rfl aq)) rfl)) rfl
  refine du (r:=.U v) ?_ rfl
  exact f6 rfl rfl rfl rfl (bq rfl bi)
noncomputable def er (hd:List (al×H)):List (al×H):=fN hd (fN hd (fN hd (fN hd [] "Resources") "MediaBox") "CropBox") "Rotate"
theorem pP {k:al} {v:H}:∀{l:List (al×H)},(cU k v l).length<=l.length+1
 |[]=>Nat.le_refl _
 |(y,w)::r=>by
  unfold cU
  split
  ·simp
  ·have:=pP (k:=k) (v:=v) (l:=r);simp only [List.length_cons];exact X4 this
theorem y4 {hd g:List (al×H)} {k:Str}:(fN hd g k).length<=g.length+1:=by
 unfold fN;split
 ·exact u6
 ·exact pP
theorem sX {k0:Int} {ab:List H} {hd:List (al×H)} {x:Bool} (aG:per[t]? =some (.V tab)) (bi:a9 (.int k0) tab=some (.aF [.int 0,.V hd]))
  (an:∀k∈(["Resources","MediaBox","CropBox","Rotate"]:List Str),∀v,a9 (.str k) hd=some v->qj v) (gR:(a9 (.str "Type") hd).getD .none=if x then gO "Pages" else gO "Page"):
  aH b (m+4) "met" [bB t u,au k0,.aF ab,.V []] per=some (.ret (.U (bT k0 hd ab (er hd) (!x))),per):=by
 have aE:aH b (m+3) "is_node" [bB t u,.V hd] per=some (.ret (.U (.bool x)),per):=by
  cases x
  ·exact TF aG gR
  ·exact Xf aG gR
 have ie:=y4 (hd:=hd) (g:=[]) (k:="Resources")
 have jv:=y4 (hd:=hd) (g:=fN hd [] "Resources") (k:="MediaBox")
 have vO:=y4 (hd:=hd) (g:=fN hd (fN hd [] "Resources") "MediaBox") (k:="CropBox")
 simp only [List.length_nil] at ie
 have d3:=t3 (b:=b) (CQ:=aH false (m+3)) (n:=25) (m:=m+1) (u:=u) (k0:=k0) (ab:=ab) (g:=[]) aG (an "Resources" (by simp)) (Nat.zero_le _)
 have dR:=t3 (b:=b) (CQ:=aH false (m+3)) (n:=25) (m:=m+1) (u:=u) (k0:=k0) (ab:=ab) (g:=fN hd [] "Resources") aG (an "MediaBox" (by simp)) (by unfold a4;exact Jx ie)
 have fP:=t3 (b:=b) (CQ:=aH false (m+3)) (n:=25) (m:=m+1) (u:=u) (k0:=k0) (ab:=ab) (g:=fN hd (fN hd [] "Resources") "MediaBox") aG (an "CropBox" (by simp)) (by unfold a4;exact QX ie jv)
 have i2:=t3 (b:=b) (CQ:=aH false (m+3)) (n:=25) (m:=m+1) (u:=u) (k0:=k0) (ab:=ab) (g:=fN hd (fN hd (fN hd [] "Resources") "MediaBox") "CropBox") aG (an "Rotate" (by simp)) (by unfold a4;exact Qy ie jv vO)
 refine c6 HI ?_
 apply dp rfl
 ·refine aO (dc (eR rfl (by decide+kernel) (by decide+kernel) (by decide+kernel) (by decide+kernel) rfl (by decide+kernel) rfl (wR aG bi rfl)) rfl) ?_
  refine aO (dc (dZ rfl rfl rfl rfl rfl (vC aG (.r0 bi rfl))) rfl) ?_
  refine aO (co false rfl rfl) ?_
  refine aO (fB rfl rfl) ?_
  refine aO (g6 rfl (fM rfl d3 (fM rfl dR (fM rfl fP (fM rfl i2 rfl))))) ?_
  exact cu (dD (zW rfl (by decide+kernel) (by decide+kernel) (by decide+kernel) (by decide+kernel) rfl (bM rfl rfl (bM rfl rfl (bM rfl rfl (bM rfl rfl (bM (JG (eR rfl (by decide+kernel) (by decide+kernel) (by decide+kernel) (by decide+kernel) rfl (by decide+kernel) rfl aE)) rfl rfl))))) rfl) rfl)
 ·rfl
end
end Mine
end
section
open PySem
namespace Mine
theorem TZ:ds "spots"=some (aI 29):=by kernel_rfl
inductive bO where
 |leaf (k:Int) (hd:List (al×H))
 |node (k:Int) (hd:List (al×H)) (kids:List bO)
noncomputable def bO.num:bO->Int
 |.leaf k _=>k
 |.node k _ _=>k
mutual
noncomputable def bO.da:bO->List Int
 |.leaf k _=>[k]
 |.node k _ kids=>k::bO.j8 kids
noncomputable def bO.j8:List bO->List Int
 |[]=>[]
 |x::r=>bO.da x++bO.j8 r
end
mutual
noncomputable def dL (ab:List H):bO->List H
 |.leaf k hd=>[bT k hd ab (er hd) true]
 |.node k hd kids=>bT k hd ab (er hd) false::iw (ab++[au k]) kids
noncomputable def iw (ab:List H):List bO->List H
 |[]=>[]
 |x::r=>dL ab x++iw ab r
end
noncomputable def fV:List Str:=["Resources","MediaBox","CropBox","Rotate"]
noncomputable def GV (hd:List (al×H)):Prop:=(∀k∈fV,∀v,a9 (.str k) hd=some v->qj v)/\(a9 (.str "Type") hd).getD .none=gO "Page"
noncomputable def wb (hd:List (al×H)) (kids:List bO):Prop:=(∀k∈fV,a9 (.str k) hd=none)/\(a9 (.str "Type") hd).getD .none=gO "Pages"/\a9 (.str "Kids") hd=some (.am (kids.map fun x=>au x.num))
mutual
noncomputable def qy (tab:List (al×H)):bO->Prop
 |.leaf k hd=>a9 (.int k) tab=some (.aF [.int 0,.V hd])/\GV hd
 |.node k hd kids=>a9 (.int k) tab=some (.aF [.int 0,.V hd])/\wb hd kids/\rc tab kids
noncomputable def rc (tab:List (al×H)):List bO->Prop
 |[]=>True
 |x::r=>qy tab x/\rc tab r
end
theorem xv {hd:List (al×H)} {kids:List bO} (h:wb hd kids):er hd=[]:=by
 have M:=h.1
 unfold er fN
 (refine B (M "Resources" (by simp [fV])) ?_;refine B (M "MediaBox" (by simp [fV])) ?_;refine B (M "CropBox" (by simp [fV])) ?_;refine B (M "Rotate" (by simp [fV])) ?_;rfl)
section
variable{b:Bool} {C CQ:cs} {n:Nat} {J aW:Scope} {fs fs₁ fs₂ fs':X} {R:bk} {o:Option (bE×X)} {p:Pos} {m:Nat} {t u:Nat} {per:List H} {tab bL:List (al×H)}
theorem So {x:bO} {ab:List H} (aG:per[t]? =some (.V tab)) (h:qy tab x):∃hd pg,aH b (m+4) "met" [bB t u,au x.num,.aF ab,.V []] per=some (.ret (.U (bT x.num hd ab (er hd) pg)),per)/\
  ((pg=true/\x=.leaf x.num hd)\/(pg=false/\∃kids,x=.node x.num hd kids)):=by
 cases x with
 |leaf k hd=>
  refine ef h ?_;clear h;intro M O Y
  exact⟨hd,true,sX (x:=false) aG M O Y,.inl ⟨rfl,rfl⟩⟩
 |node k hd kids=>
  obtain⟨M,⟨O,Y,aC⟩,bR⟩:=h
  exact⟨hd,false,sX (x:=true) aG M (fun k ag v e=>by replace e:=(O k ag)▸e;cases e) Y,.inr ⟨rfl,kids,rfl⟩⟩
noncomputable def Cb (t u:Nat) (found:List H) (seen:List (al×H)) (line:List H) (value above inh wy:H) (per:List H):X:=
 ⟨[("shelf",.U (bB t u)),("found",.aD (.am found)),("seen",.aD (.V seen)),("line",.aD (.am line)),("value",.U value),("above",.U above),("inherited",.U inh),("spot",.U wy)],per⟩
noncomputable def h6 (t u:Nat) (found:List H) (seen:List (al×H)) (line:List H) (value above inh wy kid:H) (per:List H):X:=
 ⟨[("shelf",.U (bB t u)),("found",.aD (.am found)),("seen",.aD (.V seen)),("line",.aD (.am line)),("value",.U value),("above",.U above),("inherited",.U inh),("spot",.U wy),("kid",.U kid)],per⟩
noncomputable def gH (ab:List H) (k:Int):H:=.aF [au k,.aF ab,.V []]
noncomputable def yp:Stmt:=iJ (d5 (iJ (d5 (ce (aI 29) 3)) 5)) 0
theorem FB {found line ab:List H} {seen:List (al×H)} {value inh:H} {k j:Int} {hd:List (al×H)} (aq:line.length<1000) (bA:ab.length<1000):
  cO (aJ b C CQ (n+14) (bN (aI 29))) (d5 yp) (h6 t u found seen line value (.aF ab) inh (bT k hd ab [] false) (au j) per)=some (.next,h6 t u found seen (line++[gH (ab++[au k]) j]) value (.aF ab) inh (bT k hd ab [] false) (au j) per):=by
 refine aO (nG (f8 rfl rfl (rF (v:=gH (ab++[au k]) j) (l:=line) rfl (bM (ky (bM rfl rfl (bM (dB rfl rfl rfl rfl (td (x:=ab) (y:=[au k]) (by unfold a4;simp;exact uV bA))) rfl (bM rfl rfl rfl))) (Nat.le_of_ble_eq_true rfl)) rfl rfl) rfl (by unfold a4;exact mJ aq)))) ?_
 rfl
theorem wz {found ab:List H} {seen:List (al×H)} {value inh:H} {k:Int} {hd:List (al×H)} (bA:ab.length<1000):∀{ks:List Int} {line:List H} {j:Int},line.length+ks.length<1000->
  ∃ho,f5 (aJ b C CQ (n+14) (bN (aI 29))) (bN (aI 29)) "kid" (d5 yp) (ks.map au) (h6 t u found seen line value (.aF ab) inh (bT k hd ab [] false) (au j) per)=some (.next,h6 t u found seen (line++ks.map (gH (ab++[au k]))) value (.aF ab) inh (bT k hd ab [] false) (au ho) per)
 |[],line,j,_=>⟨j,by rw [List.map_nil,List.map_nil,List.append_nil];rfl⟩
 |i::ks,line,j,h=>by
  refine bS (wz (found:=found) (seen:=seen) (value:=value) (inh:=inh) (k:=k) (hd:=hd) bA (ks:=ks) (line:=line++[gH (ab++[au k]) i]) (j:=i) (by simp at h|-;exact Ji h)) ?_;intro ho e
  exact⟨ho,fM rfl (FB (by simp at h;exact xV h) bA) (e.trans (by simp))⟩
end
end Mine
end
section
open PySem
namespace Mine
theorem gU {k j:al} {v:H}:∀{l:List (al×H)},a9 j (cU k v l)=if j=k then some v else a9 j l
 |[]=>by unfold cU a9;rfl
 |(y,w)::r=>by
  unfold cU
  by_cases e:k=y
  ·subst e
   refine B (if_pos rfl) ?_
   unfold a9
   by_cases ar:j=k<;>simp [ar]
  ·refine B (if_neg e) ?_
   unfold a9
   by_cases ar:j=y
   ·subst ar
    (refine B (if_pos rfl) ?_;refine B (if_pos rfl) ?_;refine B (if_neg (fun q=>e q.symm)) ?_;rfl)
   ·(refine B (if_neg ar) ?_;refine B (if_neg ar) ?_;refine B gU ?_;rfl)
section
variable{b:Bool} {C CQ:cs} {n:Nat} {J aW:Scope} {fs fs₁ fs₂ fs':X} {R:bk} {o:Option (bE×X)} {p:Pos} {m:Nat} {t u:Nat} {per:List H} {tab bL:List (al×H)}
noncomputable abbrev mw (b:Bool) (CQ:cs) (m n:Nat):bk:=aJ b (aH b (m+4)) CQ (n+18) (bN (aI 29))
noncomputable abbrev p1:List Stmt:=d5 (ce (aI 29) 3)
theorem CB {x:H} {l:List H}:eF .Eq (.am (x::l)) (.am [])=some false:=rfl
theorem Qo {found line ab:List H} {seen:List (al×H)} {va aa ia sa kid x0:H} {k:Int} {hd:List (al×H)} (aB:found.length<1000) (aq:line.length<1000) (hs:seen.length<1000)
  (aY:aH b (m+4) "met" [bB t u,au k,.aF ab,.V []] per=some (.ret (.U (bT k hd ab (er hd) true)),per)) (aE:a9 (.int k) seen=none):
  cO (mw b CQ m n) p1 (h6 t u (x0::found) seen (line++[gH ab k]) va aa ia sa kid per)=
   some (.next,h6 t u (x0::found++[bT k hd ab (er hd) true]) (cU (.int k) (.bool true) seen) line (au k) (.aF ab) (.V []) (bT k hd ab (er hd) true) kid per):=by
 refine aO (lq (vs:=[au k,.aF ab,.V []]) rfl (f8 rfl rfl (wk rfl rfl (by unfold a4;simp;exact uV aq))) (Nat.le_of_ble_eq_true rfl) rfl) ?_
 refine aO (dc (eR rfl (by decide+kernel) (by decide+kernel) (by decide+kernel) (by decide+kernel) rfl (by decide+kernel) rfl aY) rfl) ?_
 refine aO (co false (rQ (cR rfl rfl rfl rfl (sT (kk:=.int k) rfl (by refine B aE ?_;rfl)) rfl) (oK (cR rfl rfl rfl rfl CB rfl))) rfl) ?_
 refine aO (gP (k:=.int k) (v:=.bool true) rfl rfl rfl (jh rfl rfl (by unfold a4;exact mJ hs))) ?_
 refine aO (nG (f8 rfl rfl (rF (v:=bT k hd ab (er hd) true) (l:=x0::found) rfl rfl rfl (by unfold a4;simp;exact uV aB)))) ?_
 exact aO (co false rfl rfl) rfl
theorem Xm {found line ab:List H} {seen:List (al×H)} {va aa ia sa kid x0:H} {k j:Int} {hd:List (al×H)} {ks:List Int} (aB:found.length<1000) (hs:seen.length<1000) (bA:ab.length<1000) (aq:line.length+ks.length<999)
  (aY:aH b (m+4) "met" [bB t u,au k,.aF ab,.V []] per=some (.ret (.U (bT k hd ab [] false)),per)) (ag:aH b (m+4) "kids_of" [bB t u,.V hd] per=some (.ret (.U (.am (ks.map au))),per)) (aE:a9 (.int k) seen=none):
  ∃ho,cO (mw b CQ m n) p1 (h6 t u (x0::found) seen (line++[gH ab k]) va aa ia sa (au j) per)=
   some (.next,h6 t u (x0::found++[bT k hd ab [] false]) (cU (.int k) (.bool true) seen) (line++ks.reverse.map (gH (ab++[au k]))) (au k) (.aF ab) (.V []) (bT k hd ab [] false) (au ho) per):=by
 refine bS (wz (b:=b) (C:=aH b (m+4)) (CQ:=CQ) (n:=n+2) (t:=t) (u:=u) (per:=per) (found:=x0::found++[bT k hd ab [] false]) (ab:=ab) (seen:=cU (.int k) (.bool true) seen) (value:=au k) (inh:=.V []) (k:=k) (hd:=hd) bA (ks:=ks.reverse) (line:=line) (j:=j) (by simp;exact K5 aq)) ?_;intro ho e
 refine⟨ho,?_⟩
 refine aO (lq (vs:=[au k,.aF ab,.V []]) rfl (f8 rfl rfl (wk rfl rfl (by unfold a4;simp;exact V2 aq))) (Nat.le_of_ble_eq_true rfl) rfl) ?_
 refine aO (dc (eR rfl (by decide+kernel) (by decide+kernel) (by decide+kernel) (by decide+kernel) rfl (by decide+kernel) rfl aY) rfl) ?_
 refine aO (co false (rQ (cR rfl rfl rfl rfl (sT (kk:=.int k) rfl (by refine B aE ?_;rfl)) rfl) (oK (cR rfl rfl rfl rfl CB rfl))) rfl) ?_
 refine aO (gP (k:=.int k) (v:=.bool true) rfl rfl rfl (jh rfl rfl (by unfold a4;exact mJ hs))) ?_
 refine aO (nG (f8 rfl rfl (rF (v:=bT k hd ab [] false) (l:=x0::found) rfl rfl rfl (by unfold a4;simp;exact uV aB)))) ?_
 refine aO (co true rfl (aO (g6 (Cq rfl (du (eR rfl (by decide+kernel) (by decide+kernel) (by decide+kernel) (by decide+kernel) rfl (by decide+kernel) rfl ag) rfl)) ?_) rfl)) rfl
 refine bu List.map_reverse ?_
 exact e
end
end Mine
end
section
open PySem
namespace Mine
noncomputable def hQ (stk:List (List H×bO)):List H:=stk.reverse.map fun p=>gH p.1 p.2.num
noncomputable def fH (stk:List (List H×bO)):List Int:=stk.flatMap fun p=>p.2.da
noncomputable def pY (stk:List (List H×bO)):List H:=stk.flatMap fun p=>dL p.1 p.2
theorem B8:∀x:bO,1<=x.da.length
 |.leaf k hd=>by unfold bO.da;simp
 |.node k hd kids=>by unfold bO.da;simp
theorem tS:∀x:bO,x.num∈x.da
 |.leaf k hd=>by unfold bO.da bO.num;simp
 |.node k hd kids=>by unfold bO.da bO.num;simp
theorem v4:∀l:List bO,bO.j8 l=l.flatMap bO.da
 |[]=>by simp [bO.j8]
 |x::r=>by(rw [bO.j8];refine B (v4 r) ?_;refine B List.flatMap_cons ?_;rfl)
theorem wD {ab:List H}:∀l:List bO,iw ab l=l.flatMap (dL ab)
 |[]=>by simp [iw]
 |x::r=>by(rw [iw];refine B (wD r) ?_;refine B List.flatMap_cons ?_;rfl)
theorem xT {tab:List (al×H)}:∀{l:List bO},rc tab l->∀x∈l,qy tab x
 |x::r,h,y,aQ=>by
  unfold rc at h
  rcases List.mem_cons.mp aQ with rfl|aQ
  ·exact h.1
  ·exact xT h.2 y aQ
theorem y3 {y:bO}:∀{l:List bO},y∈l->y.da.length<=(l.flatMap bO.da).length
 |x::r,h=>by
  (refine B List.flatMap_cons ?_;refine B List.length_append ?_)
  rcases List.mem_cons.mp h with rfl|h
  ·exact G5
  ·have:=y3 h;exact Xa this
theorem yo {stk:List (List H×bO)}:stk.length<=(fH stk).length:=by
 induction stk with
 |nil=>exact Nat.zero_le _
 |cons p r ih=>
  unfold fH at*
  (refine B List.flatMap_cons ?_;refine B List.length_append ?_;refine B List.length_cons ?_)
  have:=B8 p.2
  exact Ou ih this
section
variable{b:Bool} {C CQ:cs} {n:Nat} {J aW:Scope} {fs fs₁ fs₂ fs':X} {R:bk} {o:Option (bE×X)} {p:Pos} {m:Nat} {t u:Nat} {per:List H} {tab bL:List (al×H)}
structure u2 (tab:List (al×H)) (seen:List (al×H)) (stk:List (List H×bO)):Prop where
 ao:∀p∈stk,qy tab p.2
 ev:(fH stk).Nodup
 fresh:∀j∈fH stk,a9 (.int j) seen=none
 high:∀p∈stk,p.1.length+p.2.da.length<900
theorem TA (aG:per[t]? =some (.V tab)):∀(N:Nat) {stk:List (List H×bO)} {found:List H} {seen:List (al×H)} {va aa ia sa x0:H} {j:Int} {fuel:Nat},(fH stk).length=N->u2 tab seen stk->found.length+N<900->seen.length+N<900->N<fuel->
  ∃qJ p9 pJ p5 qg ho,gz (mw b CQ m n) (mi (ce (aI 29) 3)) p1 fuel (h6 t u (x0::found) seen (hQ stk) va aa ia sa (au j) per)=some (.next,h6 t u (x0::found++pY stk) qJ [] p9 pJ p5 qg (au ho) per):=by
 intro N
 induction N using Nat.strongRecOn with
 |_ N ih=>
  intro stk found seen va aa ia sa x0 j fuel dm ok aB hs ym
  obtain⟨fuel,rfl⟩:∃f,fuel=f+1:=⟨fuel-1,by exact FQ ym⟩
  cases stk with
  |nil=>
   refine⟨seen,va,aa,ia,sa,j,?_⟩
   exact(w_end (fs₁:=h6 t u (x0::found) seen [] va aa ia sa (au j) per) (s7 rfl rfl rfl (Nat.zero_le _) rfl)).trans (by simp [pY])
  |cons q stk=>
   obtain⟨ab,x⟩:=q
   have he:hQ ((ab,x)::stk)=hQ stk++[gH ab x.num]:=by unfold hQ;(refine B List.reverse_cons ?_;refine B List.map_append ?_);rfl
   have j0:(fH ((ab,x)::stk)).length=x.da.length+(fH stk).length:=by unfold fH;(refine B List.flatMap_cons ?_;refine B List.length_append ?_;rfl)
   have qc:=yo (stk:=stk)
   have iS:(hQ stk).length=stk.length:=by unfold hQ;simp
   have xY:=ok.ao _ List.mem_cons_self
   have wx:=ok.high _ List.mem_cons_self
   dsimp only at xY wx
   have yE:∀j∈x.da,a9 (.int j) seen=none:=fun j bF=>ok.fresh j (by unfold fH;refine B List.flatMap_cons ?_;exact List.mem_append_left _ bF)
   have iM:x.da.Nodup/\(fH stk).Nodup/\∀a∈x.da,∀b∈fH stk,a≠b:=by
    have:=ok.ev
    unfold fH at this
    replace this:=List.flatMap_cons▸this
    exact List.nodup_append.mp this
   have nK:(mw b CQ m n).dF (mi (ce (aI 29) 3)) (h6 t u (x0::found) seen (hQ ((ab,x)::stk)) va aa ia sa (au j) per)=some (true,h6 t u (x0::found) seen (hQ ((ab,x)::stk)) va aa ia sa (au j) per):=
    s7 rfl rfl rfl (by refine B he ?_;unfold a4;simp;exact OV hs dm j0 qc iS) (by refine B he ?_;simp)
   have Fz:(cU (.int x.num) (.bool true) seen).length<=seen.length+1:=pP
   have me:=B8 x
   refine hw (So (b:=b) (m:=m) (u:=u) (ab:=ab) aG xY) ?_;intro hd pg aY ae
   rcases ae with⟨rfl,ae⟩|⟨rfl,kids,ae⟩
   ·have ak:=Qo (b:=b) (CQ:=CQ) (n:=n) (m:=m) (t:=t) (u:=u) (per:=per) (found:=found) (line:=hQ stk) (ab:=ab) (seen:=seen) (va:=va) (aa:=aa) (ia:=ia) (sa:=sa) (kid:=au j) (x0:=x0) (k:=x.num) (hd:=hd) (by exact sG aB) (by exact K1 hs dm j0 qc iS) (by exact sG hs) aY (yE _ (tS x))
    have xK:u2 tab (cU (.int x.num) (.bool true) seen) stk:=⟨fun p an=>ok.ao p (List.mem_cons_of_mem _ an),iM.2.1,fun j bF=>by
     (refine B gU ?_;refine B (if_neg (fun e=>iM.2.2 _ (tS x) j bF (by injection e with e;exact e.symm))) ?_)
     exact ok.fresh j (by unfold fH;refine B List.flatMap_cons ?_;exact List.mem_append_right _ bF),fun p an=>ok.high p (List.mem_cons_of_mem _ an)⟩
    refine ua (ih (fH stk).length (by exact WS dm j0 me) (stk:=stk) (found:=found++[bT x.num hd ab (er hd) true]) (seen:=cU (.int x.num) (.bool true) seen) (va:=au x.num) (aa:=.aF ab) (ia:=.V []) (sa:=bT x.num hd ab (er hd) true) (x0:=x0) (j:=j) (fuel:=fuel) rfl xK (by simp;exact NU aB dm j0 me) (by exact M7 hs dm j0 Fz me) (by exact S0 ym dm j0 me)) ?_;intro qJ p9 pJ p5 qg ho ar
    refine⟨qJ,p9,pJ,p5,qg,ho,?_⟩
    rw [he] at nK|-
    refine oI nK ak (ar.trans ?_)
    unfold pY
    refine B List.flatMap_cons ?_
    dsimp only [kJ,kX,kN,kP,kG,kU,kK,k7]
    refine B ae ?_
    simp [dL,bO.num]
   ·have vB:=xY
    replace vB:=ae▸vB
    refine ef vB ?_;clear vB;intro bH b7 c7
    have aR:=xv b7
    replace aY:=aR▸aY
    have vR:kids.map (fun y=>au y.num)=(kids.map bO.num).map au:=by refine B List.map_map ?_;rfl
    have ag:aH b (m+4) "kids_of" [bB t u,.V hd] per=some (.ret (.U (.am ((kids.map bO.num).map au))),per):=by
     have:=pB (b:=b) (m:=m+1) (u:=u) (hd:=hd) (v:=.am (kids.map fun y=>au y.num)) (l:=kids.map fun y=>au y.num) aG (by refine B b7.2.2 ?_;rfl) (.hM rfl)
     replace this:=vR▸this
     exact this
    have ng:x.da=x.num::kids.flatMap bO.da:=by refine B ae ?_;show bO.da (.node _ _ _)=_;unfold bO.da;refine B (v4 _) ?_;rfl
    have k8:kids.length<=(kids.flatMap bO.da).length:=by
     have:=yo (stk:=kids.map fun y=>(ab,y))
     unfold fH at this
     rw [List.flatMap_map] at this
     simpa using this
    have p7:x.da.length=(kids.flatMap bO.da).length+1:=by refine B ng ?_;rfl
    refine bS (Xm (b:=b) (CQ:=CQ) (n:=n) (m:=m) (t:=t) (u:=u) (per:=per) (found:=found) (line:=hQ stk) (ab:=ab) (seen:=seen) (va:=va) (aa:=aa) (ia:=ia) (sa:=sa) (kid:=.none) (x0:=x0) (k:=x.num) (j:=j) (hd:=hd) (ks:=kids.map bO.num) (by exact sG aB) (by exact sG hs) (by exact sG wx) (by simp;exact H3 hs dm j0 qc iS k8 p7) aY ag (yE _ (tS x))) ?_;intro Gb ak
    have iq:fH (kids.map (fun y=>(ab++[au x.num],y))++stk)=kids.flatMap bO.da++fH stk:=by
     unfold fH;(refine B List.flatMap_append ?_;refine B (List.flatMap_map _ _ _) ?_;rfl)
    have Do:x.num∉kids.flatMap bO.da/\(kids.flatMap bO.da).Nodup:=by
     have:=iM.1;replace this:=ng▸this;exact List.nodup_cons.mp this
    have xK:u2 tab (cU (.int x.num) (.bool true) seen) (kids.map (fun y=>(ab++[au x.num],y))++stk):=by
     refine⟨fun p an=> ?_,?_,fun j bF=> ?_,fun p an=> ?_⟩
     ·rcases List.mem_append.mp an with an|an
      ·refine bb (List.mem_map.mp an) ?_;intro y aQ u;subst u
       exact xT c7 y aQ
      ·exact ok.ao p (List.mem_cons_of_mem _ an)
     ·refine B iq ?_
      exact List.nodup_append.mpr ⟨Do.2,iM.2.1,fun a bA c hc=>iM.2.2 a (by refine B ng ?_;exact List.mem_cons_of_mem _ bA) c hc⟩
     ·replace bF:=iq▸bF
      have b1:¬al.int j=al.int x.num:=fun e=>by
       injection e with e
       subst e
       rcases List.mem_append.mp bF with h|h
       ·exact Do.1 h
       ·exact iM.2.2 _ (tS x) _ h rfl
      (refine B gU ?_;refine B (if_neg b1) ?_)
      rcases List.mem_append.mp bF with h|h
      ·exact yE j (by refine B ng ?_;exact List.mem_cons_of_mem _ h)
      ·exact ok.fresh j (by unfold fH;refine B List.flatMap_cons ?_;exact List.mem_append_right _ h)
     ·rcases List.mem_append.mp an with an|an
      ·refine bb (List.mem_map.mp an) ?_;intro y aQ u;subst u
       have:y.da.length<=(kids.flatMap bO.da).length:=by
        exact y3 aQ
       simp only [List.length_append,List.length_cons,List.length_nil]
       exact Um wx p7 this
      ·exact ok.high p (List.mem_cons_of_mem _ an)
    obtain⟨qJ,p9,pJ,p5,qg,ho,ar⟩:=ih (fH (kids.map (fun y=>(ab++[au x.num],y))++stk)).length (by(refine B iq ?_;refine B List.length_append ?_);exact Nj dm j0 p7) (stk:=kids.map (fun y=>(ab++[au x.num],y))++stk) (found:=found++[bT x.num hd ab [] false]) (seen:=cU (.int x.num) (.bool true) seen) (va:=au x.num) (aa:=.aF ab) (ia:=.V []) (sa:=bT x.num hd ab [] false) (x0:=x0) (j:=Gb) (fuel:=fuel) rfl xK
     (by refine B iq ?_;simp only [List.length_append,List.length_cons,List.length_nil];exact JT aB dm j0 p7) (by(refine B iq ?_;refine B List.length_append ?_);exact Hs hs dm j0 Fz p7) (by(refine B iq ?_;refine B List.length_append ?_);exact X3 ym dm j0 p7)
    refine⟨qJ,p9,pJ,p5,qg,ho,?_⟩
    have hO:hQ (kids.map (fun y=>(ab++[au x.num],y))++stk)=hQ stk++(kids.map bO.num).reverse.map (gH (ab++[au x.num])):=by
     unfold hQ
     (refine B List.reverse_append ?_;refine B List.map_append ?_;refine bu List.map_reverse ?_;refine B List.map_map ?_;refine bu List.map_reverse ?_;refine B List.map_map ?_);rfl
    replace ar:=hO▸ar
    rw [he] at nK|-
    refine oI nK ak (ar.trans ?_)
    unfold pY
    (refine B List.flatMap_cons ?_;refine B List.flatMap_append ?_;refine B (List.flatMap_map _ _ _) ?_)
    dsimp only [kJ,kX,kN,kP,kG,kU,kK,k7]
    have:dL ab x=bT x.num hd ab [] false::kids.flatMap (dL (ab++[au x.num])):=by
     refine B ae ?_
     show dL ab (.node _ _ _)=_
     unfold dL
     (refine B aR ?_;refine B (wD _) ?_);rfl
    refine B this ?_
    simp
end
end Mine
end
section
open PySem
namespace Mine
section
variable{b:Bool} {C CQ:cs} {n:Nat} {J aW:Scope} {fs fs₁ fs₂ fs':X} {R:bk} {o:Option (bE×X)} {p:Pos} {m:Nat} {t u:Nat} {per:List H} {tab bL:List (al×H)}
noncomputable def rq (t u:Nat) (line:List H) (per:List H):X:=⟨[("shelf",.U (bB t u)),("found",.aD (.am [])),("seen",.aD (.V [])),("line",.aD (.am line))],per⟩
theorem Kh {k:Int} {hd:List (al×H)} {ks:List Int} (aq:ks.length<900) (aY:aH b (m+4) "met" [bB t u,au k,.aF [],.V []] per=some (.ret (.U (bT k hd [] [] false)),per))
  (ag:aH b (m+4) "kids_of" [bB t u,.V hd] per=some (.ret (.U (.am (ks.map au))),per)):
  ∃fs,cO (mw b CQ m n) p1 (rq t u [gH [] k] per)=some (.next,fs)/\
   ((ks=[]/\fs=Cb t u [bT k hd [] [] false] [(.int k,.bool true)] [] (au k) (.aF []) (.V []) (bT k hd [] [] false) per)\/
    ∃j,fs=h6 t u [bT k hd [] [] false] [(.int k,.bool true)] (ks.reverse.map (gH [au k])) (au k) (.aF []) (.V []) (bT k hd [] [] false) (au j) per):=by
 have key:∀fs,f5 (aJ b (aH b (m+4)) CQ (n+16) (bN (aI 29))) (bN (aI 29)) "kid" (d5 yp) (ks.map au).reverse (Cb t u [bT k hd [] [] false] [(.int k,.bool true)] [] (au k) (.aF []) (.V []) (bT k hd [] [] false) per)=some (.next,fs)->
   cO (mw b CQ m n) p1 (rq t u [gH [] k] per)=some (.next,fs):=fun fs e=>by
  refine aO (lq (vs:=[au k,.aF [],.V []]) rfl (f8 rfl rfl (wk (l:=[]) rfl rfl (Nat.le_of_ble_eq_true rfl))) (Nat.le_of_ble_eq_true rfl) rfl) ?_
  refine aO (dc (eR rfl (by decide+kernel) (by decide+kernel) (by decide+kernel) (by decide+kernel) rfl (by decide+kernel) rfl aY) rfl) ?_
  refine aO (co false (rQ (cR rfl rfl rfl rfl (sT (kk:=.int k) rfl rfl) rfl) (kB (cR rfl rfl rfl rfl rfl rfl) rfl)) rfl) ?_
  refine aO (gP (k:=.int k) (v:=.bool true) rfl rfl rfl (jh rfl rfl (Nat.le_of_ble_eq_true rfl))) ?_
  refine aO (nG (f8 rfl rfl (rF (v:=bT k hd [] [] false) (l:=[]) rfl rfl rfl (Nat.le_of_ble_eq_true rfl)))) ?_
  exact aO (co true rfl (aO (g6 (Cq rfl (du (eR rfl (by decide+kernel) (by decide+kernel) (by decide+kernel) (by decide+kernel) rfl (by decide+kernel) rfl ag) rfl)) e) rfl)) rfl
 replace key:=(Eq.symm List.map_reverse)▸key
 cases js:ks.reverse with
 |nil=>
  have:ks=[]:=by simpa using js
  refine⟨_,key _ (by refine B js ?_;rfl),.inl ⟨this,rfl⟩⟩
 |cons i r=>
  have aP:r.length<900:=by have:=congrArg List.length js;simp at this;exact Tp aq this
  refine bS (wz (b:=b) (C:=aH b (m+4)) (CQ:=CQ) (n:=n+2) (t:=t) (u:=u) (per:=per) (found:=[bT k hd [] [] false]) (ab:=[]) (seen:=[(.int k,.bool true)]) (value:=au k) (inh:=.V []) (k:=k) (hd:=hd) (by simp) (ks:=r) (line:=[gH [au k] i]) (j:=i) (by simp;exact HR aP)) ?_;intro ho e
  refine⟨_,key _ ?_,.inr ⟨ho,rfl⟩⟩
  refine B js ?_
  exact fM (fs₁:=h6 t u [bT k hd [] [] false] [(.int k,.bool true)] [] (au k) (.aF []) (.V []) (bT k hd [] [] false) (au i) per) rfl (FB (line:=[]) (by simp) (by simp)) e
structure kR (tab bL:List (al×H)) (x:bO):Prop where
 jS:∃a6 qm,(a9 (.str "Root") bL).getD .none=au a6/\a9 (.int a6) tab=some (.aF [.int 0,.V qm])/\a9 (.str "Pages") qm=some (au x.num)
 node:∃k hd kids,x=.node k hd kids
 ao:qy tab x
 ev:x.da.Nodup
 fu:x.da.length<400
theorem t7 {x:bO} (aG:per[t]? =some (.V tab)) (b2:per[u]? =some (.V bL)) (ae:kR tab bL x):aH b (m+5) "spots" [bB t u] per=some (.ret (.own (.am (dL [] x))),per):=by
 refine dP ae.jS ?_;intro a6 qm ey eC h7
 refine qz ae.node ?_;intro k hd kids u;subst u
 refine ef ae.ao ?_;intro bH b7 c7
 have aR:=xv b7
 have aY:=sX (b:=b) (m:=m) (u:=u) (ab:=[]) (x:=true) aG bH (fun k ag v e=>by replace e:=(b7.1 k ag)▸e;cases e) b7.2.1
 replace aY:=aR▸aY
 have vR:kids.map (fun y=>au y.num)=(kids.map bO.num).map au:=by refine B List.map_map ?_;rfl
 have ag:aH b (m+4) "kids_of" [bB t u,.V hd] per=some (.ret (.U (.am ((kids.map bO.num).map au))),per):=by
  have:=pB (b:=b) (m:=m+1) (u:=u) (hd:=hd) (v:=.am (kids.map fun y=>au y.num)) (l:=kids.map fun y=>au y.num) aG (by refine B b7.2.2 ?_;rfl) (.hM rfl)
  replace this:=vR▸this
  exact this
 have ng:bO.da (.node k hd kids)=k::kids.flatMap bO.da:=by unfold bO.da;(refine B (v4 _) ?_;rfl)
 have fp:=ae.fu
 have fz:=ae.ev
 rw [ng] at fp fz
 simp only [List.length_cons] at fp
 have k8:kids.length<=(kids.flatMap bO.da).length:=by
  have:=yo (stk:=kids.map fun y=>(([]:List H),y))
  unfold fH at this
  rw [List.flatMap_map] at this
  simpa using this
 refine bb (Kh (b:=b) (CQ:=aH false (m+4)) (n:=21) (m:=m) (t:=t) (u:=u) (per:=per) (k:=k) (hd:=hd) (ks:=kids.map bO.num) (by simp;exact RK fp k8) aY ag) ?_;intro fs ak ar
 have Bx:dL [] (.node k hd kids)=bT k hd [] [] false::kids.flatMap (dL [au k]):=by unfold dL;(refine B aR ?_;refine B (wD _) ?_);rfl
 refine c6 TZ ?_
 have cM:∀fs',gz (mw b (aH false (m+4)) m 21) (mi (ce (aI 29) 3)) p1 mc (rq t u [gH [] k] per)=some (.next,fs')->getL "found" fs'.loc=some (.aD (.am (dL [] (.node k hd kids))))->fs'.per=per->
   jR b (aH b (m+4)) (aH false (m+4)) (aI 29) [bB t u] per=some (.ret (.own (.am (dL [] (.node k hd kids)))),per):=fun fs' w8 mN qP=>by
  apply dp rfl
  ·refine aO (fB rfl rfl) ?_
   refine aO (fB rfl rfl) ?_
   refine aO (fB (wl (bM (ky (bM (f8 rfl (dZ rfl rfl rfl rfl rfl (yP (m:=m+1) aG b2 ey (.r0 eC rfl))) (nw (kk:=.str "Pages") (l:=qm) (x:=au k) rfl rfl rfl rfl (by refine B h7 ?_;rfl))) rfl (bM rfl rfl (bM rfl rfl rfl))) (Nat.le_of_ble_eq_true rfl)) rfl rfl) (Nat.le_of_ble_eq_true rfl)) rfl) ?_
   refine aO (rB w8) ?_
   exact cu (sy rfl (by decide+kernel) mN)
  ·exact qP
 have nK:(mw b (aH false (m+4)) m 21).dF (mi (ce (aI 29) 3)) (rq t u [gH [] k] per)=some (true,rq t u [gH [] k] per):=s7 rfl rfl rfl (Nat.le_of_ble_eq_true rfl) rfl
 rcases ar with⟨aL,rfl⟩|⟨j,rfl⟩
 ·have aL:kids=[]:=by simpa using aL
  subst aL
  refine cM _ (oI (m:=999999) nK ak (w_end (m:=999998) (s7 rfl rfl rfl (Nat.zero_le _) rfl))) ?_ rfl
  refine B Bx ?_;rfl
 ·have hO:hQ (kids.map fun y=>([au k],y))=(kids.map bO.num).reverse.map (gH [au k]):=by
   unfold hQ
   (refine bu List.map_reverse ?_;refine B List.map_map ?_;refine bu List.map_reverse ?_;refine B List.map_map ?_);rfl
  have iq:fH (kids.map fun y=>([au k],y))=kids.flatMap bO.da:=by unfold fH;(refine B (List.flatMap_map _ _ _) ?_;rfl)
  refine cl (List.nodup_cons.mp fz) ?_;intro kI kL
  have ok:u2 tab [(.int k,.bool true)] (kids.map fun y=>([au k],y)):=by
   refine⟨fun p an=> ?_,by refine B iq ?_;exact kL,fun j bF=> ?_,fun p an=> ?_⟩
   ·refine bb (List.mem_map.mp an) ?_;intro y aQ u;subst u
    exact xT c7 y aQ
   ·replace bF:=iq▸bF
    unfold a9
    refine B (if_neg (fun e=>by injection e with e;subst e;exact kI bF)) ?_;rfl
   ·refine bb (List.mem_map.mp an) ?_;intro y aQ u;subst u
    have:=y3 aQ
    simp only [List.length_cons,List.length_nil]
    exact QT fp this
  refine ua (TA (b:=b) (CQ:=aH false (m+4)) (n:=21) (m:=m) (t:=t) (u:=u) (per:=per) aG _ (found:=[]) (va:=au k) (aa:=.aF []) (ia:=.V []) (sa:=bT k hd [] [] false) (x0:=bT k hd [] [] false) (j:=j) (fuel:=999999) rfl ok (by refine B iq ?_;simp only [List.length_nil];exact Xq fp) (by refine B iq ?_;simp only [List.length_cons,List.length_nil];exact L1 fp) (by refine B iq ?_;exact Ui fp)) ?_;intro qJ p9 pJ p5 qg ho bQ
  replace bQ:=hO▸bQ
  refine cM _ (oI (m:=999999) nK ak bQ) ?_ rfl
  refine B Bx ?_
  show some (cf.aD (.am (bT k hd [] [] false::[]++pY _)))=_
  unfold pY
  refine B (List.flatMap_map _ _ _) ?_;rfl
end
end Mine
end
section
open PySem
namespace Mine
theorem Ue:ds "turned"=some (aI 24):=by kernel_rfl
theorem Oo:ds "lay"=some (aI 41):=by kernel_rfl
theorem QS:ds "is_count"=some (aI 34):=by kernel_rfl
theorem KL:ds "page_spots"=some (aI 31):=by kernel_rfl
section
variable{b:Bool} {C CQ:cs} {n:Nat} {J aW:Scope} {fs fs₁ fs₂ fs':X} {R:bk} {o:Option (bE×X)} {p:Pos} {m:Nat} {t u:Nat} {per:List H} {tab bL:List (al×H)}
theorem h4 {elt iter:Expr} {x:Str} {px:Pos} {ifs:List Expr} {items cj:List H} (h:hv (aJ b C CQ n J) J iter fs=some (items,fs₁)) (M:items.length<=a4) (O:(aW.names.lookup x==some .local&&nZ J aW)=true) (Y:gd (aJ b C CQ n aW) x ifs elt items {fs₁ with loc:=mh aW fs₁.loc}=some (cj,fs₂)):
  (aJ b C CQ (n+1) J).ba (.ListComp elt [⟨.Name x px,iter,ifs,0⟩] aW p) fs=some (.own (.am cj),{fs₁ with per:=fs₂.per}):=bq rfl (bd h (cQ (Bool.and_eq_true_iff.mpr ⟨decide_eq_true M,O⟩) (bd Y rfl)))
theorem set_set {x:Str} {v w:cf}:∀{l:List (Str×cf)},bY x v (bY x w l)=bY x v l
 |[]=>by simp [bY]
 |(y,z)::r=>by
  by_cases e:x=y
  ·subst e;simp [bY]
  ·have M:bY x w ((y,z)::r)=(y,z)::bY x w r:=by show(if x=y then _ else _)=_;(refine B (if_neg e) ?_;rfl)
   have O:∀q,bY x v ((y,z)::q)=(y,z)::bY x v q:=fun q=>by show(if x=y then _ else _)=_;(refine B (if_neg e) ?_;rfl)
   (refine B M ?_;refine B (O _) ?_;refine B (O _) ?_;refine B set_set ?_;rfl)
theorem sQ {x:Str} {L:List (Str×cf)} {fs:X} (v:H) (aB:fs=⟨L,per⟩\/∃w,fs=⟨bY x w L,per⟩):({fs with loc:=bY x (.U v) fs.loc}:X)=⟨bY x (.U v) L,per⟩:=by
 rcases aB with rfl|⟨w,rfl⟩
 ·rfl
 ·exact congrArg (X.mk · per) set_set
theorem r2 {x:Str} {L:List (Str×cf)} {fs:X} {α:Type} {a:α} (aB:fs=⟨L,per⟩\/∃w,fs=⟨bY x w L,per⟩):∃l,some (a,fs)=some (a,(⟨l,per⟩:X)):=by
 rcases aB with rfl|⟨w,rfl⟩<;>exact⟨_,rfl⟩
theorem uK {elt:Expr} {x:Str} {L:List (Str×cf)} {f:H->H} {items:List H}:∀{fs:X},(∀v∈items,dY R elt ⟨bY x (.U v) L,per⟩=some (f v,⟨bY x (.U v) L,per⟩))->(fs=⟨L,per⟩\/∃w,fs=⟨bY x w L,per⟩)->∃l,gd R x [] elt items fs=some (items.map f,⟨l,per⟩):=by
 induction items with
 |nil=>exact fun _ aB=>r2 aB
 |cons v r ih=>exact fun h aB=>(ih (fun y aQ=>h y (List.mem_cons_of_mem _ aQ)) (.inr ⟨.U v,rfl⟩)).elim fun l e=>⟨l,bd rfl (bd ((congrArg (dY R elt) (sQ v aB)).trans (h v List.mem_cons_self)) (bd e rfl))⟩
theorem wr {elt:Expr} {x:Str} {v y:H} {t cj:List H} (M:dY R elt {fs with loc:=bY x (.U v) fs.loc}=some (y,fs₁)) (O:gd R x [] elt t fs₁=some (cj,fs₂)):gd R x [] elt (v::t) fs=some (y::cj,fs₂):=bd rfl (bd M (bd O rfl))
theorem yc {elt c:Expr} {x:Str} {L:List (Str×cf)} {f:H->H} {q:H->Bool} {items:List H}:∀{fs:X},(∀v∈items,R.dF c ⟨bY x (.U v) L,per⟩=some (q v,⟨bY x (.U v) L,per⟩))->(∀v∈items,q v=true->dY R elt ⟨bY x (.U v) L,per⟩=some (f v,⟨bY x (.U v) L,per⟩))->
  (fs=⟨L,per⟩\/∃w,fs=⟨bY x w L,per⟩)->∃l,gd R x [c] elt items fs=some ((items.filter q).map f,⟨l,per⟩):=by
 induction items with
 |nil=>exact fun _ _ aB=>r2 aB
 |cons v r ih=>
  intro fs aA h aB
  refine(ih (fun y aQ=>aA y (List.mem_cons_of_mem _ aQ)) (fun y aQ=>h y (List.mem_cons_of_mem _ aQ)) (.inr ⟨.U v,rfl⟩)).elim fun l e=>⟨l,bd ((congrArg (R.dF c) (sQ v aB)).trans (aA v List.mem_cons_self)) ?_⟩
  cases ay:q v with
  |true=>exact bd (h v List.mem_cons_self ay) (bd e (by refine B (List.filter_cons_of_pos ay) ?_;rfl))
  |false=>exact e.trans (by(refine B (List.filter_cons_of_neg (by rw [ay];decide)) ?_;rfl))
theorem G3 {k:Int} {v:H} (aG:per[t]? =some (.V tab)) (aq:tab.length<=a4):aH b (m+2) "lay" [bB t u,au k,v] per=some (.ret (.U .none),per.set t (.V (cU (.int k) (.aF [.int 0,v]) tab))):=by
 refine c6 Oo ?_
 apply u3 rfl
 ·exact aO (nG (dZ rfl rfl rfl rfl rfl (Jy aG aq))) rfl
 ·rfl
theorem AE {e:Expr} {z:Bool} (h:R.ba e fs=some (.U (.bool z),fs₁)):nR R [e] fs=some (z,fs₁):=bd h (bq rfl (bq rfl (ej (by simp) rfl)))
theorem xj {e cg:Expr} {l:List Expr} {o:Option (Bool×X)} (h:R.ba e fs=some (.U (.bool true),fs₁)) (O:nR R (cg::l) fs₁=o):nR R (e::cg::l) fs=o:=bd h (bq rfl (bq rfl O))
theorem FT {i:Int}:aH b (m+1) "is_count" [.int i] per=some (.ret (.U (.bool (decide (0<=i)))),per):=by
 refine c6 QS ?_
 apply dp rfl
 ·exact cu (dD (bd (xj rfl (xj rfl (AE rfl))) rfl) rfl)
 ·rfl
noncomputable def kp (d:List (al×H)) (q:al×H):List (al×H):=if fG q.2 then hZ q.1 d else cU q.1 q.2 d
noncomputable def h5 (hd ch:List (al×H)):List (al×H):=ch.foldl kp hd
theorem BQ {k:al}:∀{l:List (al×H)},(hZ k l).length<=l.length
 |[]=>Nat.le_refl _
 |(y,w)::r=>by
  unfold hZ
  split
  ·simp
  ·have:=BQ (k:=k) (l:=r);simp only [List.length_cons];exact P4 this
theorem DJ {d:List (al×H)} {q:al×H}:(kp d q).length<=d.length+1:=by
 unfold kp;split
 ·have:=BQ (k:=q.1) (l:=d);exact KY this
 ·exact pP
noncomputable def mY (hd ch d:List (al×H)) (k:Str) (per:List H):X:=⟨[("head",.U (.V hd)),("changes",.U (.V ch)),("found",.aD (.V d)),("key",.U (.str k))],per⟩
theorem Hg {hd ch d:List (al×H)} {k:Str} {v:H} (bi:a9 (.str k) ch=some v) (ay:iI v=true) (aq:d.length<=a4):
  cO (aJ b C CQ (n+14) (bN (aI 24))) (d5 (ce (aI 24) 1)) (mY hd ch d k per)=some (.next,mY hd ch (kp d (.str k,v)) k per):=by
 have j6:∀{N hp hy ir},(aJ b C CQ (N+3) (bN (aI 24))).ba (.Subscript (.Name "changes" hp) (.Name "key" hy) ir) (mY hd ch d k per)=some (.U v,mY hd ch d k per):=fun{N hp hy ir}=>by
  exact f6 rfl rfl rfl rfl (bq rfl bi)
 cases aE:fG v with
 |true=>
  have e:kp d (.str k,v)=hZ (.str k) d:=by unfold kp;(refine B (if_pos aE) ?_;rfl)
  refine B e ?_
  exact aO (co true (cR j6 rfl (uA ay) rfl (x:=true) (by show some (fG v)=_;(refine B aE ?_;rfl)) rfl) (aO (nG (f8 rfl rfl (Ic (kk:=.str k) (l:=d) rfl rfl rfl rfl aq))) rfl)) rfl
 |false=>
  have e:kp d (.str k,v)=cU (.str k) v d:=by unfold kp;(refine B (if_neg (by rw [aE];decide)) ?_;rfl)
  refine B e ?_
  exact aO (co false (cR j6 rfl (uA ay) rfl (x:=false) (by show some (fG v)=_;(refine B aE ?_;rfl)) rfl) (aO (gP (v:=v) (k:=.str k) (r:=.var "found") (du j6 rfl) rfl rfl (jh (l:=d) rfl rfl aq)) rfl)) rfl
end
end Mine
end
section
open PySem
namespace Mine
theorem OW:ds "fields_of"=some (aI 30):=by kernel_rfl
theorem Pl:ds "pages"=some (aI 32):=by kernel_rfl
section
variable{b:Bool} {C CQ:cs} {n:Nat} {J aW:Scope} {fs fs₁ fs₂ fs':X} {R:bk} {o:Option (bE×X)} {p:Pos} {m:Nat} {t u:Nat} {per:List H} {tab bL:List (al×H)}
theorem zI {k:al} {v:H}:∀{l:List (al×H)},(l.map (·.1)).Nodup->(k,v)∈l->a9 k l=some v
 |(y,w)::r,aE,h=>by
  refine cl (List.nodup_cons.mp aE) ?_;intro M O
  unfold a9
  rcases List.mem_cons.mp h with e|h
  ·cases e;(refine B (if_pos rfl) ?_;rfl)
  ·refine B (if_neg (fun e=>M (by rw [<-e];exact List.mem_map.mpr ⟨_,h,rfl⟩))) ?_
   exact zI O h
structure rC (ch:List (al×H)):Prop where
 str:∀q∈ch,∃k,q.1=.str k/\iI q.2=true
 ev:(ch.map (·.1)).Nodup
theorem Et {hd ch:List (al×H)} (hc:rC ch):∀{l d:List (al×H)} {k:Str},(∀q∈l,q∈ch)->d.length+l.length<1000->
  ∃cS,f5 (aJ b C CQ (n+14) (bN (aI 24))) (bN (aI 24)) "key" (d5 (ce (aI 24) 1)) (l.map fun p=>p4 p.1) (mY hd ch d k per)=some (.next,mY hd ch (l.foldl kp d) cS per)
 |[],d,k,_,_=>⟨k,rfl⟩
 |(key,v)::l,d,k,aY,aq=>by
  refine bb (hc.str _ (aY _ List.mem_cons_self)) ?_;intro s hs ay
  dsimp only at hs ay
  subst hs
  have bC:=DJ (d:=d) (q:=(.str s,v))
  simp only [List.length_cons] at aq
  refine bS (Et (hd:=hd) hc (l:=l) (d:=kp d (.str s,v)) (k:=s) (fun q aA=>aY q (List.mem_cons_of_mem _ aA)) (by exact Az aq bC)) ?_;intro cS e
  exact⟨cS,fM (fs₁:=mY hd ch d s per) rfl (Hg (zI hc.ev (aY _ List.mem_cons_self)) ay (by unfold a4;exact W6 aq)) e⟩
theorem sj {hd ch:List (al×H)} (hc:rC ch) (aq:hd.length+ch.length<900):aH b (m+1) "turned" [.V hd,.V ch] per=some (.ret (.own (.V (h5 hd ch))),per):=by
 refine c6 Ue ?_
 have aL:gC "dict" (.V hd)=some (.own (.V hd)):=Cf (by unfold a4;exact SL aq)
 have start:∀fs',f5 (aJ b (aH b m) (aH false m) 39 (bN (aI 24))) (bN (aI 24)) "key" (d5 (ce (aI 24) 1)) (ch.map fun p=>p4 p.1) ⟨[("head",.U (.V hd)),("changes",.U (.V ch)),("found",.aD (.V hd))],per⟩=some (.next,fs')->getL "found" fs'.loc=some (.aD (.V (h5 hd ch)))->fs'.per=per->
   jR b (aH b m) (aH false m) (aI 24) [.V hd,.V ch] per=some (.ret (.own (.V (h5 hd ch))),per):=fun fs' w8 mN qP=>by
  apply dp rfl
  ·refine aO (fB (kA rfl (by decide+kernel) (by decide+kernel) rfl rfl rfl aL) rfl) ?_
   refine aO (g6 (NI rfl (du (r:=.U (.V ch)) rfl rfl)) w8) ?_
   exact cu (sy rfl (by decide+kernel) mN)
  ·exact qP
 cases ch with
 |nil=>exact start _ rfl rfl rfl
 |cons q r=>
  obtain⟨key,v⟩:=q
  refine bb (hc.str _ List.mem_cons_self) ?_;intro s hs ay
  dsimp only at hs ay
  subst hs
  have bC:=DJ (d:=hd) (q:=(.str s,v))
  simp only [List.length_cons] at aq
  refine bS (Et (b:=b) (C:=aH b m) (CQ:=aH false m) (n:=25) (per:=per) (hd:=hd) hc (l:=r) (d:=kp hd (.str s,v)) (k:=s) (fun q aA=>List.mem_cons_of_mem _ aA) (by exact LX aq bC)) ?_;intro cS e
  exact start _ (fM (fs₁:=mY hd ((.str s,v)::r) hd s per) rfl (Hg (n:=25) (zI hc.ev List.mem_cons_self) ay (by unfold a4;exact Cm aq)) e) rfl rfl
noncomputable def x6:H->Bool
 |.dS _ l=>match iO "is_page" l with|some (.bool x)=>x|_=>false
 |_=>false
noncomputable def ei (x:bO):List H:=(dL [] x).filter x6
theorem p6:∀(x:bO) (ab:List H),∀v∈dL ab x,∃k hd ab' inh pg,v=bT k hd ab' inh pg:=by
 intro x
 induction x using bO.rec (motive_2:=fun l=>∀ab,∀v∈iw ab l,∃k hd ab' inh pg,v=bT k hd ab' inh pg) with
 |leaf k hd=>intro ab v ay;unfold dL at ay;exact⟨_,_,_,_,_,List.mem_singleton.mp ay⟩
 |node k hd kids ih=>
  intro ab v ay
  unfold dL at ay
  rcases List.mem_cons.mp ay with rfl|ay
  ·exact⟨_,_,_,_,_,rfl⟩
  ·exact ih _ v ay
 |nil=>rename_i ab v ay;unfold iw at ay;cases ay
 |cons x r zT zY=>
  rename_i ab v ay
  unfold iw at ay
  rcases List.mem_append.mp ay with ay|ay
  ·exact zT _ v ay
  ·exact zY _ v ay
theorem vz:∀(x:bO) (ab:List H),(dL ab x).length=x.da.length:=by
 intro x
 induction x using bO.rec (motive_2:=fun l=>∀ab,(iw ab l).length=(bO.j8 l).length) with
 |leaf k hd=>intro ab;unfold dL bO.da;rfl
 |node k hd kids ih=>intro ab;unfold dL bO.da;(refine B List.length_cons ?_;refine B List.length_cons ?_;refine B (ih _) ?_;rfl)
 |nil=>unfold iw bO.j8;rfl
 |cons x r zT zY=>rename_i ab;unfold iw bO.j8;(refine B List.length_append ?_;refine B List.length_append ?_;refine B (zT _) ?_;refine B (zY _) ?_;rfl)
theorem Ot {x:bO} (aG:per[t]? =some (.V tab)) (b2:per[u]? =some (.V bL)) (ae:kR tab bL x):aH b (m+6) "page_spots" [bB t u] per=some (.ret (.own (.am (ei x))),per):=by
 refine c6 KL ?_
 obtain⟨l,e⟩:=yc (R:=aJ b (aH b (m+5)) (aH false (m+5)) 38 (it (eo (ce (aI 31) 0) []))) (per:=per)
  (elt:=eo (ce (aI 31) 0) [0]) (c:=eo (ce (aI 31) 0) [2]) (x:="spot") (L:=[]) (f:=fun v=>v) (q:=x6) (items:=dL [] x) (fs:=⟨[],per⟩)
  (fun v ay=>by obtain⟨k,hd,ab',inh,pg,rfl⟩:=p6 x [] v ay;cases pg<;>rfl) (fun v ay _=>by obtain⟨k,hd,ab',inh,pg,rfl⟩:=p6 x [] v ay;rfl) (.inl rfl)
 replace e:=(List.map_id' _)▸e
 apply dp rfl
 ·exact cu (dD (h4 (gY rfl (du (eR rfl (by decide+kernel) (by decide+kernel) (by decide+kernel) (by decide+kernel) rfl (by decide+kernel) rfl (t7 aG b2 ae)) rfl)) (by refine B (vz _ _) ?_;have:=ae.fu;unfold a4;exact zx this) rfl e) rfl)
 ·rfl
end
end Mine
end
section
open PySem
namespace Mine
section
variable{b:Bool} {C CQ:cs} {n:Nat} {J aW:Scope} {fs fs₁ fs₂ fs':X} {R:bk} {o:Option (bE×X)} {p:Pos} {m:Nat} {t u:Nat} {per:List H} {tab bL:List (al×H)}
theorem uJ {hd g:List (al×H)} {k j:Str}:a9 (.str j) (fN hd g k)=if j=k then(match a9 (.str k) hd with|some v=>some v|none=>a9 (.str j) g) else a9 (.str j) g:=by
 unfold fN
 cases h:a9 (.str k) hd with
 |none=>by_cases e:j=k<;>simp [e]
 |some v=>
  dsimp only [kJ,kX,kN,kP,kG,kU,kK,k7]
  refine B gU ?_
  by_cases e:j=k
  ·subst e;simp
  ·(refine B (if_neg (fun q=>e (by injection q))) ?_;refine B (if_neg e) ?_;rfl)
theorem zM {hd:List (al×H)} {k:Str} (ag:k∈fV):a9 (.str k) (er hd)=a9 (.str k) hd:=by
 unfold er
 simp only [fV,List.mem_cons,List.not_mem_nil,or_false] at ag
 rcases ag with rfl|rfl|rfl|rfl<;>
 ·(refine B uJ ?_;refine B uJ ?_;refine B uJ ?_;refine B uJ ?_)
  simp only [vA,String.reduceEq,if_true,if_false,a9]
  split<;>simp_all
noncomputable def Gq (t u:Nat) (sp:H) (d:List (al×H)) (k:Str) (per:List H):X:=⟨[("shelf",.U (bB t u)),("spot",.U sp),("found",.aD (.V d)),("key",.U (.str k))],per⟩
theorem vm {k0:Int} {hd:List (al×H)} {ab:List H} {pg:Bool} {k:Str} (aG:per[t]? =some (.V tab)) (ag:k∈fV) (an:∀v,a9 (.str k) hd=some v->qj v):
  cO (aJ b (aH b (m+2)) CQ (n+16) (bN (aI 30))) (d5 (ce (aI 30) 1)) (Gq t u (bT k0 hd ab (er hd) pg) hd k per)=some (.next,Gq t u (bT k0 hd ab (er hd) pg) hd k per):=by
 cases bi:a9 (.str k) hd with
 |none=>exact aO (co false (oK (cR rfl rfl rfl rfl (sT (kk:=.str k) rfl (by(refine B (zM ag) ?_;refine B bi ?_);rfl)) rfl)) rfl) rfl
 |some v=>
  refine cl (an v bi) ?_;intro M O
  exact aO (co false (kB (cR rfl rfl rfl rfl (sT (kk:=.str k) rfl (by(refine B (zM ag) ?_;refine B bi ?_);rfl)) rfl) (cR (dZ rfl rfl rfl rfl rfl (kE aG (v:=v) (by refine B bi ?_;rfl) (.hM M))) rfl (qq M) rfl (x:=false) (by show some (fG v)=_;(refine B O ?_;rfl)) rfl)) rfl) rfl
theorem BI {k0:Int} {hd:List (al×H)} {ab:List H} {pg:Bool} (aG:per[t]? =some (.V tab)) (an:∀k∈fV,∀v,a9 (.str k) hd=some v->qj v) (aq:hd.length<=a4):
  aH b (m+3) "fields_of" [bB t u,bT k0 hd ab (er hd) pg] per=some (.ret (.own (.V hd)),per):=by
 have d3:=vm (b:=b) (CQ:=aH false (m+2)) (n:=23) (m:=m) (u:=u) (k0:=k0) (ab:=ab) (pg:=pg) (k:="Resources") aG (by simp [fV]) (an _ (by simp [fV]))
 have dR:=vm (b:=b) (CQ:=aH false (m+2)) (n:=23) (m:=m) (u:=u) (k0:=k0) (ab:=ab) (pg:=pg) (k:="MediaBox") aG (by simp [fV]) (an _ (by simp [fV]))
 have fP:=vm (b:=b) (CQ:=aH false (m+2)) (n:=23) (m:=m) (u:=u) (k0:=k0) (ab:=ab) (pg:=pg) (k:="CropBox") aG (by simp [fV]) (an _ (by simp [fV]))
 have i2:=vm (b:=b) (CQ:=aH false (m+2)) (n:=23) (m:=m) (u:=u) (k0:=k0) (ab:=ab) (pg:=pg) (k:="Rotate") aG (by simp [fV]) (an _ (by simp [fV]))
 refine c6 OW ?_
 apply dp rfl
 ·refine aO (fB (kA rfl (by decide+kernel) (by decide+kernel) rfl rfl rfl (Cf aq)) rfl) ?_
  refine aO (g6 rfl (fM rfl d3 (fM rfl dR (fM rfl fP (fM rfl i2 rfl))))) ?_
  exact cu (dD rfl rfl)
 ·rfl
theorem w3:ds "is_parent"=some (aI 38):=by kernel_rfl
theorem K6 {k0:Int} {hd inh:List (al×H)} {pg:Bool} {v:H} (bi:(a9 (.str "Parent") hd).getD .none=v) (ay:iI v=true):aH b (m+1) "is_parent" [bT k0 hd [] inh pg] per=some (.ret (.U (.bool (fG v))),per):=by
 refine c6 w3 ?_
 apply dp rfl
 ·refine aO (dc (f8 rfl rfl (nw (kk:=.str "Parent") (l:=hd) (x:=v) rfl rfl rfl rfl bi)) rfl) ?_
  refine cu (co true (cR rfl rfl rfl rfl rfl rfl) (cu (dD (xw rfl rfl (uA ay) rfl rfl) rfl)))
 ·rfl
theorem HC {k0 j:Int} {hd inh:List (al×H)} {ab:List H} {pg:Bool} (bA:ab.length<900) (bi:(a9 (.str "Parent") hd).getD .none=.none):aH b (m+2) "is_parent" [bT k0 hd (ab++[au j]) inh pg] per=some (.ret (.U (.bool false)),per):=by
 refine c6 w3 ?_
 have b1:eF .Eq (.aF (ab++[au j])) (.aF [])=some false:=by
  cases ab<;>rfl
 apply dp rfl
 ·refine aO (dc (f8 rfl rfl (nw (kk:=.str "Parent") (l:=hd) (x:=.none) rfl rfl rfl rfl bi)) rfl) ?_
  refine aO (co false (cR rfl rfl rfl rfl b1 rfl) rfl) ?_
  exact cu (dD rfl rfl)
 ·rfl
theorem Ca {x y:Expr} {z:Bool} (M:(aJ b C CQ n J).ba x fs=some (.U (.bool true),fs₁)) (O:(aJ b C CQ n J).ba y fs₁=some (.U (.bool z),fs₂)):(aJ b C CQ (n+1) J).ba (.BoolOp .And [x,y] p) fs=some (.U (.bool z),fs₂):=bd (xj M (AE O)) rfl
theorem yJ {ab:List H} {v:H}:ox (.aF (ab++[v])) (.int (-1))=some v:=by
 have O:ko (-1) (ab++[v]).length=some ab.length:=by
  refine B List.length_append ?_
  exact ej (by decide) (cQ (show(0:Int)<= -1+((ab.length+1:Nat):Int) by exact km) (congrArg some (show(-1+((ab.length+1:Nat):Int)).toNat=_ by exact nT)))
 have Y:q9 (ab++[v]) (.int (-1))=br (ko (-1) (ab++[v]).length) fun j=>(ab++[v])[j]? :=rfl
 exact Y.trans (bq O List.getElem?_concat_length)
theorem CE {i j:Int}:eF .Eq (.aF [.int i,.int 0]) (.aF [.int j,.int 0])=some (decide (i=j)):=by
 show some ((i==j)&&(((0:Int)==0)&&true))=_
 by_cases h:i=j<;>simp [h]
theorem UV {k0 i j:Int} {hd inh:List (al×H)} {ab:List H} {pg:Bool} (bi:(a9 (.str "Parent") hd).getD .none=au i):aH b (m+2) "is_parent" [bT k0 hd (ab++[au j]) inh pg] per=some (.ret (.U (.bool (decide (i=j)))),per):=by
 refine c6 w3 ?_
 have b1:eF .Eq (.aF (ab++[au j])) (.aF [])=some false:=by
  cases ab<;>rfl
 apply dp rfl
 ·refine aO (dc (f8 rfl rfl (nw (kk:=.str "Parent") (l:=hd) (x:=au i) rfl rfl rfl rfl bi)) rfl) ?_
  refine aO (co false (cR rfl rfl rfl rfl b1 rfl) rfl) ?_
  exact cu (dD (Ca rfl (xw (dZ rfl rfl rfl rfl rfl m8) (dZ (l:=[("number",.int j),("generation",.int 0)]) rfl (f6 rfl rfl rfl rfl yJ) rfl rfl rfl m8) rfl rfl CE)) rfl)
 ·rfl
end
end Mine
end
section
open PySem
namespace Mine
theorem Vc:ds "counts_of"=some (aI 37):=by kernel_rfl
structure cP where
 k:Int
 hd:List (al×H)
 ab:List Int
 inh:List (al×H)
 pg:Bool
noncomputable def cP.v (s:cP):H:=bT s.k s.hd (s.ab.map au) s.inh s.pg
noncomputable def gF (d:List (al×H)) (k:Int):List (al×H):=match a9 (.int k) d with
 |some (.int c)=>cU (.int k) (.int (c+1)) d
 |_=>d
noncomputable def hq (d:List (al×H)) (s:cP):List (al×H):=cU (.int s.k) (.int (if s.pg then 1 else 0)) d
noncomputable def jg (d:List (al×H)) (s:cP):List (al×H):=if s.pg then s.ab.foldl gF d else d
noncomputable def gw (d:List (al×H)) (k:Int):Prop:=∃c,a9 (.int k) d=some (.int c)
theorem gw.tX {d:List (al×H)} {k j:Int} (h:gw d j):gw (gF d k) j:=by
 refine bS h ?_;clear h;intro c hc
 unfold gF
 split
 ·unfold gw
  refine B gU ?_
  by_cases e:al.int j=al.int k
  ·refine B (if_pos e) ?_;exact⟨_,rfl⟩
  ·refine B (if_neg e) ?_;exact⟨c,hc⟩
 ·exact⟨c,hc⟩
theorem ys {d:List (al×H)} {k:Int} (h:gw d k):(gF d k).length=d.length:=by
 refine bS h ?_;clear h;intro c hc
 unfold gF
 refine B hc ?_
 dsimp only [kJ,kX,kN,kP,kG,kU,kK,k7]
 have:∀{l:List (al×H)} {v:H},(a9 (.int k) l).isSome=true->(cU (.int k) v l).length=l.length:=by
  intro l v
  induction l with
  |nil=>intro h;cases h
  |cons p r ih=>
   obtain⟨y,w⟩:=p
   intro h
   unfold cU
   unfold a9 at h
   by_cases e:al.int k=y
   ·refine B (if_pos e) ?_;rfl
   ·rw [if_neg e] at h|-
    simp [ih h]
 exact this (by refine B hc ?_;rfl)
section
variable{b:Bool} {C CQ:cs} {n:Nat} {J aW:Scope} {fs fs₁ fs₂ fs':X} {R:bk} {o:Option (bE×X)} {p:Pos} {m:Nat} {t u:Nat} {per:List H} {tab bL:List (al×H)}
noncomputable def kt (found:List H) (d:List (al×H)) (s:H) (per:List H):X:=⟨[("found",.U (.am found)),("counts",.aD (.V d)),("spot",.U s)],per⟩
noncomputable def jd (found:List H) (d:List (al×H)) (s nd:H) (per:List H):X:=⟨[("found",.U (.am found)),("counts",.aD (.V d)),("spot",.U s),("node",.U nd)],per⟩
noncomputable def DB:List Stmt:=d5 (iJ (d5 (iJ (d5 (ce (aI 37) 2)) 0)) 0)
theorem AH {found:List H} {d:List (al×H)} {s:cP} (aq:d.length<1000):cO (aJ b C CQ (n+16) (bN (aI 37))) (d5 (ce (aI 37) 1)) (kt found d s.v per)=some (.next,kt found (hq d s) s.v per):=by
 obtain⟨k,hd,ab,inh,pg⟩:=s
 cases pg
 ·exact aO (gP (v:=.int 0) (k:=.int k) (r:=.var "counts") rfl rfl rfl (jh (l:=d) rfl rfl (by unfold a4;exact mJ aq))) rfl
 ·exact aO (gP (v:=.int 1) (k:=.int k) (r:=.var "counts") rfl rfl rfl (jh (l:=d) rfl rfl (by unfold a4;exact mJ aq))) rfl
theorem Cy {found:List H} {d:List (al×H)} {s:H} {k:Int} (aq:d.length<1000) (h:gw d k):cO (aJ b C CQ (n+14) (bN (aI 37))) DB (jd found d s (au k) per)=some (.next,jd found (gF d k) s (au k) per):=by
 refine bS h ?_;clear h;intro c hc
 have e:gF d k=cU (.int k) (.int (c+1)) d:=by unfold gF;(refine B hc ?_;rfl)
 refine B e ?_
 have j6:∀{N hp hy ir j7 a},a=("number":Str)->(aJ b C CQ (N+4) (bN (aI 37))).ba (.Subscript (.Name "counts" hp) (.Attribute (.Name "node" hy) a ir) j7) (jd found d s (au k) per)=some (.U (.int c),jd found d s (au k) per):=fun{N hp hy ir j7 a} bA=>by
  subst bA
  exact f6 rfl rfl rfl rfl (bq rfl hc)
 exact aO (gP (v:=.int (c+1)) (k:=.int k) (r:=.var "counts") (du (dB (j6 rfl) rfl rfl rfl rfl) rfl) rfl rfl (jh (l:=d) rfl rfl (by unfold a4;exact mJ aq))) rfl
theorem wA {found:List H} {s:H}:∀{ks:List Int} {d:List (al×H)} {nd:H},d.length<1000->(∀k∈ks,gw d k)->∃j9,f5 (aJ b C CQ (n+14) (bN (aI 37))) (bN (aI 37)) "node" DB (ks.map au) (jd found d s nd per)=some (.next,jd found (ks.foldl gF d) s j9 per)
 |[],d,nd,_,_=>⟨nd,rfl⟩
 |k::ks,d,nd,aq,h=>by
  refine bS (wA (found:=found) (s:=s) (ks:=ks) (d:=gF d k) (nd:=au k) (by refine B (ys (h k List.mem_cons_self)) ?_;exact aq) (fun j bF=>(h j (List.mem_cons_of_mem _ bF)).tX)) ?_;intro j9 e
  exact⟨j9,fM (fs₁:=jd found d s (au k) per) rfl (Cy aq (h k List.mem_cons_self)) e⟩
theorem HH {ks:List Int}:∀{d:List (al×H)},(∀k∈ks,gw d k)->(ks.foldl gF d).length=d.length/\∀j,gw d j->gw (ks.foldl gF d) j:=by
 induction ks with
 |nil=>intro d _;exact⟨rfl,fun j h=>h⟩
 |cons k ks ih=>
  intro d h
  refine cl (ih (d:=gF d k) (fun j bF=>(h j (List.mem_cons_of_mem _ bF)).tX)) ?_;intro M O
  exact⟨M.trans (ys (h k List.mem_cons_self)),fun j bF=>O j bF.tX⟩
theorem Iy {d:List (al×H)} {s:cP} (h:∀k∈s.ab,gw d k):(jg d s).length=d.length/\∀j,gw d j->gw (jg d s) j:=by
 unfold jg
 split
 ·exact HH h
 ·exact⟨rfl,fun j h=>h⟩
theorem Nb {found:List H} {d:List (al×H)} {s:cP} {nd:H} (aq:d.length<1000) (h:∀k∈s.ab,gw d k):∃j9,cO (aJ b C CQ (n+16) (bN (aI 37))) (d5 (ce (aI 37) 2)) (jd found d s.v nd per)=some (.next,jd found (jg d s) s.v j9 per):=by
 obtain⟨k,hd,ab,inh,pg⟩:=s
 cases pg
 ·exact⟨nd,aO (co false rfl rfl) rfl⟩
 ·refine bS (wA (b:=b) (C:=C) (CQ:=CQ) (n:=n) (per:=per) (found:=found) (s:=bT k hd (ab.map au) inh true) (ks:=ab) (d:=d) (nd:=nd) aq h) ?_;intro j9 e
  exact⟨j9,aO (co true rfl (aO (g6 rfl e) rfl)) rfl⟩
end
end Mine
end
section
open PySem
namespace Mine
section
variable{b:Bool} {C CQ:cs} {n:Nat} {J aW:Scope} {fs fs₁ fs₂ fs':X} {R:bk} {o:Option (bE×X)} {p:Pos} {m:Nat} {t u:Nat} {per:List H} {tab bL:List (al×H)}
theorem IN {found:List H} {d:List (al×H)} {s:cP} (aq:d.length<1000) (h:∀k∈s.ab,gw d k):∃fs',cO (aJ b C CQ (n+16) (bN (aI 37))) (d5 (ce (aI 37) 2)) (kt found d s.v per)=some (.next,fs')/\
  (fs'=kt found (jg d s) s.v per\/∃nd,fs'=jd found (jg d s) s.v nd per):=by
 obtain⟨k,hd,ab,inh,pg⟩:=s
 cases pg
 ·exact⟨_,aO (co false rfl rfl) rfl,.inl rfl⟩
 ·cases ab with
  |nil=>exact⟨_,aO (co true rfl (aO (g6 rfl rfl) rfl)) rfl,.inl rfl⟩
  |cons k0 ks=>
   refine bS (wA (b:=b) (C:=C) (CQ:=CQ) (n:=n) (per:=per) (found:=found) (s:=bT k hd ((k0::ks).map au) inh true) (ks:=ks) (d:=gF d k0) (nd:=au k0) (by refine B (ys (h k0 List.mem_cons_self)) ?_;exact aq) (fun j bF=>(h j (List.mem_cons_of_mem _ bF)).tX)) ?_;intro j9 e
   exact⟨_,aO (co true rfl (aO (g6 rfl (fM (fs₁:=jd found d (bT k hd ((k0::ks).map au) inh true) (au k0) per) rfl (Cy aq (h k0 List.mem_cons_self)) e)) rfl)) rfl,.inr ⟨j9,rfl⟩⟩
noncomputable def zy (fs:X) (found:List H) (d:List (al×H)) (s:H) (per:List H):Prop:=fs=kt found d s per\/∃nd,fs=jd found d s nd per
theorem FE {found:List H}:∀{l:List cP} {d:List (al×H)} {s:H} {fs:X},d.length<1000->(∀x∈l,∀k∈x.ab,gw d k)->zy fs found d s per->
  ∃fs' az,f5 (aJ b C CQ (n+16) (bN (aI 37))) (bN (aI 37)) "spot" (d5 (ce (aI 37) 2)) (l.map cP.v) fs=some (.next,fs')/\zy fs' found (l.foldl jg d) az per
 |[],d,s,fs,_,_,h=>⟨fs,s,rfl,h⟩
 |x::l,d,s,fs,aq,bx,h=>by
  refine cl (Iy (bx x List.mem_cons_self)) ?_;intro ey eC
  have step:∃fs₁ fs₂,eQ (bN (aI 37)) "spot" (.U x.v) fs=some fs₁/\cO (aJ b C CQ (n+16) (bN (aI 37))) (d5 (ce (aI 37) 2)) fs₁=some (.next,fs₂)/\zy fs₂ found (jg d x) x.v per:=by
   rcases h with rfl|⟨nd,rfl⟩
   ·refine bb (IN (b:=b) (C:=C) (CQ:=CQ) (n:=n) (per:=per) (found:=found) (s:=x) aq (bx x List.mem_cons_self)) ?_;intro fs' ak ar
    exact⟨kt found d x.v per,fs',rfl,ak,ar⟩
   ·refine bS (Nb (b:=b) (C:=C) (CQ:=CQ) (n:=n) (per:=per) (found:=found) (s:=x) (nd:=nd) aq (bx x List.mem_cons_self)) ?_;intro j9 ak
    exact⟨jd found d x.v nd per,_,rfl,ak,.inr ⟨j9,rfl⟩⟩
  refine dP step ?_;clear step;intro fs₁ fs₂ ak ar bQ
  refine hw (FE (l:=l) (d:=jg d x) (s:=x.v) (fs:=fs₂) (by refine B ey ?_;exact aq) (fun y aQ k ag=>eC k (bx y (List.mem_cons_of_mem _ aQ) k ag)) bQ) ?_;intro fs' az cX dn
  exact⟨fs',az,fM ak ar cX,dn⟩
theorem xb {d:List (al×H)} {s:cP}:(hq d s).length<=d.length+1:=pP
theorem Er {found:List H}:∀{l:List cP} {d:List (al×H)} {s:H},d.length+l.length<1000->∃az,f5 (aJ b C CQ (n+16) (bN (aI 37))) (bN (aI 37)) "spot" (d5 (ce (aI 37) 1)) (l.map cP.v) (kt found d s per)=some (.next,kt found (l.foldl hq d) az per)
 |[],d,s,_=>⟨s,rfl⟩
 |x::l,d,s,h=>by
  have:=xb (d:=d) (s:=x)
  simp only [List.length_cons] at h
  obtain⟨az,e⟩:=Er (l:=l) (d:=hq d x) (s:=x.v) (by exact Az h this)
  exact⟨az,fM (fs₁:=kt found d x.v per) rfl (AH (by exact xV h)) e⟩
noncomputable def nc (l:List cP):List (al×H):=l.foldl jg (l.foldl hq [])
theorem LN {l:List cP}:∀{d:List (al×H)},(l.foldl hq d).length<=d.length+l.length:=by
 induction l with
 |nil=>intro d;exact Nat.le_refl _
 |cons x l ih=>intro d;have:=xb (d:=d) (s:=x);have:=ih (d:=hq d x);simp only [List.foldl_cons,List.length_cons];exact WJ (by assumption) this
theorem Au {x:cP} {l:List cP} (aq:(x::l).length<900) (bx:∀y∈x::l,∀k∈y.ab,gw ((x::l).foldl hq []) k):aH b (m+1) "counts_of" [.am ((x::l).map cP.v)] per=some (.ret (.own (.V (nc (x::l)))),per):=by
 refine c6 Vc ?_
 simp only [List.length_cons] at aq
 refine bS (Er (b:=b) (C:=aH b m) (CQ:=aH false m) (n:=23) (per:=per) (found:=(x::l).map cP.v) (l:=l) (d:=hq [] x) (s:=x.v) (by have:=xb (d:=[]) (s:=x);simp only [List.length_nil] at this;exact LD aq this)) ?_;intro d3 ak
 have bC:=LN (l:=x::l) (d:=[])
 simp only [List.length_cons,List.length_nil] at bC
 refine hw (FE (b:=b) (C:=aH b m) (CQ:=aH false m) (n:=23) (per:=per) (found:=(x::l).map cP.v) (l:=x::l) (d:=(x::l).foldl hq []) (s:=d3) (fs:=kt ((x::l).map cP.v) ((x::l).foldl hq []) d3 per) (by exact OY aq bC) bx (.inl rfl)) ?_;intro fs' dR ar bQ
 have mN:getL "counts" fs'.loc=some (.aD (.V (nc (x::l)))):=by
  rcases bQ with rfl|⟨nd,rfl⟩<;>rfl
 have qP:fs'.per=per:=by
  rcases bQ with rfl|⟨nd,rfl⟩<;>rfl
 apply dp rfl
 ·refine aO (fB rfl rfl) ?_
  refine aO (g6 rfl (fM (fs₁:=kt ((x::l).map cP.v) [] x.v per) rfl (AH (n:=23) (by simp)) ak)) ?_
  refine aO (g6 (gY rfl (du (r:=.U (.am ((x::l).map cP.v))) rfl rfl)) ar) ?_
  exact cu (sy rfl (by decide+kernel) mN)
 ·exact qP
end
end Mine
end
section
open PySem
namespace Mine
theorem PF:ds "settle"=some (aI 40):=by kernel_rfl
noncomputable def kg (s:cP) (x:Option Int):Bool:=decide (x=s.ab.getLast?)
noncomputable def l7 (s:cP) (c:Int):Bool:=s.pg||(match a9 (.str "Count") s.hd with|some (.int d)=>d==c|_=>false)
noncomputable def hW (s:cP) (x:Option Int) (c:Int):List (al×H):=
 (if kg s x then [] else [(.str "Parent",match s.ab.getLast? with|some j=>au j|none=>.none)])++(if l7 s c then [] else [(.str "Count",.int c)])
structure m9 (s:cP) (x:Option Int):Prop where
 par:a9 (.str "Parent") s.hd=x.map au
 i3:s.ab=[]->x=none
 cnt:s.pg=false->a9 (.str "Count") s.hd=none\/∃c,a9 (.str "Count") s.hd=some (.int c)
 fu:s.hd.length<500/\s.ab.length<500
section
variable{b:Bool} {C CQ:cs} {n:Nat} {J aW:Scope} {fs fs₁ fs₂ fs':X} {R:bk} {o:Option (bE×X)} {p:Pos} {m:Nat} {t u:Nat} {per:List H} {tab bL:List (al×H)}
theorem E6 {s:cP} {x:Option Int} (h:m9 s x):aH b (m+2) "is_parent" [s.v] per=some (.ret (.U (.bool (kg s x))),per):=by
 obtain⟨k,hd,ab,inh,pg⟩:=s
 have an:=h.par
 dsimp only at an
 rcases List.eq_nil_or_concat ab with rfl|⟨ab',j,rfl⟩
 ·have ae:=h.i3 rfl
  subst ae
  exact K6 (v:=.none) (m:=m+1) (by refine B an ?_;rfl) rfl
 ·have e:kg ⟨k,hd,ab'++[j],inh,pg⟩ x=decide (x=some j):=by unfold kg;simp
  have ba:(⟨k,hd,ab'++[j],inh,pg⟩:cP).v=bT k hd (ab'.map au++[au j]) inh pg:=by unfold cP.v;simp
  (refine B List.concat_eq_append ?_;refine B e ?_;refine B ba ?_)
  cases x with
  |none=>exact HC (by have:=h.fu.2;simp at this|-;exact OK this) (by refine B an ?_;rfl)
  |some i=>
   have:=UV (b:=b) (m:=m) (per:=per) (k0:=k) (i:=i) (j:=j) (hd:=hd) (inh:=inh) (ab:=ab'.map au) (pg:=pg) (by refine B an ?_;rfl)
   refine B this ?_
   congr 5
   simp
noncomputable def iC (t u:Nat) (found:List H) (cts:List (al×H)) (s:H) (ch:cf) (per:List H):X:=
 ⟨[("shelf",.U (bB t u)),("found",.U (.am found)),("counts",.aD (.V cts)),("spot",.U s),("changes",ch)],per⟩
noncomputable def j1:List Stmt:=d5 (ce (aI 40) 2)
theorem It {found:List H} {cts:List (al×H)} {s:cP} {x:Option Int} (h:m9 s x):
  (aJ b (aH b (m+2)) CQ (n+20) (bN (aI 40))).de ((j1[1]?).getD default) (iC t u found cts s.v (.aD (.V [])) per)=
   some (.next,iC t u found cts s.v (.aD (.V (if kg s x then [] else [(.str "Parent",match s.ab.getLast? with|some j=>au j|none=>.none)]))) per):=by
 have an:=E6 (b:=b) (m:=m) (per:=per) h
 refine co (!kg s x) (je (jZ (eR rfl (by decide+kernel) (by decide+kernel) (by decide+kernel) (by decide+kernel) rfl (by decide+kernel) rfl an))) ?_
 cases ah:kg s x with
 |true=>rfl
 |false=>
  obtain⟨k,hd,ab,inh,pg⟩:=s
  rcases List.eq_nil_or_concat ab with rfl|⟨ab',j,rfl⟩
  ·have ae:=h.i3 rfl
   subst ae
   cases ah
  ·rw [List.concat_eq_append] at*
   have ba:(⟨k,hd,ab'++[j],inh,pg⟩:cP).v=bT k hd (ab'.map au++[au j]) inh pg:=by unfold cP.v;simp
   have fa:(ab'++[j]).getLast? =some j:=by simp
   dsimp only [kJ,kX,kN,kP,kG,kU,kK,k7]
   (refine B ba ?_;refine B fa ?_)
   have b1:eF .Eq (.aF (ab'.map au++[au j])) (.aF [])=some false:=by
    cases ab'<;>rfl
   exact aO (gP (v:=au j) (k:=.str "Parent") (r:=.var "changes") (du (mO false (cR rfl rfl rfl rfl b1 rfl) (f6 rfl rfl rfl rfl yJ)) rfl) rfl rfl (jh (l:=[]) rfl rfl (Nat.zero_le _))) rfl
end
end Mine
end
section
open PySem
namespace Mine
section
variable{b:Bool} {C CQ:cs} {n:Nat} {J aW:Scope} {fs fs₁ fs₂ fs':X} {R:bk} {o:Option (bE×X)} {p:Pos} {m:Nat} {t u:Nat} {per:List H} {tab bL:List (al×H)}
theorem pL {d:List (al×H)} {k:H} {kk:al} {v:H} (ag:gf k=some kk) (h:a9 kk d=some v):ox (.V d) k=some v:=bq ag h
theorem U9 {found:List H} {cts d1:List (al×H)} {s:cP} {x:Option Int} {c:Int} (aG:per[t]? =some (.V tab)) (h:m9 s x) (hc:a9 (.int s.k) cts=some (.int c)) (M:cU (.str "Count") (.int c) d1=d1++[(.str "Count",.int c)]) (O:d1.length<=1):
  (aJ b (aH b (m+2)) CQ (n+20) (bN (aI 40))).de ((j1[2]?).getD default) (iC t u found cts s.v (.aD (.V d1)) per)=
   some (.next,iC t u found cts s.v (.aD (.V (d1++(if l7 s c then [] else [(.str "Count",.int c)])))) per):=by
 obtain⟨k,hd,ab,inh,pg⟩:=s
 dsimp only at hc
 cases pg with
 |true=>
  have e:l7 ⟨k,hd,ab,inh,true⟩ c=true:=rfl
  (refine B e ?_;refine B (if_pos rfl) ?_;refine B (List.append_nil _) ?_)
  exact co false (oK rfl) rfl
 |false=>
  have cM:∀(v:H) (z:Bool),(a9 (.str "Count") hd).getD .none=v->gB v "Reference"=some false->eF .NotEq v (.int c)=some z->l7 ⟨k,hd,ab,inh,false⟩ c= !z->
    (aJ b (aH b (m+2)) CQ (n+20) (bN (aI 40))).de ((j1[2]?).getD default) (iC t u found cts (cP.v ⟨k,hd,ab,inh,false⟩) (.aD (.V d1)) per)=
    some (.next,iC t u found cts (cP.v ⟨k,hd,ab,inh,false⟩) (.aD (.V (d1++(if l7 ⟨k,hd,ab,inh,false⟩ c then [] else [(.str "Count",.int c)])))) per):=fun v z ak ar bQ cX=>by
   refine B cX ?_
   refine co z (kB rfl (cR (dZ rfl rfl rfl rfl rfl (kE aG (v:=v) ak (.hM ar))) (f6 rfl rfl rfl rfl (pL (kk:=.int k) rfl hc)) (qq ar) rfl bQ rfl)) ?_
   cases z with
   |false=>(refine B Bool.not_false ?_;refine B (if_pos rfl) ?_;refine B (List.append_nil _) ?_);rfl
   |true=>
    have fg:(d1++(if(!true)=true then([]:List (al×H)) else [(.str "Count",.int c)]))=cU (.str "Count") (.int c) d1:=M.symm
    refine B fg ?_
    exact aO (gP (v:=.int c) (k:=.str "Count") (r:=.var "changes") (du (f6 rfl rfl rfl rfl (pL (kk:=.int k) rfl hc)) rfl) rfl rfl (jh (l:=d1) rfl rfl (by unfold a4;exact Pn O))) rfl
  rcases h.cnt rfl with bi|⟨d,bi⟩
  ·dsimp only at bi
   refine cM .none true (by refine B bi ?_;rfl) rfl rfl ?_
   unfold l7;refine B bi ?_;rfl
  ·dsimp only at bi
   refine cM (.int d) (!(d==c)) (by refine B bi ?_;rfl) rfl rfl ?_
   unfold l7;(refine B bi ?_;refine B (Bool.not_not _) ?_);rfl
theorem Ti {s:cP} {x:Option Int} {c:Int}:rC (hW s x c)/\(hW s x c).length<=2:=by
 unfold hW
 cases kg s x<;>cases l7 s c
 ·refine⟨⟨fun q aA=> ?_,?_⟩,by simp⟩
  ·simp only [Bool.false_eq_true,if_false,List.cons_append,List.nil_append,List.mem_cons,List.not_mem_nil,or_false] at aA
   rcases aA with rfl|rfl
   ·exact⟨"Parent",rfl,by dsimp only [kJ,kX,kN,kP,kG,kU,kK,k7];split<;>rfl⟩
   ·exact⟨"Count",rfl,rfl⟩
  ·simp [vA]
 ·refine⟨⟨fun q aA=> ?_,?_⟩,by simp⟩
  ·simp only [Bool.false_eq_true,if_false,if_true,List.append_nil,List.mem_cons,List.not_mem_nil,or_false] at aA
   subst aA
   exact⟨"Parent",rfl,by dsimp only [kJ,kX,kN,kP,kG,kU,kK,k7];split<;>rfl⟩
  ·simp
 ·refine⟨⟨fun q aA=> ?_,?_⟩,by simp⟩
  ·simp only [Bool.false_eq_true,if_false,if_true,List.nil_append,List.mem_cons,List.not_mem_nil,or_false] at aA
   subst aA
   exact⟨"Count",rfl,rfl⟩
  ·simp
 ·exact⟨⟨fun q aA=>by simp at aA,by simp⟩,by simp⟩
noncomputable def jy (tab:List (al×H)) (s:cP) (x:Option Int) (c:Int):List (al×H):=if(hW s x c).isEmpty then tab else cU (.int s.k) (.aF [.int 0,.V (h5 s.hd (hW s x c))]) tab
theorem Qz {q:al×H} {d:List (al×H)}:eF .NotEq (.V (q::d)) (.V [])=some true:=rfl
theorem uo {t:Nat} {v:H} (h:per[t]? =some v):per.set t v=per:=by
 apply List.ext_getElem?
 intro i
 refine B List.getElem?_set ?_
 by_cases e:t=i
 ·subst e
  have:=(List.getElem?_eq_some_iff.mp h).1
  (refine B (if_pos rfl) ?_;refine B (if_pos this) ?_;refine B h ?_;rfl)
 ·(refine B (if_neg e) ?_;rfl)
theorem Qk {found:List H} {cts:List (al×H)} {s:cP} {x:Option Int} {c:Int} (aG:per[t]? =some (.V tab)) (h:m9 s x) (aq:tab.length<=a4):
  ∃ch,(aJ b (aH b (m+2)) CQ (n+20) (bN (aI 40))).de ((j1[3]?).getD default) (iC t u found cts s.v (.aD (.V (hW s x c))) per)=
   some (.next,iC t u found cts s.v ch (per.set t (.V (jy tab s x c)))):=by
 refine cl (Ti (s:=s) (x:=x) (c:=c)) ?_;intro mu n9
 unfold jy
 cases Hw:hW s x c with
 |nil=>
  refine⟨.aD (.V []),?_⟩
  (refine B List.isEmpty_nil ?_;refine B (if_pos rfl) ?_;refine B (uo aG) ?_)
  exact co false (cR rfl rfl rfl rfl rfl rfl) rfl
 |cons q d=>
  rw [Hw] at mu n9
  refine⟨.U (.V (q::d)),?_⟩
  (refine B List.isEmpty_cons ?_;refine B (if_neg (by decide)) ?_)
  have hs:=h.fu.1
  obtain⟨k,hd,ab,inh,pg⟩:=s
  have VB:=sj (b:=b) (m:=m+1) (per:=per) (hd:=hd) (ch:=q::d) mu (by dsimp only at hs;simp only [List.length_cons] at n9|-;exact LW n9 hs)
  refine co true (cR rfl rfl rfl rfl Qz rfl) ?_
  exact aO (mF (by decide+kernel) (bM rfl rfl (bM rfl rfl (bM (eR rfl (by decide+kernel) (by decide+kernel) (by decide+kernel) (by decide+kernel) rfl (by decide+kernel) rfl VB) rfl rfl))) (G3 (m:=m) aG aq)) rfl
end
end Mine
end
section
open PySem
namespace Mine
mutual
noncomputable def gj (ab:List Int):bO->List cP
 |.leaf k hd=>[⟨k,hd,ab,er hd,true⟩]
 |.node k hd kids=>⟨k,hd,ab,er hd,false⟩::nC (ab++[k]) kids
noncomputable def nC (ab:List Int):List bO->List cP
 |[]=>[]
 |x::r=>gj ab x++nC ab r
end
mutual
theorem y6:∀{x:bO} {ab:List Int},dL (ab.map au) x=(gj ab x).map cP.v
 |.leaf k hd,ab=>rfl
 |.node k hd kids,ab=>by
  unfold dL gj
  have:=Hf (l:=kids) (ab:=ab++[k])
  replace this:=List.map_append▸this
  (refine B List.map_cons ?_;refine bu this ?_);rfl
theorem Hf:∀{l:List bO} {ab:List Int},iw (ab.map au) l=(nC ab l).map cP.v
 |[],ab=>rfl
 |x::r,ab=>by unfold iw nC;(refine B List.map_append ?_;refine B (y6 (x:=x)) ?_;refine B (Hf (l:=r)) ?_;rfl)
end
noncomputable abbrev xy:=cP×Option Int×Int
noncomputable def qo (tab:List (al×H)) (l:List xy):List (al×H):=l.foldl (fun d q=>jy d q.1 q.2.1 q.2.2) tab
theorem JO {tab:List (al×H)} {s:cP} {x:Option Int} {c:Int}:(jy tab s x c).length<=tab.length+1:=by
 unfold jy;split
 ·exact u6
 ·exact pP
section
variable{b:Bool} {C CQ:cs} {n:Nat} {J aW:Scope} {fs fs₁ fs₂ fs':X} {R:bk} {o:Option (bE×X)} {p:Pos} {m:Nat} {t u:Nat} {per:List H} {tab bL:List (al×H)}
noncomputable def FJ (t u:Nat) (found:List H) (cts:List (al×H)) (per:List H):X:=⟨[("shelf",.U (bB t u)),("found",.U (.am found)),("counts",.aD (.V cts))],per⟩
noncomputable def FV (t u:Nat) (found:List H) (cts:List (al×H)) (s:H) (per:List H):X:=⟨[("shelf",.U (bB t u)),("found",.U (.am found)),("counts",.aD (.V cts)),("spot",.U s)],per⟩
noncomputable def TC (t u:Nat) (found:List H) (cts:List (al×H)) (per:List H) (fs:X):Prop:=fs=FJ t u found cts per\/∃s ch,fs=iC t u found cts s ch per
theorem VQ {found:List H} {cts:List (al×H)} {s:cP} {x:Option Int} {c:Int} (aB:fs=FV t u found cts s.v per\/∃ch,fs=iC t u found cts s.v ch per) (aG:per[t]? =some (.V tab)) (h:m9 s x) (hc:a9 (.int s.k) cts=some (.int c)) (aq:tab.length<=a4):
  ∃ch,cO (aJ b (aH b (m+2)) CQ (n+20) (bN (aI 40))) j1 fs=some (.next,iC t u found cts s.v ch (per.set t (.V (jy tab s x c)))):=by
 refine bS (Qk (b:=b) (CQ:=CQ) (n:=n) (m:=m) (u:=u) (found:=found) (cts:=cts) (s:=s) (x:=x) (c:=c) aG h aq) ?_;intro ch e
 have ak:=It (b:=b) (CQ:=CQ) (n:=n) (m:=m) (t:=t) (u:=u) (per:=per) (found:=found) (cts:=cts) h
 have ar:=fun d1 M O=>U9 (b:=b) (CQ:=CQ) (n:=n) (m:=m) (u:=u) (found:=found) (cts:=cts) (d1:=d1) (x:=x) (c:=c) aG h hc M O
 have iz:(aJ b (aH b (m+2)) CQ (n+20) (bN (aI 40))).de ((j1[0]?).getD default) fs=some (.next,iC t u found cts s.v (.aD (.V [])) per):=by
  rcases aB with rfl|⟨Zy,rfl⟩<;>exact fB rfl rfl
 refine⟨ch,aO (s:=(j1[0]?).getD default) (r:=[(j1[1]?).getD default,(j1[2]?).getD default,(j1[3]?).getD default]) iz (aO ak (aO (ar _ ?_ ?_) (aO e rfl)))⟩
 ·split<;>rfl
 ·split<;>simp
theorem l6 {t:Nat} {v w:H}:(per.set t v).set t w=per.set t w:=by(refine B (List.set_set _) ?_;rfl)
theorem jP {t:Nat} {v w:H} (h:per[t]? =some v):(per.set t w)[t]? =some w:=by
 have:=(List.getElem?_eq_some_iff.mp h).1
 (refine B List.getElem?_set ?_;refine B (if_pos rfl) ?_;refine B (if_pos this) ?_;rfl)
theorem F3 {found:List H} {cts:List (al×H)}:∀{l:List xy} {tab:List (al×H)} {per:List H} {fs:X},TC t u found cts per fs->per[t]? =some (.V tab)->(∀q∈l,m9 q.1 q.2.1/\a9 (.int q.1.k) cts=some (.int q.2.2))->tab.length+l.length<=a4->
  ∃fs',f5 (aJ b (aH b (m+2)) CQ (n+20) (bN (aI 40))) (bN (aI 40)) "spot" j1 (l.map fun q=>q.1.v) fs=some (.next,fs')/\fs'.per=per.set t (.V (qo tab l))
 |[],tab,per,fs,aB,aG,h,aq=>by
  refine⟨fs,rfl,?_⟩
  have:qo tab []=tab:=rfl
  (refine B this ?_;refine B (uo aG) ?_)
  rcases aB with rfl|⟨s,ch,rfl⟩<;>rfl
 |(s,x,c)::l,tab,per,fs,aB,aG,h,aq=>by
  refine cl (h _ List.mem_cons_self) ?_;intro bH b7
  simp only [List.length_cons] at aq
  have bC:=JO (tab:=tab) (s:=s) (x:=x) (c:=c)
  have step:∃fs₁,eQ (bN (aI 40)) "spot" (.U s.v) fs=some fs₁/\(fs₁=FV t u found cts s.v per\/∃ch,fs₁=iC t u found cts s.v ch per):=by
   rcases aB with rfl|⟨az,ch,rfl⟩
   ·exact⟨_,rfl,.inl rfl⟩
   ·exact⟨_,rfl,.inr ⟨ch,rfl⟩⟩
  refine bb step ?_;clear step;intro fs₁ ak ar
  refine bS (VQ (b:=b) (CQ:=CQ) (n:=n) (m:=m) (x:=x) (c:=c) ar aG bH b7 (by exact Oi aq)) ?_;intro ch bQ
  refine bb (F3 (l:=l) (tab:=jy tab s x c) (fs:=iC t u found cts s.v ch (per.set t (.V (jy tab s x c)))) (.inr ⟨_,_,rfl⟩) (jP aG) (fun q aA=>h q (List.mem_cons_of_mem _ aA)) (by exact Vd aq bC)) ?_;intro fs' cX dn
  refine⟨fs',fM ak bQ cX,?_⟩
  (refine B dn ?_;refine B l6 ?_);rfl
theorem Sd {x:bO} {l:List xy} (aG:per[t]? =some (.V tab)) (b2:per[u]? =some (.V bL)) (ae:kR tab bL x) (hs:l.map (fun q=>q.1)=gj [] x)
  (bC:l.length<900) (bx:∀y∈gj [] x,∀k∈y.ab,gw ((gj [] x).foldl hq []) k) (aA:∀q∈l,m9 q.1 q.2.1/\a9 (.int q.1.k) (nc (gj [] x))=some (.int q.2.2)) (aq:tab.length+l.length<=a4):
  aH b (m+6) "settle" [bB t u] per=some (.ret (.U .none),per.set t (.V (qo tab l))):=by
 refine c6 PF ?_
 have ak:=t7 (b:=b) (m:=m) aG b2 ae
 have iz:dL [] x=(gj [] x).map cP.v:=y6 (ab:=[])
 replace ak:=iz▸ak
 have b1:∃s r,gj [] x=s::r:=by
  refine qz ae.node ?_;intro k hd kids u;subst u
  exact⟨_,_,rfl⟩
 refine i9 b1 ?_;clear b1;intro s r u4
 have ar:aH b (m+5) "counts_of" [.am ((gj [] x).map cP.v)] per=some (.ret (.own (.V (nc (gj [] x)))),per):=by
  rw [u4] at bx|-
  exact Au (m:=m+4) (by(refine bu u4 ?_;refine bu hs ?_;refine B (List.length_map _) ?_);exact bC) bx
 refine bb (F3 (b:=b) (CQ:=aH false (m+5)) (n:=19) (m:=m+3) (u:=u) (found:=(gj [] x).map cP.v) (cts:=nc (gj [] x)) (l:=l) (fs:=FJ t u ((gj [] x).map cP.v) (nc (gj [] x)) per) (.inl rfl) aG aA aq) ?_;intro fs' bQ cX
 have ay:(l.map fun q=>q.1.v)=(gj [] x).map cP.v:=by(refine bu hs ?_;refine B List.map_map ?_);rfl
 replace bQ:=ay▸bQ
 apply u3 rfl
 ·refine aO (fB (eR rfl (by decide+kernel) (by decide+kernel) (by decide+kernel) (by decide+kernel) rfl (by decide+kernel) (bM rfl rfl rfl) ak) rfl) ?_
  refine aO (fB (eR rfl (by decide+kernel) (by decide+kernel) (by decide+kernel) (by decide+kernel) rfl (by decide+kernel) (bM rfl rfl rfl) ar) rfl) ?_
  exact aO (g6 (gY rfl (du (r:=.U (.am ((gj [] x).map cP.v))) rfl rfl)) bQ) rfl
 ·exact cX
end
end Mine
end
section
open PySem
namespace Mine
theorem UF:ds "page_count"=some (aI 33):=by kernel_rfl
section
variable{b:Bool} {C CQ:cs} {n:Nat} {J aW:Scope} {fs fs₁ fs₂ fs':X} {R:bk} {o:Option (bE×X)} {p:Pos} {m:Nat} {t u:Nat} {per:List H} {tab bL:List (al×H)}
theorem LL {k:Int} {hd:List (al×H)} {kids:List bO} {c:Int} (aG:per[t]? =some (.V tab)) (b2:per[u]? =some (.V bL)) (ae:kR tab bL (.node k hd kids)) (hc:a9 (.str "Count") hd=some (.int c)) (aL:0<=c):
  aH b (m+5) "page_count" [bB t u] per=some (.ret (.U (.int c)),per):=by
 refine dP ae.jS ?_;intro a6 qm ey eC h7
 refine ef ae.ao ?_;intro bH b7 c7
 have aR:=FT (b:=b) (m:=m+3) (per:=per) (i:=c)
 replace aR:=(decide_eq_true aL)▸aR
 refine c6 UF ?_
 apply dp rfl
 ·refine aO (dc (dZ rfl rfl rfl rfl (bM (dZ rfl rfl rfl rfl (bM (eR rfl (by decide+kernel) (by decide+kernel) (by decide+kernel) (by decide+kernel) rfl (by decide+kernel) (bM rfl rfl (bM (f8 rfl (dZ rfl rfl rfl rfl rfl (yP (m:=m+1) aG b2 ey (.r0 eC rfl))) (nw (kk:=.str "Pages") (l:=qm) (x:=au k) rfl rfl rfl rfl (by refine B h7 ?_;rfl))) rfl rfl)) (wR (m:=m+3) aG bH rfl)) rfl rfl) (vC (m:=m+3) aG (.r0 bH rfl))) rfl (bM rfl rfl rfl)) (kE (m:=m+2) aG (v:=.int c) (by refine B hc ?_;rfl) (.hM rfl))) rfl) ?_
  exact cu (co true (jZ (eR rfl (by decide+kernel) (by decide+kernel) (by decide+kernel) (by decide+kernel) rfl (by decide+kernel) rfl aR)) (cu (dD rfl rfl)))
 ·rfl
end
end Mine
end
section
open PySem
namespace Mine
theorem UC:ds "kid_index"=some (aI 45):=by kernel_rfl
noncomputable def hI (k:Int):H:=.aF [.int k,.int 0]
noncomputable def wc:H->Int
 |.dS _ ((_,.int k)::_)=>k
 |_=>0
noncomputable def nB (r:Int):List Int->Option Nat
 |[]=>none
 |k::l=>if k=r then some 0 else(nB r l).map (· +1)
theorem zV {i j:Int}:eO eK (hI i) (hI j)=some (decide (i=j)):=by
 show some ((i==j)&&(((0:Int)==0)&&true))=_
 by_cases h:i=j<;>simp [h]
theorem Q5 {r:Int} {l:List Int}:mH (hI r) (l.map hI)=nB r l:=by
 induction l with
 |nil=>rfl
 |cons k l ih=>
  refine bq zV ?_
  unfold nB
  by_cases h:k=r
  ·refine B (if_pos h) ?_;exact cQ (decide_eq_true h) rfl
  ·(refine B (if_neg h) ?_;refine bu ih ?_);refine ej (fun e=>h (of_decide_eq_true e)) ?_
   cases mH (hI r) (l.map hI)<;>rfl
section
variable{b:Bool} {C CQ:cs} {n:Nat} {J aW:Scope} {fs fs₁ fs₂ fs':X} {R:bk} {o:Option (bE×X)} {p:Pos} {m:Nat} {t u:Nat} {per:List H} {tab bL:List (al×H)}
theorem Sz {r:aU} {args:List Expr} {v:H} {l:List H} {i:Nat} (aL:pc (fs.cE r)=true) (bA:dk R args fs=some ([v],fs₁)) (M:fs₁.cE r=some (.am l)) (O:(l.length<=a4&&l.all (fun y=>mB y&&(eO eK y v).isSome))=true) (Y:mH v l=some i):iD C R "index" r args fs=some (.U (.int i),fs₁):=by
 exact(HX aL).trans (bd bA (i4 rfl (congrArg mj M) (cQ O (bq Y rfl))))
noncomputable def Kj:Expr:=eo (ce (aI 45) 0) [0,0,0]
noncomputable def LS:Scope:=it (eo (ce (aI 45) 0) [0,0])
noncomputable def A2 (tab:List (al×H)) (j:Int):Prop:=∃x,a9 (.int j) tab=some (.aF [.int 0,x])/\gB x "Reference"=some false
theorem SP {k r:Int} {hd inh:List (al×H)} {ab:List H} {ks:List Int} {i:Nat} (aG:per[t]? =some (.V tab)) (ag:a9 (.str "Kids") hd=some (.am (ks.map au))) (hs:∀j∈ks,A2 tab j) (aq:ks.length<900) (aR:nB r ks=some i):
  aH b (m+4) "kid_index" [bB t u,bT k hd ab inh false,au r] per=some (.ret (.U (.int i)),per):=by
 refine c6 UC ?_
 obtain⟨l,e⟩:=uK (R:=aJ b (aH b (m+3)) (aH false (m+3)) 37 LS) (per:=per) (elt:=Kj) (x:="kid") (L:=[("shelf",.U (bB t u))]) (f:=fun v=>hI (wc v)) (items:=ks.map au) (fs:=⟨[("shelf",.U (bB t u))],per⟩)
  (fun v ay=>by
   refine bb (List.mem_map.mp ay) ?_;intro j bF u;subst u
   refine bb (hs j bF) ?_;intro x jQ nA
   exact du (dZ (l:=[("number",.int j),("generation",.int 0)]) rfl (eR rfl (by decide+kernel) (by decide+kernel) (by decide+kernel) (by decide+kernel) rfl (by decide+kernel) (bM rfl rfl (bM rfl rfl rfl)) (wR (m:=m+2) aG jQ nA)) rfl rfl rfl (m8 (m:=m+2))) rfl) (.inl rfl)
 have RF:(ks.map au).map (fun v=>hI (wc v))=ks.map hI:=by refine B List.map_map ?_;rfl
 replace e:=RF▸e
 apply dp rfl
 ·refine cu (dD (f8 rfl (h4 (gY rfl (du (eR rfl (by decide+kernel) (by decide+kernel) (by decide+kernel) (by decide+kernel) rfl (by decide+kernel) rfl (pB (m:=m) aG (by refine B ag ?_;rfl) (.hM rfl))) rfl)) (by refine B (List.length_map _) ?_;unfold a4;exact j5 aq) rfl e) (Sz (v:=hI r) (l:=ks.map hI) (i:=i) rfl (bM (dZ rfl rfl rfl rfl rfl (m8 (m:=m+2))) rfl rfl) rfl ?_ ?_)) rfl)
  ·refine B (Bool.and_eq_true _ _) ?_
   refine⟨decide_eq_true (by refine B (List.length_map _) ?_;unfold a4;exact j5 aq),?_⟩
   rw [List.all_eq_true]
   intro y aQ
   refine bb (List.mem_map.mp aQ) ?_;intro j bF u;subst u
   (refine B (show mB (hI j)=true from rfl) ?_;refine B (Bool.true_and _) ?_)
   refine B zV ?_;rfl
  ·refine B Q5 ?_;exact aR
 ·rfl
end
end Mine
end
section
open PySem
namespace Mine
theorem zN:ds "place_of"=some (aI 44):=by kernel_rfl
section
variable{b:Bool} {C CQ:cs} {n:Nat} {J aW:Scope} {fs fs₁ fs₂ fs₃ fs':X} {R:bk} {o:Option (bE×X)} {p:Pos} {m:Nat} {t u:Nat} {per:List H} {tab bL:List (al×H)}
theorem vv {l bU kz e cg a c c' v w Gp z} (M:(aJ b C CQ n J).ba l fs=some (a,fs₁)) (O:(aJ b C CQ n J).ba e fs₁=some (.U c,fs₂)) (Y:fs₂.cE a=some v) (aC:fs₂.cE (.U c)=some w) (bR:eF bU v w=some true)
  (dK:(aJ b C CQ n J).ba cg fs₂=some (c',fs₃)) (f3:fs₃.cE (.U c)=some eZ) (o7:fs₃.cE c'=some Gp) (q2:eF kz eZ Gp=some z):(aJ b C CQ (n+1) J).dF (.Compare l [bU,kz] [e,cg] p) fs=some (z,fs₃):=bd M (bd O (i4 Y aC (bq bR (bq rfl (bq rfl (bd dK (i4 f3 o7 (bq q2 rfl))))))))
theorem TP {l bU kz e cg a c v w} (M:(aJ b C CQ n J).ba l fs=some (a,fs₁)) (O:(aJ b C CQ n J).ba e fs₁=some (.U c,fs₂)) (Y:fs₂.cE a=some v) (aC:fs₂.cE (.U c)=some w) (bR:eF bU v w=some false):(aJ b C CQ (n+1) J).dF (.Compare l [bU,kz] [e,cg] p) fs=some (false,fs₂):=bd M (bd O (i4 Y aC (bq bR (bq rfl (bq rfl rfl)))))
theorem PZ {args:List Expr} {q:Pos} {x y:Int} (aL:J.names.lookup ("min":Str)=some .globalImplicit) (bA:dk (aJ b C CQ n J) args fs=some ([.int x,.int y],fs₁)):(aJ b C CQ (n+1) J).ba (.Call (.Name ("min":Str) p) args [] q) fs=some (.U (.int (if y<x then y else x)),fs₁):=cQ aL (ej (show("min":Str)≠"isinstance" by decide+kernel) (cQ rfl (bd bA (bd rfl rfl))))
theorem ze {l:List H} {i:Nat} {v:H} (h:l[i]? =some v) (aR:i<2^62):ox (.am l) (.int i)=some v:=by
 have M:q9 l (.int (i:Int))=br (ko i l.length) fun j=>l[j]? :=if_pos aR
 have O:ko i l.length=some i:=cQ (Int.natCast_nonneg i) (cQ (List.getElem?_eq_some_iff.mp h).1 rfl)
 exact M.trans (bq O h)
theorem Ge {cls s:Str} {k q bZ bo} (h:(cls=("TreeFault":Str)&&J.names.lookup cls==some .globalImplicit)=true):(aJ true C CQ (n+1) J).de (.Raise (some (.Call (.Name cls q) [.Constant (.str s) k bZ] [] bo)) none p) fs=some (.dC,fs):=by
 refine bq rfl (bd rfl (bq rfl (bq rfl (cQ (?_:(true&&(true&&(true&&(decide (cls=("TreeFault":Str))&&J.names.lookup cls==some .globalImplicit))))=true) rfl))))
 exact h
end
end Mine
end
section
open PySem
namespace Mine
section
variable{b:Bool} {C CQ:cs} {n:Nat} {J aW:Scope} {fs fs₁ fs₂ fs₃ fs':X} {R:bk} {o:Option (bE×X)} {p:Pos} {m:Nat} {t u:Nat} {per:List H} {tab bL:List (al×H)}
noncomputable def BA (t u:Nat) (at':Int) (found:List H) (per:List H):X:=⟨[("shelf",.U (bB t u)),("at",.U (.int at')),("found",.aD (.am found))],per⟩
noncomputable def EA (t u:Nat) (at':Int) (found lO:List H) (per:List H):X:=⟨[("shelf",.U (bB t u)),("at",.U (.int at')),("found",.U (.am found)),("leaves",.aD (.am lO))],per⟩
theorem x3 {x:bO} {a:Int} (hs:x.da.length<400):(aJ b C CQ 40 (bN (aI 44))).de (ce (aI 44) 1) (BA t u a (dL [] x) per)=some (.next,EA t u a (dL [] x) (ei x) per):=by
 obtain⟨l,e⟩:=yc (R:=aJ b C CQ 38 (it (eo (ce (aI 44) 1) []))) (per:=per)
  (elt:=eo (ce (aI 44) 1) [0]) (c:=eo (ce (aI 44) 1) [2]) (x:="spot") (L:=[]) (f:=fun v=>v) (q:=x6) (items:=dL [] x) (fs:=⟨[],per⟩)
  (fun v ay=>by obtain⟨k,hd,ab',inh,pg,rfl⟩:=p6 x [] v ay;cases pg<;>rfl) (fun v ay _=>by obtain⟨k,hd,ab',inh,pg,rfl⟩:=p6 x [] v ay;rfl) (.inl rfl)
 replace e:=(List.map_id' _)▸e
 exact fB (h4 (gY rfl (du (r:=.var "found") rfl rfl)) (by refine B (vz _ _) ?_;unfold a4;exact zx hs) rfl e) rfl
theorem yS {x:bO} {a:Int} (aG:per[t]? =some (.V tab)) (b2:per[u]? =some (.V bL)) (ae:kR tab bL x):(aJ b (aH b (m+5)) CQ 40 (bN (aI 44))).de (ce (aI 44) 0) ⟨[("shelf",.U (bB t u)),("at",.U (.int a))],per⟩=some (.next,BA t u a (dL [] x) per):=
 fB (eR rfl (by decide+kernel) (by decide+kernel) (by decide+kernel) (by decide+kernel) rfl (by decide+kernel) rfl (t7 aG b2 ae)) rfl
theorem rd {x:bO} (hs:x.da.length<400):(ei x).length<=a4:=by
 have M:(ei x).length<=(dL [] x).length:=List.length_filter_le ..
 replace M:=(vz _ _)▸M
 unfold a4;exact Pw hs M
theorem iG {l:List H} (h:l.length<=a4):gC "len" (.am l)=some (.U (.int l.length)):=yK rfl h
theorem pz {x y:Int} (h:x<=y):eF .LtE (.int x) (.int y)=some true:=by
 show some (decide (x<=y))=_;(refine B (decide_eq_true h) ?_;rfl)
theorem FS {x y:Int} (h:¬x<=y):eF .LtE (.int x) (.int y)=some false:=by
 show some (decide (x<=y))=_;(refine B (decide_eq_false h) ?_;rfl)
theorem IW {x:bO} {a:Int} (aG:per[t]? =some (.V tab)) (b2:per[u]? =some (.V bL)) (ae:kR tab bL x) (bA:a<0\/((ei x).length:Int)<a):aH true (m+6) "place_of" [bB t u,.int a] per=some (.dC,per):=by
 refine c6 zN ?_
 apply Es rfl
 ·refine aO (yS (m:=m) aG b2 ae) (aO (x3 ae.fu) ?_)
  by_cases aL:0<=a
  ·have M:¬(a<=((ei x).length:Int)):=by exact XD bA aL
   exact pX (co true (je (vv (z:=false) (c:=.int a) (c':=.U (.int (ei x).length)) rfl rfl rfl rfl (pz aL) (kA rfl (by decide+kernel) (by decide+kernel) rfl rfl rfl (iG (rd ae.fu))) rfl rfl (FS M))) (pX (Ge rfl)))
  ·exact pX (co true (je (TP (c:=.int a) rfl rfl rfl rfl (FS aL))) (pX (Ge rfl)))
 ·rfl
end
end Mine
end
section
open PySem
namespace Mine
section
variable{b:Bool} {C CQ:cs} {n:Nat} {J aW:Scope} {fs fs₁ fs₂ fs₃ fs':X} {R:bk} {o:Option (bE×X)} {p:Pos} {m:Nat} {t u:Nat} {per:List H} {tab bL:List (al×H)}
theorem xH {e:Expr} {a c:Str} {r:aU} {l:List (Str×H)} {v:H} (M:(aJ b C CQ n J).ba e fs=some (r,fs₁)) (O:fs₁.cE r=some (.dS c l)) (Y:(pQ c a&&kx e)=true) (aC:iO a l=some v):(aJ b C CQ (n+1) J).ba (.Attribute e a p) fs=some (.U v,fs₁):=bd M (bd (bq O rfl) (cQ Y (bq aC rfl)))
theorem zw {l:List H} {v:H}:ox (.am (v::l)) (.int 0)=some v:=ze (i:=0) rfl (by decide)
theorem Vq {k:Int} {hd:List (al×H)} {kids:List bO} (aG:per[t]? =some (.V tab)) (b2:per[u]? =some (.V bL)) (ae:kR tab bL (.node k hd kids)) (aX:ei (.node k hd kids)=[]) (k8:kids.length<900):
  aH b (m+6) "place_of" [bB t u,.int 0] per=some (.ret (.U (.aF [bT k hd [] (er hd) false,.int kids.length])),per):=by
 refine c6 zN ?_
 refine ef ae.ao ?_;intro bH b7 c7
 have ag:=pB (b:=b) (m:=m+2) (u:=u) (hd:=hd) (v:=.am (kids.map fun y=>au y.num)) (l:=kids.map fun y=>au y.num) aG (by refine B b7.2.2 ?_;rfl) (.hM rfl)
 have iz:=yS (b:=b) (CQ:=aH false (m+5)) (m:=m) (a:=0) aG b2 ae
 have ak:=x3 (b:=b) (C:=aH b (m+5)) (CQ:=aH false (m+5)) (t:=t) (u:=u) (per:=per) (a:=0) ae.fu
 replace ak:=aX▸ak
 have hs:dL [] (.node k hd kids)=bT k hd [] (er hd) false::iw ([]++[au k]) kids:=rfl
 rw [hs] at iz ak
 have aq:gC "len" (.am (kids.map fun y=>au y.num))=some (.U (.int kids.length)):=by
  have:=iG (l:=kids.map fun y=>au y.num) (by refine B (List.length_map _) ?_;unfold a4;exact j5 k8)
  replace this:=(List.length_map _)▸this
  exact this
 apply dp rfl
 ·refine aO iz (aO ak ?_)
  refine aO (co false (je (vv (z:=true) (c:=.int 0) (c':=.U (.int 0)) rfl rfl rfl rfl (pz (Int.le_refl 0)) (kA rfl (by decide+kernel) (by decide+kernel) rfl rfl rfl rfl) rfl rfl (pz (Int.le_refl 0)))) rfl) ?_
  exact cu (co true (cR rfl rfl rfl rfl rfl rfl) (cu (dD (ky (bM (f6 rfl rfl rfl rfl zw) rfl (bM (kA rfl (by decide+kernel) (by decide+kernel) rfl (eR rfl (by decide+kernel) (by decide+kernel) (by decide+kernel) (by decide+kernel) rfl (by decide+kernel) (bM rfl rfl (bM (xH (f6 rfl rfl rfl rfl zw) rfl rfl rfl) rfl rfl)) ag) rfl aq) rfl rfl)) (Nat.le_of_ble_eq_true rfl)) rfl)))
 ·rfl
end
end Mine
end
section
open PySem
namespace Mine
noncomputable def tF:H->Int
 |.dS _ ((_,r)::_)=>wc r
 |_=>0
section
variable{b:Bool} {C CQ:cs} {n:Nat} {J aW:Scope} {fs fs₁ fs₂ fs₃ fs':X} {R:bk} {o:Option (bE×X)} {p:Pos} {m:Nat} {t u:Nat} {per:List H} {tab bL:List (al×H)}
noncomputable def GJ (t u:Nat) (at':Int) (found lO:List H) (bs:H) (per:List H):X:=⟨[("shelf",.U (bB t u)),("at",.U (.int at')),("found",.U (.am found)),("leaves",.aD (.am lO)),("beside",.U bs)],per⟩
noncomputable def Vt (t u:Nat) (at':Int) (found lO:List H) (bs nd:H) (per:List H):X:=⟨[("shelf",.U (bB t u)),("at",.U (.int at')),("found",.U (.am found)),("leaves",.aD (.am lO)),("beside",.U bs),("node",.U nd)],per⟩
noncomputable def sl:Expr×Expr×Scope:=(eo (ce (aI 44) 5) [0,0],eo (ce (aI 44) 5) [0,2],it (eo (ce (aI 44) 5) [0]))
theorem LP {x:bO} {a r nk:Int} {rhd rinh:List (al×H)} {ab rest:List H} {nd:H} (hs:x.da.length<400) (aE:(dL [] x).filter (fun v=>decide (tF v=nk))=nd::rest):
  (aJ b (aH b (m+5)) CQ 40 (bN (aI 44))).de (ce (aI 44) 5) (GJ t u a (dL [] x) (ei x) (bT r rhd (ab++[au nk]) rinh true) per)=some (.next,Vt t u a (dL [] x) (ei x) (bT r rhd (ab++[au nk]) rinh true) nd per):=by
 obtain⟨l,e⟩:=yc (R:=aJ b (aH b (m+5)) CQ 37 sl.2.2) (per:=per) (elt:=sl.1) (c:=sl.2.1) (x:="spot") (L:=[("beside",.U (bT r rhd (ab++[au nk]) rinh true))]) (f:=fun v=>v) (q:=fun v=>decide (tF v=nk)) (items:=dL [] x) (fs:=⟨[("beside",.U (bT r rhd (ab++[au nk]) rinh true))],per⟩)
  (fun v ay=>by
   refine rS (p6 x [] v ay) ?_;intro k hd ab' inh pg u;subst u
   have aA:∀{z},decide (k=nk)=z->(aJ b (aH b (m+5)) CQ 37 sl.2.2).dF sl.2.1 ⟨bY "spot" (.U (bT k hd ab' inh pg)) [("beside",.U (bT r rhd (ab++[au nk]) rinh true))],per⟩=some (z,⟨bY "spot" (.U (bT k hd ab' inh pg)) [("beside",.U (bT r rhd (ab++[au nk]) rinh true))],per⟩):=fun{z} hz=>by
    apply cR (a:=.U (.aF [.int k,.int 0])) (c:=.U (.aF [.int nk,.int 0]))
    ·exact dZ rfl rfl rfl rfl rfl m8
    ·apply dZ (fs₁:=⟨bY "spot" (.U (bT k hd ab' inh pg)) [("beside",.U (bT r rhd (ab++[au nk]) rinh true))],per⟩) (fs₂:=⟨bY "spot" (.U (bT k hd ab' inh pg)) [("beside",.U (bT r rhd (ab++[au nk]) rinh true))],per⟩) (c:="Reference") (l:=[("number",.int nk),("generation",.int 0)]) (vs:=[])
     ·rfl
     ·exact f6 rfl rfl rfl rfl yJ
     ·rfl
     ·rfl
     ·rfl
     ·exact m8
    ·rfl
    ·rfl
    ·exact CE
    ·exact hz
   exact aA rfl) (fun v ay _=>by obtain⟨k,hd,ab',inh,pg,rfl⟩:=p6 x [] v ay;rfl) (.inl rfl)
 (replace e:=(List.map_id' _)▸e;replace e:=aE▸e)
 exact dc (f6 rfl (h4 (gY rfl (du (r:=.U (.am (dL [] x))) rfl rfl)) (by refine B (vz _ _) ?_;unfold a4;exact zx hs) rfl e) rfl rfl zw) rfl
theorem Jr {x:bO} {a:Int} {i:Nat} {bs:H} (hs:x.da.length<400) (ah:(ei x)[i]? =some bs) (aR:(if((ei x).length:Int)-1<a then((ei x).length:Int)-1 else a)=(i:Int)):
  (aJ b (aH b (m+5)) CQ 40 (bN (aI 44))).de (ce (aI 44) 4) (EA t u a (dL [] x) (ei x) per)=some (.next,GJ t u a (dL [] x) (ei x) bs per):=by
 have bC:(ei x).length<2^62:=by have:=rd hs;unfold a4 at this;exact IG this
 have cy:=(List.getElem?_eq_some_iff.mp ah).1
 exact dc (f6 rfl rfl (PZ rfl (bM rfl rfl (bM (dB (kA rfl (by decide+kernel) (by decide+kernel) rfl rfl rfl (iG (rd hs))) rfl rfl rfl rfl) rfl rfl))) rfl (by refine B aR ?_;exact ze ah (by exact Lr bC cy))) rfl
theorem Tw {x:bO} {a r nk:Int} {i j:Nat} {rhd rinh nhd ninh:List (al×H)} {ab nab rest:List H} {ks:List Int} (aG:per[t]? =some (.V tab)) (b2:per[u]? =some (.V bL)) (ae:kR tab bL x) (aL:0<=a) (M:a<=((ei x).length:Int))
  (ah:(ei x)[i]? =some (bT r rhd (ab++[au nk]) rinh true)) (aR:(if((ei x).length:Int)-1<a then((ei x).length:Int)-1 else a)=(i:Int)) (aE:(dL [] x).filter (fun v=>decide (tF v=nk))=bT nk nhd nab ninh false::rest)
  (ag:a9 (.str "Kids") nhd=some (.am (ks.map au))) (bx:∀j∈ks,A2 tab j) (aq:ks.length<900) (bF:nB r ks=some j):
  aH b (m+6) "place_of" [bB t u,.int a] per=some (.ret (.U (.aF [bT nk nhd nab ninh false,.int ((j:Int)+if a=((ei x).length:Int) then 1 else 0)])),per):=by
 refine c6 zN ?_
 have iz:=yS (b:=b) (CQ:=aH false (m+5)) (m:=m) (a:=a) aG b2 ae
 have ak:=x3 (b:=b) (C:=aH b (m+5)) (CQ:=aH false (m+5)) (t:=t) (u:=u) (per:=per) (a:=a) ae.fu
 have cX:=Jr (b:=b) (CQ:=aH false (m+5)) (m:=m) (t:=t) (u:=u) (per:=per) (a:=a) ae.fu ah aR
 have dn:=LP (b:=b) (CQ:=aH false (m+5)) (m:=m) (t:=t) (u:=u) (per:=per) (a:=a) (r:=r) (rhd:=rhd) (rinh:=rinh) (ab:=ab) ae.fu aE
 have an:=rd ae.fu
 have pM:=SP (b:=b) (m:=m+1) (u:=u) (k:=nk) (inh:=ninh) (ab:=nab) aG ag bx aq bF
 have b1:eF .Eq (.am (ei x)) (.am [])=some false:=by
  cases aA:ei x with
  |nil=>replace ah:=aA▸ah;cases ah
  |cons y l=>rfl
 apply dp rfl
 ·refine aO iz (aO ak ?_)
  refine aO (co false (je (vv (z:=true) (c:=.int a) (c':=.U (.int (ei x).length)) rfl rfl rfl rfl (pz aL) (kA rfl (by decide+kernel) (by decide+kernel) rfl rfl rfl (iG an)) rfl rfl (pz M))) rfl) ?_
  refine aO (co false (cR rfl rfl rfl rfl b1 rfl) rfl) ?_
  refine aO cX (aO dn ?_)
  by_cases aX:a=((ei x).length:Int)
  ·refine B (if_pos aX) ?_
   exact cu (dD (ky (bM rfl rfl (bM (dB (eR rfl (by decide+kernel) (by decide+kernel) (by decide+kernel) (by decide+kernel) rfl (by decide+kernel) rfl pM) (mO true (cR rfl (kA rfl (by decide+kernel) (by decide+kernel) rfl rfl rfl (iG an)) rfl rfl (show some (a==((ei x).length:Int))=some true by(refine B (beq_iff_eq.mpr aX) ?_;rfl)) rfl) rfl) rfl rfl rfl) rfl rfl)) (Nat.le_of_ble_eq_true rfl)) rfl)
  ·refine B (if_neg aX) ?_
   exact cu (dD (ky (bM rfl rfl (bM (dB (eR rfl (by decide+kernel) (by decide+kernel) (by decide+kernel) (by decide+kernel) rfl (by decide+kernel) rfl pM) (mO false (cR rfl (kA rfl (by decide+kernel) (by decide+kernel) rfl rfl rfl (iG an)) rfl rfl (show some (a==((ei x).length:Int))=some false by(refine B (beq_eq_false_iff_ne.mpr aX) ?_;rfl)) rfl) rfl) rfl rfl rfl) rfl rfl)) (Nat.le_of_ble_eq_true rfl)) rfl)
 ·rfl
end
end Mine
end
section
open PySem
namespace Mine
theorem I0:ds "put_reference"=some (aI 46):=by kernel_rfl
section
variable{b:Bool} {C CQ:cs} {n:Nat} {J aW:Scope} {fs fs₁ fs₂ fs₃ fs':X} {R:bk} {o:Option (bE×X)} {p:Pos} {m:Nat} {t u:Nat} {per:List H} {tab bL:List (al×H)}
theorem oJ {e:Expr} {c2 aR:Option Expr} {q:Pos} {r:aU} {x y:Option Int} {l:List H} (M:(aJ b C CQ n J).ba e fs=some (r,fs₁)) (O:ni (aJ b C CQ n J) c2 fs₁=some (x,fs₂)) (Y:ni (aJ b C CQ n J) aR fs₂=some (y,fs₃)) (aC:fs₃.cE r=some (.am l)) (bR:l.length<=a4):
  (aJ b C CQ (n+1) J).ba (.Subscript e (.Slice c2 aR none p) q) fs=some (.own (.am (iW l x y)),fs₃):=bd M (bd O (bd Y (bq (congrArg mj aC) (cQ bR rfl))))
theorem Bg {k:Str} {e:Expr} {cS bZ:_} {v:H} (h:dY (aJ b C CQ n J) e fs=some (v,fs₁)):(aJ b C CQ (n+1) J).ba (.Dict [some (.Constant (.str k) cS bZ)] [e] p) fs=some (.own (.V [(.str k,v)]),fs₁):=bd (bq rfl (bd h (bd rfl rfl))) rfl
theorem vi {j k:Nat} (h:j<=k):ji (j:Int) k=j:=by
 unfold ji
 (refine B (if_neg (by exact D3)) ?_;refine B (Int.toNat_natCast _) ?_;refine B (Nat.min_eq_left h) ?_;rfl)
theorem xp {l:List H} {j:Nat} (h:j<=l.length):iW l none (some (j:Int))=l.take j:=by
 show(l.take (ji (j:Int) l.length)).drop 0=_
 (refine B (vi h) ?_;refine B List.drop_zero ?_;rfl)
theorem Be {l:List H} {j:Nat} (h:j<=l.length):iW l (some (j:Int)) none=l.drop j:=by
 show(l.take l.length).drop (ji (j:Int) l.length)=_
 (refine B (vi h) ?_;refine B List.take_length ?_;rfl)
theorem Vo {l:List H}:rC [(.str "Kids",.am l)]:=⟨fun q aA=>by rw [List.mem_singleton] at aA;subst aA;exact⟨_,rfl,rfl⟩,by simp⟩
theorem TY {a r k:Int} {j:Nat} {hd inh:List (al×H)} {ab:List H} {ks:List H} {dg:List H} (aG:per[t]? =some (.V tab)) (aq:tab.length<=a4) (bx:hd.length<800) (k8:ks.length<900) (bF:j<=ks.length)
  (an:aH b (m+3) "place_of" [bB t u,.int a] per=some (.ret (.U (.aF [bT k hd ab inh false,.int j])),per)) (ag:a9 (.str "Kids") hd=some (.am ks))
  (hs:aH b (m+3) "settle" [bB t u] (per.set t (.V (cU (.int k) (.aF [.int 0,.V (h5 hd [(.str "Kids",.am (ks.take j++[au r]++ks.drop j))])]) tab)))=some (.ret (.U .none),dg)):
  aH b (m+4) "put_reference" [bB t u,.int a,au r] per=some (.ret (.U .none),dg):=by
 refine c6 I0 ?_
 have rR:=pB (b:=b) (m:=m) (u:=u) (hd:=hd) (v:=.am ks) (l:=ks) aG (by refine B ag ?_;rfl) (.hM rfl)
 have jc:=sj (b:=b) (m:=m+2) (per:=per) (hd:=hd) (ch:=[(.str "Kids",.am (ks.take j++[au r]++ks.drop j))]) Vo (by simp only [List.length_cons,List.length_nil];exact Wa bx)
 have js:ks.length<=a4:=by unfold a4;exact j5 k8
 have M:=xp (l:=ks) bF
 have O:=Be (l:=ks) bF
 apply u3 rfl
 ·refine aO (lq (vs:=[bT k hd ab inh false,.int j]) rfl (eR rfl (by decide+kernel) (by decide+kernel) (by decide+kernel) (by decide+kernel) rfl (by decide+kernel) rfl an) (Nat.le_of_ble_eq_true rfl) rfl) ?_
  refine aO (dc (eR rfl (by decide+kernel) (by decide+kernel) (by decide+kernel) (by decide+kernel) rfl (by decide+kernel) rfl rR) rfl) ?_
  refine aO (mF (by decide+kernel) (bM rfl rfl (bM rfl rfl (bM (eR rfl (by decide+kernel) (by decide+kernel) (by decide+kernel) (by decide+kernel) rfl (by decide+kernel) (bM rfl rfl (bM (Bg (du (dB (dB (oJ rfl rfl rfl rfl js) rfl rfl rfl (vd ?_)) (oJ rfl rfl rfl rfl js) rfl rfl (vd ?_)) rfl)) rfl rfl)) (by(refine B M ?_;refine B O ?_);exact jc)) rfl rfl))) (G3 (m:=m+1) aG aq)) ?_
  ·(refine B M ?_;refine B List.length_take ?_);unfold a4;simp only [List.length_cons,List.length_nil];exact NL k8
  ·(refine B M ?_;refine B O ?_;refine B List.length_append ?_;refine B List.length_take ?_;refine B List.length_drop ?_);unfold a4;simp only [List.length_cons,List.length_nil];exact HL k8
  ·exact aO (mF (by decide+kernel) rfl hs) rfl
 ·rfl
end
end Mine
end
section
open PySem
namespace Mine
theorem D9:ds "insert_page"=some (aI 47):=by kernel_rfl
section
variable{b:Bool} {C CQ:cs} {n:Nat} {J aW:Scope} {fs fs₁ fs₂ fs₃ fs':X} {R:bk} {o:Option (bE×X)} {p:Pos} {m:Nat} {t u:Nat} {per:List H} {tab bL:List (al×H)}
theorem UU {a:Int} {pd:H} (YI:iI pd=true) (h:aH true m "place_of" [bB t u,.int a] per=some (.dC,per)):aH true (m+1) "insert_page" [bB t u,.int a,pd] per=some (.dC,per):=by
 refine c6 D9 ?_
 apply Es rfl
 ·exact pX (F5 (by decide+kernel) rfl h)
 ·rfl
end
end Mine
end
section
open PySem
namespace Mine
section
variable{b:Bool} {C CQ:cs} {n:Nat} {J aW:Scope} {fs fs₁ fs₂ fs₃ g4 fs':X} {R:bk} {o:Option (bE×X)} {p:Pos} {m:Nat} {t u:Nat} {per:List H} {tab bL:List (al×H)}
theorem qv {k k2:Str} {e ar:Expr} {cS bZ XR bo} {v w:H} (h:dY (aJ b C CQ n J) e fs=some (v,fs₁)) (O:dY (aJ b C CQ n J) ar fs₁=some (w,fs₂)) (b1:k≠k2):(aJ b C CQ (n+1) J).ba (.Dict [some (.Constant (.str k) cS bZ),some (.Constant (.str k2) XR bo)] [e,ar] p) fs=some (.own (.V [(.str k,v),(.str k2,w)]),fs₂):=by
 have Y:cU (.str k2) w [(.str k,v)]=[(.str k,v),(.str k2,w)]:=if_neg fun e=>b1 (by injection e with e;exact e.symm)
 exact bd (bq rfl (bd h (bd (bq rfl (bd O (bd rfl rfl))) rfl))) (congrArg (fun d=>some (aU.own (.V d),fs₂)) Y)
noncomputable def oa:List (al×H):=[(.str "Type",gO "Page"),(.str "Parent",.none)]
theorem z4:rC oa:=⟨fun q aA=>by
  unfold oa at aA
  rcases List.mem_cons.mp aA with rfl|aA
  ·exact⟨_,rfl,rfl⟩
  ·rw [List.mem_singleton] at aA;subst aA;exact⟨_,rfl,rfl⟩,by unfold oa;simp [vA]⟩
theorem Xl {a:Int} {N:Nat} {pd cd:List (al×H)} {HD:H} {dg:List H} (aG:per[t]? =some (.V tab)) (ag:fX tab N) (dm:N<1000) (ff:cd.length<800)
  (an:aH b (m+2) "place_of" [bB t u,.int a] per=some (.ret (.U HD),per)) (hc:aH b (m+2) "copied" [.V pd] per=some (.ret (.own (.V cd)),per))
  (aP:aH b (m+2) "put_reference" [bB t u,.int a,au ((N:Int)+1)] (per.set t (.V (tab++[(.int ((N:Int)+1),.aF [.int 0,.V (h5 cd oa)])])))=some (.ret (.U .none),dg)):
  aH b (m+3) "insert_page" [bB t u,.int a,.V pd] per=some (.ret (.U (au ((N:Int)+1))),dg):=by
 refine c6 D9 ?_
 have jc:=sj (b:=b) (m:=m+1) (per:=per) (hd:=cd) z4 (by unfold oa;simp only [List.length_cons,List.length_nil];exact XZ ff)
 apply dp rfl
 ·refine aO (mF (by decide+kernel) rfl an) ?_
  refine aO (dc (dZ rfl rfl rfl rfl (bM (eR rfl (by decide+kernel) (by decide+kernel) (by decide+kernel) (by decide+kernel) rfl (by decide+kernel) (bM (eR rfl (by decide+kernel) (by decide+kernel) (by decide+kernel) (by decide+kernel) rfl (by decide+kernel) rfl hc) rfl (bM (qv (v:=gO "Page") (w:=.none) rfl rfl (by decide+kernel)) rfl rfl)) jc) rfl rfl) (sI (m:=m+1) aG ag dm)) rfl) ?_
  refine aO (mF (by decide+kernel) rfl aP) ?_
  exact cu (dD rfl rfl)
 ·rfl
end
end Mine
end
section
open PySem
namespace Mine
noncomputable def m3 (k:Int) (hd:List (al×H)):H:=.dS "Page" [("reference",au k),("fields",.V hd)]
noncomputable def yD:H->H
 |.dS _ ((_,r)::(_,h)::_)=>.dS "Page" [("reference",r),("fields",h)]
 |_=>.none
section
variable{b:Bool} {C CQ:cs} {n:Nat} {J aW:Scope} {fs fs₁ fs₂ fs₃ g4 fs':X} {R:bk} {o:Option (bE×X)} {p:Pos} {m:Nat} {t u:Nat} {per:List H} {tab bL:List (al×H)}
noncomputable def D6:Expr×Scope:=(eo (ce (aI 32) 0) [0],it (eo (ce (aI 32) 0) []))
theorem On {x:bO} (aG:per[t]? =some (.V tab)) (b2:per[u]? =some (.V bL)) (ae:kR tab bL x) (Rj:∀v∈ei x,∃k hd ab pg,v=bT k hd ab (er hd) pg/\(∀k∈fV,∀v,a9 (.str k) hd=some v->qj v)/\hd.length<=a4):
  aH b (m+7) "pages" [bB t u] per=some (.ret (.own (.am ((ei x).map yD))),per):=by
 refine c6 Pl ?_
 obtain⟨l,e⟩:=uK (R:=aJ b (aH b (m+6)) (aH false (m+6)) 38 D6.2) (per:=per) (elt:=D6.1) (x:="spot") (L:=[("shelf",.U (bB t u))]) (f:=yD) (items:=ei x) (fs:=⟨[("shelf",.U (bB t u))],per⟩)
  (fun v ay=>by
   refine rO (Rj v ay) ?_;intro k hd ab pg u;subst u;intro M O
   exact du (zW rfl (by decide+kernel) (by decide+kernel) (by decide+kernel) (by decide+kernel) rfl (bM rfl rfl (bM (eR rfl (by decide+kernel) (by decide+kernel) (by decide+kernel) (by decide+kernel) rfl (by decide+kernel) rfl (BI (m:=m+3) aG M O)) rfl rfl)) rfl) rfl) (.inl rfl)
 apply dp rfl
 ·exact cu (dD (h4 (gY rfl (du (eR rfl (by decide+kernel) (by decide+kernel) (by decide+kernel) (by decide+kernel) rfl (by decide+kernel) rfl (Ot (m:=m) aG b2 ae)) rfl)) (rd ae.fu) rfl e) rfl)
 ·rfl
end
end Mine
end
section
open PySem
namespace Mine
structure db where
 n:Int
 w:Int
 kh:Bool
noncomputable abbrev cD:=List (al×H)
noncomputable def db.d (p:db):cD:=(.str "N",.int p.n)::(.str "MediaBox",.am [.int 0,.int 0,.int p.w,.int 9])::(if p.kh then [(.str "Rotate",.int 90)] else [])
inductive af where
 |leaf (k:Int) (p:db) (par:Option Int)
 |node (k:Int) (par cnt:Option Int) (kids:List af)
noncomputable def af.num:af->Int
 |.leaf k _ _=>k
 |.node k _ _ _=>k
structure bg where
 k:Int
 par:Option Int
 cnt:Option Int
 c:db⊕List Int
 ab:List Int
noncomputable def GC (p:Option Int):cD:=(p.map fun j=>(al.str "Parent",au j)).toList
noncomputable def XA (p:Option Int):cD:=(p.map fun j=>(al.str "Count",H.int j)).toList
noncomputable def dU (par cnt:Option Int):db⊕List Int->cD
 |.inl p=>p.d++(.str "Type",gO "Page")::GC par
 |.inr l=>(.str "Type",gO "Pages")::(.str "Kids",.am (l.map au))::(GC par++XA cnt)
noncomputable def bg.hd (q:bg):cD:=dU q.par q.cnt q.c
noncomputable def bg.pg (q:bg):Bool:=q.c.isLeft
noncomputable def bg.sp (q:bg):cP:=⟨q.k,q.hd,q.ab,er q.hd,q.pg⟩
mutual
noncomputable def af.h0:af->bO
 |.leaf k p par=>.leaf k (dU par none (.inl p))
 |.node k par cnt kids=>.node k (dU par cnt (.inr (kids.map af.num))) (af.jn kids)
noncomputable def af.jn:List af->List bO
 |[]=>[]
 |x::r=>x.h0::af.jn r
end
mutual
noncomputable def af.ai (ab:List Int):af->List bg
 |.leaf k p par=>[⟨k,par,none,.inl p,ab⟩]
 |.node k par cnt kids=>⟨k,par,cnt,.inr (kids.map af.num),ab⟩::af.bD (ab++[k]) kids
noncomputable def af.bD (ab:List Int):List af->List bg
 |[]=>[]
 |x::r=>af.ai ab x++af.bD ab r
end
theorem af.all {P:af->Prop} {Q:List af->Prop} (M:∀k p par,P (.leaf k p par)) (O:∀k par cnt kids,Q kids->P (.node k par cnt kids)) (Y:Q []) (aC:∀x r,P x->Q r->Q (x::r)):(∀x,P x)/\∀l,Q l:=
 have h:∀x,P x:=fun x=>af.rec (motive_1:=P) (motive_2:=Q) M O Y aC x
 ⟨h,fun l=>List.rec Y (fun x r ih=>aC x r (h x) ih) l⟩
theorem Ad {x:af}:x.h0.num=x.num:=by cases x<;>rfl
theorem s5:∀{l:List af},af.jn l=l.map af.h0
 |[]=>rfl
 |x::r=>by unfold af.jn;refine B s5 ?_;rfl
theorem tQ {ab:List Int}:∀{l:List af},af.bD ab l=l.flatMap (af.ai ab)
 |[]=>rfl
 |x::r=>by unfold af.bD;refine B tQ ?_;rfl
theorem s3:(∀x:af,∀ab,gj ab x.h0=(x.ai ab).map bg.sp)/\∀l:List af,∀ab,nC ab (af.jn l)=(af.bD ab l).map bg.sp:=by
 apply af.all
 ·intro k p par ab;rfl
 ·intro k par cnt kids ih ab
  show _::nC (ab++[k]) (af.jn kids)=_::(af.bD (ab++[k]) kids).map bg.sp
  refine B (ih _) ?_;rfl
 ·intro ab;rfl
 ·intro x r M O ab
  show gj ab x.h0++nC ab (af.jn r)=(x.ai ab++af.bD ab r).map bg.sp
  (refine B (M _) ?_;refine B (O _) ?_;refine B List.map_append ?_;rfl)
noncomputable def cz (L:List bg):List Int:=L.map bg.k
theorem Ev:(∀x:af,∀ab,x.h0.da=cz (x.ai ab))/\∀l:List af,∀ab,bO.j8 (af.jn l)=cz (af.bD ab l):=by
 apply af.all
 ·intro k p par ab;rfl
 ·intro k par cnt kids ih ab
  show k::bO.j8 (af.jn kids)=k::cz (af.bD (ab++[k]) kids)
  rw [ih]
 ·intro ab;rfl
 ·intro x r M O ab
  show bO.da x.h0++bO.j8 (af.jn r)=cz (x.ai ab++af.bD ab r)
  (refine B (M ab) ?_;refine B (O ab) ?_);unfold cz;(refine B List.map_append ?_;rfl)
theorem tP:(∀x:af,∀ab,∀q∈x.ai ab,∃t,q.ab=ab++t/\t.length<(x.ai ab).length/\∀j∈t,j∈cz (x.ai ab))/\∀l:List af,∀ab,∀q∈af.bD ab l,∃t,q.ab=ab++t/\t.length<(af.bD ab l).length/\∀j∈t,j∈cz (af.bD ab l):=by
 apply af.all
 ·intro k p par ab q aA
  rw [af.ai,List.mem_singleton] at aA
  subst aA
  exact⟨[],by simp,by simp [af.ai],by simp⟩
 ·intro k par cnt kids ih ab q aA
  rw [af.ai] at aA|-
  rcases List.mem_cons.mp aA with rfl|aA
  ·exact⟨[],by simp,by simp,by simp⟩
  ·refine et (ih _ q aA) ?_;intro t M Y O
   refine⟨k::t,by refine B M ?_;simp,by simp;exact TB Y,fun j bF=> ?_⟩
   rcases List.mem_cons.mp bF with rfl|bF
   ·exact List.mem_cons_self
   ·exact List.mem_cons_of_mem _ (O j bF)
 ·intro ab q aA;cases aA
 ·intro x r M O ab q aA
  rw [af.bD] at aA|-
  unfold cz at*
  (refine B List.map_append ?_;refine B List.length_append ?_)
  rcases List.mem_append.mp aA with aA|aA
  ·refine et (M _ q aA) ?_;intro t ak bQ ar
   exact⟨t,ak,by exact SD bQ,fun j bF=>List.mem_append_left _ (ar j bF)⟩
  ·refine et (O _ q aA) ?_;intro t ak bQ ar
   exact⟨t,ak,by exact Tq bQ,fun j bF=>List.mem_append_right _ (ar j bF)⟩
noncomputable def g7 (tab:cD) (L:List bg):Prop:=∀q∈L,a9 (.int q.k) tab=some (.aF [.int 0,.V q.hd])
theorem so {par cnt:Option Int} {p:db}:GV (dU par cnt (.inl p)):=by
 obtain⟨n,w,kh⟩:=p
 refine⟨fun k ag v ay=> ?_,by cases kh<;>rfl⟩
 simp only [fV,List.mem_cons,List.not_mem_nil,or_false] at ag
 rcases ag with rfl|rfl|rfl|rfl<;>cases kh<;>cases par<;>first|(cases ay;done)|(injection ay with ay;subst ay;exact⟨rfl,rfl⟩)
theorem Fe {par cnt:Option Int} {kids:List af}:wb (dU par cnt (.inr (kids.map af.num))) (af.jn kids):=by
 refine⟨fun k ag=> ?_,rfl,?_⟩
 ·simp only [fV,List.mem_cons,List.not_mem_nil,or_false] at ag
  rcases ag with rfl|rfl|rfl|rfl<;>cases par<;>cases cnt<;>rfl
 ·(refine B s5 ?_;refine B List.map_map ?_)
  show some (H.am ((kids.map af.num).map au))=_
  refine B List.map_map ?_
  congr 2
  apply List.map_congr_left
  intro x _
  show au x.num=au x.h0.num
  (refine B Ad ?_;rfl)
theorem Ug {tab:cD}:(∀x:af,∀ab,g7 tab (x.ai ab)->qy tab x.h0)/\∀l:List af,∀ab,g7 tab (af.bD ab l)->rc tab (af.jn l):=by
 apply af.all
 ·intro k p par ab h
  exact⟨h _ List.mem_cons_self,so⟩
 ·intro k par cnt kids ih ab h
  exact⟨h _ List.mem_cons_self,Fe,ih _ fun q aA=>h q (List.mem_cons_of_mem _ aA)⟩
 ·intro ab h;trivial
 ·intro x r M O ab h
  exact⟨M ab fun q aA=>h q (List.mem_append_left _ aA),O ab fun q aA=>h q (List.mem_append_right _ aA)⟩
end Mine
end
section
open PySem
namespace Mine
theorem XH:ds "kid_with"=some (aI 36):=by kernel_rfl
theorem RA:ds "page_at"=some (aI 35):=by kernel_rfl
mutual
noncomputable def af.bh:af->List (Int×db×Option Int)
 |.leaf k p par=>[(k,p,par)]
 |.node _ _ _ kids=>af.fZ kids
noncomputable def af.fZ:List af->List (Int×db×Option Int)
 |[]=>[]
 |x::r=>x.bh++af.fZ r
end
mutual
noncomputable def af.oE:af->Prop
 |.leaf ..=>True
 |.node _ _ cnt kids=>cnt=some ((af.fZ kids).length:Int)/\af.pT kids
noncomputable def af.pT:List af->Prop
 |[]=>True
 |x::r=>x.oE/\af.pT r
end
noncomputable def af.sv (ab:List Int):af->H
 |.leaf k p par=>bT k (dU par none (.inl p)) (ab.map au) (er (dU par none (.inl p))) true
 |.node k par cnt kids=>bT k (dU par cnt (.inr (kids.map af.num))) (ab.map au) [] false
noncomputable def Ef (J:Scope) (f:Str):Bool:=decide (J.names.lookup f=some .globalImplicit)&&(!(["isinstance","min","Shelf"]:List Str).contains f&&(!mn.contains f&&((jl f).isNone&&kl f)))
section
variable{b:Bool} {C CQ:cs} {n:Nat} {J aW:Scope} {fs fs₁ fs₂ fs₃ g4 fs':X} {R:bk} {o:Option (bE×X)} {p:Pos} {m:Nat} {t u:Nat} {per:List H} {tab bL:List (al×H)}
theorem dt {f args q vs r per} (h:Ef J f=true) (bA:dk (aJ b C CQ n J) args fs=some (vs,fs₁)) (hc:C f vs fs₁.per=some (.ret r,per)):(aJ b C CQ (n+1) J).ba (.Call (.Name f p) args [] q) fs=some (r,{fs₁ with per:=per}):=by
 unfold Ef at h
 simp only [Bool.and_eq_true,decide_eq_true_eq,Bool.not_eq_true',Option.isNone_iff_eq_none] at h
 refine jV h ?_;clear h;intro aL M O Y aC
 have iB:∀g∈(["isinstance","min","Shelf"]:List Str),f≠g:=fun g bi e=>by
  subst e
  have:=List.contains_iff_mem.mpr bi
  replace this:=M▸this;cases this
 exact eR aL (iB _ (by simp)) (iB _ (by simp)) (by refine B O ?_;decide) (iB _ (by simp)) Y aC bA hc
theorem D0 {x:af} {ab:List Int} (aG:per[t]? =some (.V tab)) (h:g7 tab (x.ai ab)):aH b (m+4) "met" [bB t u,au x.num,.aF (ab.map au),.V []] per=some (.ret (.U (x.sv ab)),per):=by
 cases x with
 |leaf k q par=>exact sX (x:=false) aG (h _ List.mem_cons_self) so.1 so.2
 |node k par cnt kids=>
  have g:=Fe (par:=par) (cnt:=cnt) (kids:=kids)
  have:=sX (b:=b) (m:=m) (u:=u) (ab:=ab.map au) (x:=true) aG (h _ List.mem_cons_self) (fun k ag v e=>by(rw [show bg.hd _=dU par cnt (.inr (kids.map af.num)) from rfl] at e;replace e:=(g.1 k ag)▸e);cases e) g.2.1
  have aR:er (bg.hd ⟨k,par,cnt,.inr (kids.map af.num),ab⟩)=[]:=xv g
  replace this:=aR▸this
  exact this
noncomputable def F7 (t u:Nat) (sp:H) (left:Int) (kid:H) (per:List H):X:=⟨[("shelf",.U (bB t u)),("spot",.U sp),("left",.U (.int left)),("kid",.U kid)],per⟩
noncomputable def jW (t u:Nat) (sp:H) (left:Int) (kid below count:H) (per:List H):X:=⟨[("shelf",.U (bB t u)),("spot",.U sp),("left",.U (.int left)),("kid",.U kid),("below",.U below),("count",.U count)],per⟩
noncomputable def pW:List Stmt:=d5 (ce (aI 36) 0)
noncomputable abbrev po (b:Bool) (CQ:cs) (m n:Nat):bk:=aJ b (aH b (m+4)) CQ (n+20) (bN (aI 36))
theorem ov {x y:Int} {z:Bool} (h:decide (x<y)=z):eF .Lt (.int x) (.int y)=some z:=by
 show some (decide (x<y))=_;(refine B h ?_;rfl)
theorem S8 {z:af} {k left:Int} {hd:cD} {ab:List Int} (aB:fs=F7 t u (bT k hd (ab.map au) [] false) left (au z.num) per\/∃x y,fs=jW t u (bT k hd (ab.map au) [] false) left (au z.num) x y per) (aG:per[t]? =some (.V tab)) (h:g7 tab (z.ai (ab++[k]))) (hc:z.oE) (bA:ab.length<900):
  cO (po b CQ m n) pW fs=cO (po b CQ m n) (pW.drop 3) (jW t u (bT k hd (ab.map au) [] false) left (au z.num) (z.sv (ab++[k])) (.int z.bh.length) per):=by
 have aY:=D0 (b:=b) (m:=m) (u:=u) (ab:=ab++[k]) aG h
 replace aY:=List.map_append▸aY
 have aR:=FT (b:=b) (m:=m+3) (per:=per) (i:=(z.bh.length:Int))
 replace aR:=(decide_eq_true (Int.natCast_nonneg _))▸aR
 have ar:(po b CQ m n).de ((pW[2]?).getD default) (jW t u (bT k hd (ab.map au) [] false) left (au z.num) (z.sv (ab++[k])) (.int z.bh.length) per)=some (.next,jW t u (bT k hd (ab.map au) [] false) left (au z.num) (z.sv (ab++[k])) (.int z.bh.length) per):=
  co false (je (t:=true) (jZ (dt rfl rfl aR))) rfl
 have AN:=td (x:=ab.map au) (y:=[au k]) (by refine B (List.length_map _) ?_;unfold a4;simp;exact NG bA)
 cases z with
 |leaf cS q par=>
  rcases aB with rfl|⟨x,y,rfl⟩<;>
  exact aO (dc (dt rfl (bM rfl rfl (bM rfl rfl (bM (dB rfl rfl rfl rfl AN) rfl rfl))) aY) rfl) (aO (dc (mO true rfl rfl) rfl) (aO ar rfl))
 |node cS par cnt kids=>
  refine cl hc ?_;clear hc;intro hc _
  subst hc
  rcases aB with rfl|⟨x,y,rfl⟩<;>
  exact aO (dc (dt rfl (bM rfl rfl (bM rfl rfl (bM (dB rfl rfl rfl rfl AN) rfl rfl))) aY) rfl) (aO (dc (mO false rfl (dZ rfl rfl rfl rfl rfl (kE (m:=m+2) aG (v:=.int (af.fZ kids).length) (by cases par<;>rfl) (.hM rfl)))) rfl) (aO ar rfl))
theorem SK {sp kid below:H} {left c:Int} (h:left<c):cO (po b CQ m n) (pW.drop 3) (jW t u sp left kid below (.int c) per)=some (.ret (.U (.aF [below,.int left])),jW t u sp left kid below (.int c) per)\/iI below=false:=by
 cases ah:iI below with
 |false=>exact .inr rfl
 |true=>exact .inl (cu (co true (cR rfl rfl rfl rfl (ov (decide_eq_true h)) rfl) (cu (dD rfl rfl))))
theorem Mn {sp kid below:H} {left c:Int} (h:¬left<c):cO (po b CQ m n) (pW.drop 3) (jW t u sp left kid below (.int c) per)=some (.next,jW t u sp (left-c) kid below (.int c) per):=
 aO (co false (cR rfl rfl rfl rfl (ov (decide_eq_false h)) rfl) rfl) (aO (dc rfl rfl) rfl)
end
end Mine
end
section
open PySem
namespace Mine
noncomputable def BZ (J:Scope) (f:Str):Bool:=decide (J.names.lookup f=some .globalImplicit)&&(!(["isinstance","min"]:List Str).contains f&&mn.contains f)
theorem CD {z:af} {ab:List Int}:∀{l:List af},z∈l->(z.ai ab).length<=(af.bD ab l).length/\∀q∈z.ai ab,q∈af.bD ab l
 |x::r,h=>by
  (rw [af.bD];refine B List.length_append ?_)
  rcases List.mem_cons.mp h with rfl|h
  ·exact⟨by exact G5,fun q aA=>List.mem_append_left _ aA⟩
  ·have:=CD (ab:=ab) h
   exact⟨by omega,fun q aA=>List.mem_append_right _ (this.2 q aA)⟩
theorem GX {z:af}:∀{l:List af},af.pT l->z∈l->z.oE
 |x::r,h,hz=>by
  rcases List.mem_cons.mp hz with rfl|hz
  ·exact h.1
  ·exact GX h.2 hz
section
variable{b:Bool} {C CQ:cs} {n:Nat} {J aW:Scope} {fs fs₁ fs₂ fs₃ g4 fs':X} {R:bk} {o:Option (bE×X)} {p:Pos} {m:Nat} {t u:Nat} {per:List H} {tab bL:List (al×H)}
theorem fb {f:Str} {e:Expr} {q:Pos} {r r':aU} {v:H} (h:BZ J f=true) (aX:(aJ b C CQ n J).ba e fs=some (r,fs₁)) (hd:fs₁.cE r=some v) (aC:gC f v=some r'):(aJ b C CQ (n+1) J).ba (.Call (.Name f p) [e] [] q) fs=some (r',fs₁):=by
 unfold BZ at h
 simp only [Bool.and_eq_true,decide_eq_true_eq,Bool.not_eq_true'] at h
 refine ef h ?_;clear h;intro aL M O
 have iB:∀g∈(["isinstance","min"]:List Str),f≠g:=fun g bi e=>by
  subst e
  have:=List.contains_iff_mem.mpr bi
  replace this:=M▸this;cases this
 exact kA aL (iB _ (by simp)) (iB _ (by simp)) O aX hd aC
noncomputable def XG (t u:Nat) (sp:H) (left:Int) (per:List H):X:=⟨[("shelf",.U (bB t u)),("spot",.U sp),("left",.U (.int left))],per⟩
theorem H2 {z:af} {ab:List Int}:iI (z.sv ab)=true:=by cases z<;>rfl
theorem Fg {k:Int} {hd:cD} {ab:List Int} (aG:per[t]? =some (.V tab)) (bA:ab.length<900):∀{l:List af} {left:Nat} {fs:X},(fs=XG t u (bT k hd (ab.map au) [] false) left per\/∃x y z,fs=jW t u (bT k hd (ab.map au) [] false) left x y z per)->
  g7 tab (af.bD (ab++[k]) l)->af.pT l->left<(af.fZ l).length->
  ∃z iA fs',f5 (po b CQ m n) (bN (aI 36)) "kid" pW (l.map fun z=>au z.num) fs=some (.ret (.U (.aF [z.sv (ab++[k]),.int (iA:Nat)])),fs')/\fs'.per=per/\z∈l/\iA<z.bh.length/\z.bh[iA]? =(af.fZ l)[left]?
 |[],left,fs,_,_,_,aq=>by cases aq
 |z::l,left,fs,aB,aR,hc,aq=>by
  have P0:g7 tab (z.ai (ab++[k])):=fun q aA=>aR q (List.mem_append_left _ aA)
  have pk:g7 tab (af.bD (ab++[k]) l):=fun q aA=>aR q (List.mem_append_right _ aA)
  have d3:∃fs₁,eQ (bN (aI 36)) "kid" (.U (au z.num)) fs=some fs₁/\(fs₁=F7 t u (bT k hd (ab.map au) [] false) left (au z.num) per\/∃x y,fs₁=jW t u (bT k hd (ab.map au) [] false) left (au z.num) x y per):=by
   rcases aB with rfl|⟨x,y,w,rfl⟩
   ·exact⟨_,rfl,.inl rfl⟩
   ·exact⟨_,rfl,.inr ⟨y,w,rfl⟩⟩
  refine bb d3 ?_;clear d3;intro fs₁ ak ar
  have bQ:=S8 (b:=b) (CQ:=CQ) (n:=n) (m:=m) ar aG P0 hc.1 bA
  rw [af.fZ] at aq|-
  by_cases h:left<z.bh.length
  ·have cX:=(SK (b:=b) (CQ:=CQ) (n:=n) (m:=m) (t:=t) (u:=u) (per:=per) (sp:=bT k hd (ab.map au) [] false) (kid:=au z.num) (below:=z.sv (ab++[k])) (left:=left) (c:=z.bh.length) (by exact ug h)).resolve_right (by refine B H2 ?_;decide)
   exact⟨z,left,_,zF ak (bQ.trans cX),rfl,List.mem_cons_self,h,by(refine B (List.getElem?_append_left h) ?_;rfl)⟩
  ·have cX:=Mn (b:=b) (CQ:=CQ) (n:=n) (m:=m) (t:=t) (u:=u) (per:=per) (sp:=bT k hd (ab.map au) [] false) (kid:=au z.num) (below:=z.sv (ab++[k])) (left:=left) (c:=z.bh.length) (by exact w5 h)
   replace aq:=List.length_append▸aq
   refine ve (Fg aG bA (l:=l) (left:=left-z.bh.length) (fs:=jW t u (bT k hd (ab.map au) [] false) ((left:Int)-z.bh.length) (au z.num) (z.sv (ab++[k])) (.int z.bh.length) per) (.inr ⟨_,_,_,by(refine B (Int.ofNat_sub (by exact vN h)) ?_;rfl)⟩) pk hc.2 (by exact Mz h aq)) ?_;intro K8 iA fs' bH b7 c7 fm hK
   exact⟨K8,iA,fs',fM ak (bQ.trans cX) bH,b7,List.mem_cons_of_mem _ c7,fm,by(refine B hK ?_;refine B (List.getElem?_append_right (by exact vN h)) ?_;rfl)⟩
theorem W4 {k:Int} {par cnt:Option Int} {kids:List af} {ab:List Int} {left:Nat} (aG:per[t]? =some (.V tab)) (bA:ab.length<900) (aR:g7 tab (af.bD (ab++[k]) kids)) (hc:af.pT kids) (aq:left<(af.fZ kids).length):
  ∃z iA,aH b (m+5) "kid_with" [bB t u,af.sv ab (.node k par cnt kids),.int left] per=some (.ret (.U (.aF [z.sv (ab++[k]),.int (iA:Nat)])),per)/\z∈kids/\iA<z.bh.length/\z.bh[iA]? =(af.fZ kids)[left]? :=by
 refine dH (Fg (b:=b) (CQ:=aH false (m+4)) (m:=m) (n:=19) (u:=u) (hd:=dU par cnt (.inr (kids.map af.num))) aG bA (.inl rfl) aR hc aq) ?_;intro z iA fs' bH b7 c7
 refine⟨z,iA,c6 XH ?_,c7⟩
 have ag:=pB (b:=b) (m:=m+1) (u:=u) (hd:=dU par cnt (.inr (kids.map af.num))) (v:=.am ((kids.map af.num).map au)) (l:=(kids.map af.num).map au) aG rfl (.hM rfl)
 replace ag:=List.map_map▸ag
 apply dp rfl
 ·exact cu (g6 (gY rfl (du (dt rfl rfl ag) rfl)) bH)
 ·exact b7
noncomputable def uk (t u:Nat) (a:Int) (sp:H) (left:Int) (per:List H):X:=⟨[("shelf",.U (bB t u)),("at",.U (.int a)),("spot",.U sp),("left",.U (.int left))],per⟩
theorem MP {l:List H} (h:l.length<=a4):gC "len" (.aF l)=some (.U (.int l.length)):=yK rfl h
theorem Lx {l:cD} (h:l.length<=a4):gC "len" (.V l)=some (.U (.int l.length)):=yK rfl h
theorem vl {x y:Int} {z:Bool} (h:decide (y<x)=z):eF .Gt (.int x) (.int y)=some z:=by
 show some (decide (y<x))=_;(refine B h ?_;rfl)
theorem Xg (aG:per[t]? =some (.V tab)) (zt:tab.length<900) {a:Int}:(∀x:af,∀ab (left fuel:Nat),g7 tab (x.ai ab)->x.oE->left<x.bh.length->ab.length+(x.ai ab).length<=tab.length->(x.ai ab).length<=fuel->
  ∃k q par ab' c8,gz (aJ b (aH b (m+5)) CQ (n+20) (bN (aI 35))) (mi (ce (aI 35) 3)) (d5 (ce (aI 35) 3)) fuel (uk t u a (x.sv ab) left per)=some (.next,uk t u a (af.sv ab' (.leaf k q par)) c8 per)/\x.bh[left]? =some (k,q,par))/\
  ∀l:List af,∀x∈l,∀ab (left fuel:Nat),g7 tab (x.ai ab)->x.oE->left<x.bh.length->ab.length+(x.ai ab).length<=tab.length->(x.ai ab).length<=fuel->
  ∃k q par ab' c8,gz (aJ b (aH b (m+5)) CQ (n+20) (bN (aI 35))) (mi (ce (aI 35) 3)) (d5 (ce (aI 35) 3)) fuel (uk t u a (x.sv ab) left per)=some (.next,uk t u a (af.sv ab' (.leaf k q par)) c8 per)/\x.bh[left]? =some (k,q,par):=by
 apply af.all
 ·intro k q par ab left fuel aR hc aq hd aB
  rw [af.ai] at aB
  obtain⟨f,rfl⟩:∃f,fuel=f+1:=⟨fuel-1,by simp at aB;exact TU aB⟩
  rw [af.bh] at aq|-
  have:left=0:=by simpa using aq
  subst this
  exact⟨k,q,par,ab,_,w_end rfl,rfl⟩
 ·intro k par cnt kids ih ab left fuel aR hc aq hd aB
  rw [af.ai] at aB hd aR
  simp only [List.length_cons] at aB hd
  obtain⟨f,rfl⟩:∃f,fuel=f+1:=⟨fuel-1,by exact NQ aB⟩
  rw [af.bh] at aq|-
  have pk:g7 tab (af.bD (ab++[k]) kids):=fun q aA=>aR q (List.mem_cons_of_mem _ aA)
  refine gv (W4 (b:=b) (m:=m) (u:=u) (par:=par) (cnt:=cnt) aG (by exact Ie zt hd) pk hc.2 aq) ?_;intro z iA ak ar bQ cX
  have hz:=CD (ab:=ab++[k]) ar
  have oG:g7 tab (z.ai (ab++[k])):=fun q aA=>pk q (hz.2 q aA)
  have T4:=GX hc.2 ar
  have mv:=hz.1
  refine xS (ih z ar (ab++[k]) iA f oG T4 bQ (by simp;exact Ur hd mv) (by exact PW aB mv)) ?_;intro cS cI xl ab' c8 bH b7
  refine⟨cS,cI,xl,ab',c8,oI (je (t:=false) rfl) ?_ bH,by(refine bu cX ?_;refine B b7 ?_;rfl)⟩
  refine aO (co false (cR (fb rfl rfl rfl (MP (l:=ab.map au) (by refine B (List.length_map _) ?_;unfold a4;exact Vh zt hd))) (fb rfl rfl aG (Lx (by unfold a4;exact j5 zt))) rfl rfl (vl (decide_eq_false (by refine B (List.length_map _) ?_;exact LF hd))) rfl) rfl) ?_
  exact aO (lq (vs:=[z.sv (ab++[k]),.int (iA:Nat)]) rfl (dt rfl rfl ak) (Nat.le_of_ble_eq_true rfl) rfl) rfl
 ·intro x ae;cases ae
 ·intro x r M O y aQ
  rcases List.mem_cons.mp aQ with rfl|aQ
  ·exact M
  ·exact O y aQ
end
end Mine
end
section
open PySem
namespace Mine
noncomputable def under:List bg->Int->Nat
 |[],_=>0
 |q::r,k=>(if q.pg then q.ab.count k else 0)+under r k
theorem tj {k:Int}:∀{A ap:List bg},under (A++ap) k=under A k+under ap k
 |[],ap=>by show under ap k=0+under ap k;exact TK
 |q::A,ap=>by
  show _+under (A++ap) k=_+under A k+under ap k
  refine B tj ?_;exact Qv
theorem pD {A ap:List bg}:cz (A++ap)=cz A++cz ap:=List.map_append
theorem xz {k:Int}:(∀x:af,∀ab,k∉cz (x.ai ab)->under (x.ai ab) k=x.bh.length*ab.count k)/\∀l:List af,∀ab,k∉cz (af.bD ab l)->under (af.bD ab l) k=(af.fZ l).length*ab.count k:=by
 apply af.all
 ·intro j p par ab h
  show ab.count k+0=1*_
  exact HQ
 ·intro j par cnt kids ih ab h
  rw [af.ai] at h|-
  refine cl (not_or.mp (fun q=>h (List.mem_cons.mpr q))) ?_;intro M O
  show 0+under (af.bD (ab++[j]) kids) k=_
  (refine B (ih _ O) ?_;refine B List.count_append ?_;refine B List.count_singleton ?_;rw [af.bh])
  rw [if_neg (by simpa using fun e=>M e.symm),Nat.add_zero,Nat.zero_add]
 ·intro ab h;show 0=0*_;exact HU
 ·intro x r M O ab h
  (rw [af.bD] at h;replace h:=pD▸h)
  refine cl (not_or.mp (fun q=>h (List.mem_append.mpr q))) ?_;intro bH b7
  (rw [af.bD];refine B tj ?_;refine B (M _ bH) ?_;refine B (O _ b7) ?_;rw [af.fZ];refine B List.length_append ?_;refine B (Nat.add_mul _ _ _) ?_;rfl)
theorem RD:(∀x:af,∀ab,(cz (x.ai ab)).Nodup->(∀j∈cz (x.ai ab),j∉ab)->(∀q∈x.ai ab,q.pg=false->q.cnt=some (under (x.ai ab) q.k:Int))->x.oE)/\
  ∀l:List af,∀ab,(cz (af.bD ab l)).Nodup->(∀j∈cz (af.bD ab l),j∉ab)->(∀q∈af.bD ab l,q.pg=false->q.cnt=some (under (af.bD ab l) q.k:Int))->af.pT l:=by
 apply af.all
 ·intros;trivial
 ·intro k par cnt kids ih ab M O Y
  rw [af.ai] at M O Y
  refine cl (List.nodup_cons.mp M) ?_;intro bH b7
  have e:∀j,under ((⟨k,par,cnt,.inr (kids.map af.num),ab⟩:bg)::af.bD (ab++[k]) kids) j=under (af.bD (ab++[k]) kids) j:=fun j=>by
   show 0+_=_;exact AT
  refine⟨?_,ih (ab++[k]) b7 (fun j bF q=> ?_) fun q aA an=>by(refine B (Y q (List.mem_cons_of_mem _ aA) an) ?_;refine B (e _) ?_;rfl)⟩
  ·have aC:cnt=_:=Y _ List.mem_cons_self rfl
   dsimp only at aC
   (refine B aC ?_;refine B (e _) ?_;refine B (xz.2 kids _ bH) ?_;refine B List.count_append ?_;refine B List.count_singleton ?_;refine B (List.count_eq_zero.mpr (O k List.mem_cons_self)) ?_)
   simp
  ·rcases List.mem_append.mp q with q|q
   ·exact O j (List.mem_cons_of_mem _ bF) q
   ·rw [List.mem_singleton] at q
    subst q
    exact bH bF
 ·intros;trivial
 ·intro x r M O ab bH b7 c7
  rw [af.bD] at bH b7 c7
  rw [pD] at bH b7
  refine ef (List.nodup_append.mp bH) ?_;intro hk jt hl
  have z:∀{L:List bg} {q:bg},q∈L->q.k∈cz L:=fun aA=>List.mem_map_of_mem aA
  refine⟨M ab hk (fun j bF=>b7 j (List.mem_append_left _ bF)) fun q aA an=> ?_,O ab jt (fun j bF=>b7 j (List.mem_append_right _ bF)) fun q aA an=> ?_⟩
  ·(refine B (c7 q (List.mem_append_left _ aA) an) ?_;refine B tj ?_;refine B (xz.2 r ab (fun h=>hl _ (z aA) _ h rfl)) ?_;refine B (List.count_eq_zero.mpr (b7 _ (List.mem_append_left _ (z aA)))) ?_)
   simp
  ·(refine B (c7 q (List.mem_append_right _ aA) an) ?_;refine B tj ?_;refine B (xz.1 x ab (fun h=>hl _ h _ (z aA) rfl)) ?_;refine B (List.count_eq_zero.mpr (b7 _ (List.mem_append_right _ (z aA)))) ?_)
   simp
theorem Ae {k:Int}:∀{ab:List Int} {d:cD} {c:Int},a9 (.int k) d=some (.int c)->a9 (.int k) (ab.foldl gF d)=some (.int (c+(ab.count k:Nat)))
 |[],d,c,h=>by simpa using h
 |j::ab,d,c,h=>by
  (refine B List.foldl_cons ?_;refine B List.count_cons ?_)
  have e:a9 (.int k) (gF d j)=some (.int (if j=k then c+1 else c)):=by
   unfold gF
   by_cases bF:j=k
   ·subst bF;refine B h ?_;dsimp only [kJ,kX,kN,kP,kG,kU,kK,k7];(refine B gU ?_;refine B (if_pos rfl) ?_;refine B (if_pos rfl) ?_;rfl)
   ·refine B (if_neg bF) ?_
    split
    ·(refine B gU ?_;refine B (if_neg (fun e=>bF (by injection e with e;exact e.symm))) ?_;refine B h ?_;rfl)
    ·exact h
  refine B (Ae e) ?_
  by_cases bF:j=k
  ·subst bF;simp;exact JN
  ·have:(j==k)=false:=by simpa using bF
   (refine B (if_neg bF) ?_;refine B this ?_);simp
theorem yB {k:Int}:∀{L:List bg} {d:cD} {c:Int},a9 (.int k) d=some (.int c)->a9 (.int k) ((L.map bg.sp).foldl jg d)=some (.int (c+(under L k:Nat)))
 |[],d,c,h=>by show _=some (H.int (c+((0:Nat):Int)));simpa using h
 |q::L,d,c,h=>by
  (refine B List.map_cons ?_;refine B List.foldl_cons ?_)
  have e:a9 (.int k) (jg d q.sp)=some (.int (c+(if q.pg then q.ab.count k else 0:Nat))):=by
   unfold jg
   show a9 _ (if q.pg then q.ab.foldl gF d else d)=_
   cases q.pg
   ·simpa using h
   ·exact Ae h
  refine B (yB e) ?_
  show _=some (H.int (c+((_+under L k:Nat):Int)))
  congr 2
  push_cast
  exact MC
theorem F2:∀{L:List bg} {d:cD} {j:Int},j∉cz L->a9 (.int j) ((L.map bg.sp).foldl hq d)=a9 (.int j) d
 |[],d,j,_=>rfl
 |q::L,d,j,h=>by
  refine cl (not_or.mp (fun z=>h (List.mem_cons.mpr z))) ?_;intro M O
  (refine B List.map_cons ?_;refine B List.foldl_cons ?_;refine B (F2 O) ?_)
  unfold hq
  (refine B gU ?_;refine B (if_neg (fun e=>M (by injection e))) ?_;rfl)
theorem uh {L:List bg}:∀{d:cD},(cz L).Nodup->∀q∈L,a9 (.int q.k) ((L.map bg.sp).foldl hq d)=some (.int (if q.pg then 1 else 0)):=by
 induction L with
 |nil=>intro d _ q aA;exact(List.not_mem_nil aA).elim
 |cons cI L ih=>
  intro d aE q aA
  refine cl (List.nodup_cons.mp aE) ?_;intro M O
  (refine B List.map_cons ?_;refine B List.foldl_cons ?_)
  rcases List.mem_cons.mp aA with rfl|aA
  ·refine B (F2 M) ?_
   unfold hq
   refine B gU ?_
   exact if_pos rfl
  ·exact ih O q aA
end Mine
end
section
open PySem
namespace Mine
noncomputable def bg.gZ (g:Int->Int) (q:bg):bg:=⟨q.k,q.ab.getLast?,if q.pg then none else some (g q.k),q.c,q.ab⟩
mutual
noncomputable def af.gZ (g:Int->Int) (par:Option Int):af->af
 |.leaf k p _=>.leaf k p par
 |.node k _ _ kids=>.node k par (some (g k)) (af.pK g (some k) kids)
noncomputable def af.pK (g:Int->Int) (par:Option Int):List af->List af
 |[]=>[]
 |x::r=>x.gZ g par::af.pK g par r
end
theorem EE {g:Int->Int} {par:Option Int} {x:af}:(x.gZ g par).num=x.num:=by cases x<;>rfl
theorem C8 {g:Int->Int} {par:Option Int}:∀{l:List af},(af.pK g par l).map af.num=l.map af.num
 |[]=>rfl
 |x::r=>by(rw [af.pK];refine B List.map_cons ?_;refine B List.map_cons ?_;refine B C8 ?_;refine B EE ?_;rfl)
theorem Xk {g:Int->Int}:(∀x:af,∀ab,(x.gZ g ab.getLast?).ai ab=(x.ai ab).map (bg.gZ g))/\∀l:List af,∀ab,af.bD ab (af.pK g ab.getLast? l)=(af.bD ab l).map (bg.gZ g):=by
 apply af.all
 ·intro k p par ab;rfl
 ·intro k par cnt kids ih ab
  have:=ih (ab++[k])
  replace this:=List.getLast?_concat▸this
  (rw [af.gZ,af.ai];refine B this ?_;refine B C8 ?_);rfl
 ·intro ab;rfl
 ·intro x r M O ab
  (rw [af.pK,af.bD];refine B (M _) ?_;refine B (O _) ?_;rw [af.bD];refine B List.map_append ?_;rfl)
noncomputable def wI (L:List bg):Prop:=∀q∈L,q.par=q.ab.getLast? \/(q.par=none/\q.cnt=none)
theorem R0 {s:cP} {x:Option Int} {c:Int}:hW s x c=(if x=s.ab.getLast? then([]:cD) else [(.str "Parent",(s.ab.getLast?.map au).getD .none)])++(if l7 s c then [] else [(.str "Count",.int c)]):=by
 unfold hW kg
 cases s.ab.getLast? with
 |none=>by_cases h:x=none<;>simp [h]
 |some j=>by_cases h:x=some j<;>simp [h]
theorem KC:(∀x:af,∀ab,∀q∈x.ai ab,q.pg=true->q.cnt=none)/\∀l:List af,∀ab,∀q∈af.bD ab l,q.pg=true->q.cnt=none:=by
 apply af.all
 ·intro k p par ab q aA _
  rw [af.ai,List.mem_singleton] at aA
  subst aA;rfl
 ·intro k par cnt kids ih ab q aA an
  rw [af.ai] at aA
  rcases List.mem_cons.mp aA with rfl|aA
  ·cases an
  ·exact ih _ q aA an
 ·intro ab q aA;cases aA
 ·intro x r M O ab q aA
  rcases List.mem_append.mp aA with aA|aA
  ·exact M _ q aA
  ·exact O _ q aA
theorem Yh {par cnt y:Option Int} {e:db⊕List Int} {z:Bool} {c:Int} (h:par=y\/(par=none/\cnt=none)) (hc:e.isLeft=true->cnt=none) (hz:z=match e,cnt with|.inl _,_=>true|.inr _,some d=>d==c|.inr _,none=>false):
  h5 (dU par cnt e) ((if par=y then([]:cD) else [(.str "Parent",(y.map au).getD .none)])++(if z then [] else [(.str "Count",.int c)]))=dU y (if e.isLeft then none else some c) e:=by
 subst hz
 cases e with
 |inl p=>
  have hc:cnt=none:=hc rfl
  subst hc
  obtain⟨n,w,kh⟩:=p
  dsimp only [kJ,kX,kN,kP,kG,kU,kK,k7]
  (refine B (if_pos rfl) ?_;refine B (List.append_nil _) ?_)
  by_cases an:par=y
  ·(refine B (if_pos an) ?_;refine B an ?_);rfl
  ·refine B (if_neg an) ?_
   refine cl (h.resolve_left an) ?_;intro u;subst u;intro _
   cases y with
   |none=>exact absurd rfl an
   |some j=>cases kh<;>rfl
 |inr l=>
  by_cases an:par=y
  ·refine B (if_pos an) ?_
   subst an
   cases cnt with
   |none=>cases par<;>rfl
   |some d=>
    dsimp only [kJ,kX,kN,kP,kG,kU,kK,k7]
    by_cases hd:d=c
    ·(refine B (if_pos (by simpa using hd)) ?_;refine B hd ?_);rfl
    ·refine B (if_neg (by simpa using hd)) ?_;cases par<;>rfl
  ·refine B (if_neg an) ?_
   refine cl (h.resolve_left an) ?_;intro u;subst u;intro u;subst u
   cases y with
   |none=>exact absurd rfl an
   |some j=>rfl
theorem Kz {q:bg} {g:Int->Int} {c:Int} (h:q.par=q.ab.getLast? \/(q.par=none/\q.cnt=none)) (hc:q.pg=true->q.cnt=none) (bi:q.pg=false->c=g q.k):h5 q.hd (hW q.sp q.par c)=(q.gZ g).hd:=by
 obtain⟨k,par,cnt,e,ab⟩:=q
 refine B R0 ?_
 refine(Yh h hc ?_).trans ?_
 ·cases e with
  |inl p=>rfl
  |inr l=>cases par<;>cases cnt<;>rfl
 ·cases e with
  |inl p=>rfl
  |inr l=>
   have bi:c=g k:=bi rfl
   subst bi;rfl
theorem xJ {k:al} {v:H}:∀{l:cD},(a9 k l).isSome=true->(cU k v l).map (·.1)=l.map (·.1)
 |[],h=>by cases h
 |(y,w)::r,h=>by
  unfold a9 at h
  unfold cU
  by_cases e:k=y
  ·refine B (if_pos e) ?_;rfl
  ·rw [if_neg e] at h|-
   (refine B List.map_cons ?_;refine B (xJ h) ?_);rfl
theorem RN {tab:cD} {s:cP} {x:Option Int} {c j:Int} (h:a9 (.int s.k) tab=some (.aF [.int 0,.V s.hd])):a9 (.int j) (jy tab s x c)=(if j=s.k then some (.aF [.int 0,.V (h5 s.hd (hW s x c))]) else a9 (.int j) tab)/\(jy tab s x c).map (·.1)=tab.map (·.1):=by
 unfold jy
 cases hc:hW s x c with
 |nil=>
  (refine B List.isEmpty_nil ?_;refine B (if_pos rfl) ?_)
  refine⟨?_,rfl⟩
  by_cases e:j=s.k
  ·(refine B (if_pos e) ?_;refine B e ?_;refine B h ?_);rfl
  ·(refine B (if_neg e) ?_;rfl)
 |cons a l=>
  (refine B List.isEmpty_cons ?_;refine B (if_neg (by decide)) ?_;refine B gU ?_)
  refine⟨?_,xJ (by refine B h ?_;rfl)⟩
  by_cases e:j=s.k
  ·(refine B (if_pos (by rw [e])) ?_;refine B (if_pos e) ?_;rfl)
  ·(refine B (if_neg (fun q=>e (by injection q))) ?_;refine B (if_neg e) ?_;rfl)
theorem Fm {c:bg->Int} {g:Int->Int}:∀{L:List bg} {tab:cD},(cz L).Nodup->g7 tab L->(∀q∈L,h5 q.hd (hW q.sp q.par (c q))=(q.gZ g).hd)->
  g7 (qo tab (L.map fun q=>(q.sp,q.par,c q))) (L.map (bg.gZ g))/\(∀j,j∉cz L->a9 (.int j) (qo tab (L.map fun q=>(q.sp,q.par,c q)))=a9 (.int j) tab)/\(qo tab (L.map fun q=>(q.sp,q.par,c q))).map (·.1)=tab.map (·.1)
 |[],tab,_,_,_=>⟨fun q (aA:q∈[])=>(List.not_mem_nil aA).elim,fun _ _=>rfl,rfl⟩
 |q::L,tab,aE,aR,aG=>by
  refine cl (List.nodup_cons.mp aE) ?_;intro hk jt
  have aA:=aR q List.mem_cons_self
  have e:=fun j=>RN (x:=q.par) (c:=c q) (j:=j) (s:=q.sp) aA
  have pk:g7 (jy tab q.sp q.par (c q)) L:=fun r aP=>by
   (refine B ((e r.k).1) ?_;refine B (if_neg (fun z=>hk (by have:r.k=q.k:=z;rw [<-this];exact List.mem_map_of_mem aP))) ?_)
   exact aR r (List.mem_cons_of_mem _ aP)
  refine ef (Fm (c:=c) (g:=g) jt pk fun r aP=>aG r (List.mem_cons_of_mem _ aP)) ?_;intro bH b7 c7
  refine⟨fun r aP=> ?_,fun j bF=> ?_,c7.trans (e 0).2⟩
  ·rcases List.mem_cons.mp aP with rfl|aP
   ·refine(b7 q.k hk).trans ?_
    refine((e q.k).1.trans (if_pos rfl)).trans ?_
    show some (H.aF [.int 0,.V (h5 q.hd (hW q.sp q.par (c q)))])=_
    (refine B (aG q List.mem_cons_self) ?_;rfl)
   ·exact bH r aP
  ·refine cl (not_or.mp (fun z=>bF (List.mem_cons.mpr z))) ?_;intro M O
   exact(b7 j O).trans ((e j).1.trans (if_neg M))
end Mine
end
section
open PySem
namespace Mine
noncomputable def ci (L:List bg):List (Int×db):=L.filterMap fun q=>match q.c with
 |.inl p=>some (q.k,p)
 |.inr _=>none
theorem RI {g:Int->Int} {L:List bg}:ci (L.map (bg.gZ g))=ci L:=by unfold ci;refine B List.filterMap_map ?_;rfl
theorem zs {g:Int->Int} {L:List bg}:cz (L.map (bg.gZ g))=cz L:=by unfold cz;refine B List.map_map ?_;rfl
theorem Fp {g:Int->Int} {k:Int}:∀{L:List bg},under (L.map (bg.gZ g)) k=under L k
 |[]=>rfl
 |q::L=>by
  show _+under (L.map (bg.gZ g)) k=_+under L k
  refine B Fp ?_;rfl
theorem pI:(∀x:af,∀ab,(x.bh.map fun e=>(e.1,e.2.1))=ci (x.ai ab))/\∀l:List af,∀ab,((af.fZ l).map fun e=>(e.1,e.2.1))=ci (af.bD ab l):=by
 apply af.all
 ·intros;rfl
 ·intro k par cnt kids ih ab
  exact ih (ab++[k])
 ·intros;rfl
 ·intro x r M O ab
  (rw [af.fZ,af.bD];refine B List.map_append ?_;refine B (M ab) ?_;refine B (O ab) ?_);unfold ci;(refine B List.filterMap_append ?_;rfl)
noncomputable def cA (L:List bg):Prop:=∀q∈L,q.par=q.ab.getLast? /\(q.pg=false->q.cnt=some (under L q.k:Int))
theorem AF:∀{N:Nat} {l:List Int},l.Nodup->(∀x∈l,1<=x/\x<=N)->l.length<=N
 |0,[],_,_=>Nat.le_refl _
 |0,x::l,_,h=>by have:=h x List.mem_cons_self;exact Su this
 |N+1,l,aE,h=>by
  have M:=AF (N:=N) (aE.erase ((N:Int)+1)) fun x ae=>by
   have O:=h x (List.mem_of_mem_erase ae)
   have Y:x≠(N:Int)+1:=fun e=>by
    subst e
    exact(List.Nodup.mem_erase_iff aE).mp ae|>.1 rfl
   exact LC O Y
  have:=List.length_erase (a:=(N:Int)+1) (l:=l)
  replace M:=this▸M
  split at M<;>omega
theorem fX.at {tab:cD} {N:Nat} {j:Int} (h:fX tab N) (bi:(a9 (.int j) tab).isSome=true):1<=j/\j<=N:=by
 have:al.int j∈tab.map (·.1):=Classical.byContradiction fun q=>by replace bi:=(zg q)▸bi;cases bi
 (replace this:=h▸this;rw [List.mem_map] at this)
 refine bb this ?_;clear this;intro i M O
 have M:=List.mem_range.mp M
 injection O with O
 exact Xz M O
structure eb (tab bL:cD) (N:Nat) (a6:Int) (x:af):Prop where
 fT:fX tab N
 fu:N<300
 ins:g7 tab (x.ai [])
 ev:(cz (x.ai [])).Nodup
 node:∃k par cnt kids,x=.node k par cnt kids
 bL:bL=[(.str "Root",au a6)]
 jS:a9 (.int a6) tab=some (.aF [.int 0,.V [(.str "Type",gO "Catalog"),(.str "Pages",au x.num)]])
 out:a6∉cz (x.ai [])
section
variable{tab bL:cD} {N:Nat} {a6:Int} {x:af}
theorem eb.at (h:eb tab bL N a6 x) {j:Int} (bF:j∈cz (x.ai [])):1<=j/\j<=N:=by
 refine bb (List.mem_map.mp bF) ?_;intro q aA u;subst u
 exact h.fT.at (by refine B (h.ins q aA) ?_;rfl)
theorem eb.len (h:eb tab bL N a6 x):(x.ai []).length<=N:=by
 have:=AF h.ev fun j bF=>h.at bF
 unfold cz at this
 rwa [List.length_map] at this
theorem eb.i3 (h:eb tab bL N a6 x):kR tab bL x.h0:=by
 refine⟨⟨a6,_,by refine B h.bL ?_;rfl,h.jS,by refine B Ad ?_;rfl⟩,?_,Ug.1 x [] h.ins,?_,?_⟩
 ·refine jF h.node ?_;intro k par cnt kids u;subst u
  exact⟨_,_,_,rfl⟩
 ·refine B (Ev.1 x []) ?_;exact h.ev
 ·refine B (Ev.1 x []) ?_
  have M:=h.len
  have O:=h.fu
  unfold cz
  refine B (List.length_map _) ?_;exact Xo M O
theorem Hc {q:bg} (h:q.par=q.ab.getLast? \/(q.par=none/\q.cnt=none)) (aq:q.ab.length<500) (bx:q.hd.length<500):m9 q.sp q.par:=by
 obtain⟨k,par,cnt,e,ab⟩:=q
 refine⟨?_,fun z=> ?_,fun z=> ?_,bx,aq⟩
 ·cases e with
  |inl p=>obtain⟨n,w,kh⟩:=p;cases kh<;>cases par<;>rfl
  |inr l=>cases par<;>cases cnt<;>rfl
 ·have z:ab=[]:=z
  subst z
  rcases h with h|h
  ·exact h
  ·exact h.1
 ·cases e with
  |inl p=>cases z
  |inr l=>
   cases cnt with
   |none=>exact .inl (by cases par<;>rfl)
   |some d=>exact .inr ⟨d,by cases par<;>rfl⟩
theorem sW {q:bg}:q.hd.length<10:=by
 obtain⟨k,par,cnt,e,ab⟩:=q
 cases e with
 |inl p=>obtain⟨n,w,kh⟩:=p;cases kh<;>cases par<;>exact Nat.le_of_ble_eq_true rfl
 |inr l=>cases par<;>cases cnt<;>exact Nat.le_of_ble_eq_true rfl
theorem AR (h:eb tab bL N a6 x) (ec:wI (x.ai [])):∃c5 df,(∀{b m t u} {per:List H},per[t]? =some (.V tab)->per[u]? =some (.V bL)->aH b (m+6) "settle" [bB t u] per=some (.ret (.U .none),per.set t (.V c5)))/\
  eb c5 bL N a6 df/\cA (df.ai [])/\ci (df.ai [])=ci (x.ai [])/\cz (df.ai [])=cz (x.ai []):=by
 have bC:=h.len
 have fp:=h.fu
 have pf:(x.gZ (fun k=>(under (x.ai []) k:Int)) none).ai []=_:=Xk.1 x []
 have SR:∀q∈x.ai [],∀c,(q.pg=false->c=(under (x.ai []) q.k:Int))->h5 q.hd (hW q.sp q.par c)=(q.gZ fun k=>(under (x.ai []) k:Int)).hd:=fun q aA c hc=>Kz (ec q aA) (KC.1 x [] q aA) hc
 refine ef (Fm (c:=fun q=>(if q.pg then 1 else 0)+(under (x.ai []) q.k:Int)) (g:=fun k=>(under (x.ai []) k:Int)) h.ev h.ins fun q aA=>SR q aA _ fun z=>by refine B z ?_;simp) ?_;intro d3 dR fP
 refine⟨_,x.gZ (fun k=>(under (x.ai []) k:Int)) none,fun{b m t u per} aG b2=> ?_,⟨?_,fp,by refine B pf ?_;exact d3,by(refine B pf ?_;refine B zs ?_);exact h.ev,?_,h.bL,?_,by(refine B pf ?_;refine B zs ?_);exact h.out⟩,?_,by(refine B pf ?_;refine B RI ?_;rfl),by(refine B pf ?_;refine B zs ?_;rfl)⟩
 ·refine Sd aG b2 h.i3 ?_ ?_ ?_ ?_ ?_
  ·(refine B (s3.1 x []) ?_;refine B List.map_map ?_);rfl
  ·refine B (List.length_map _) ?_;exact GU bC fp
  ·intro y aQ k ag
   rw [s3.1 x []] at aQ|-
   refine bb (List.mem_map.mp aQ) ?_;intro q aA u;subst u
   refine et (tP.1 x [] q aA) ?_;intro dW ak _ ar
   have ag:k∈q.ab:=ag
   (replace ag:=ak▸ag;replace ag:=(List.nil_append _)▸ag)
   refine bb (List.mem_map.mp (ar k ag)) ?_;intro cI mQ u;subst u
   exact⟨_,uh h.ev cI mQ⟩
  ·intro y aQ
   refine bb (List.mem_map.mp aQ) ?_;intro q aA u;subst u
   refine et (tP.1 x [] q aA) ?_;intro dW ak bQ _
   have aq:=sW (q:=q)
   refine⟨Hc (ec q aA) (by(refine B ak ?_;refine B (List.nil_append _) ?_);exact Ao bC fp bQ) (by exact Ee aq),?_⟩
   refine B (s3.1 x []) ?_
   exact yB (uh h.ev q aA)
  ·(refine B (List.length_map _) ?_;refine B h.fT.len ?_);unfold a4;exact Vy bC fp
 ·unfold fX;refine B fP ?_;exact h.fT
 ·refine jF h.node ?_;intro k par cnt kids u;subst u
  exact⟨_,_,_,_,rfl⟩
 ·(refine B (dR a6 h.out) ?_;refine B EE ?_);exact h.jS
 ·refine B pf ?_
  intro q aA
  refine bb (List.mem_map.mp aA) ?_;intro cI mQ u;subst u
  refine⟨rfl,fun z=> ?_⟩
  have z:cI.pg=false:=z
  refine B Fp ?_
  show(if cI.pg then none else some _)=_
  refine B z ?_;rfl
end
end Mine
end
section
open PySem
namespace Mine
theorem ja {ab:List Int} {A ap:List af}:af.bD ab (A++ap)=af.bD ab A++af.bD ab ap:=by(refine B tQ ?_;refine B tQ ?_;refine B tQ ?_;refine B List.flatMap_append ?_;rfl)
theorem Wf {x:af} {ab:List Int}:∃l,cz (x.ai ab)=x.num::l:=by cases x<;>exact⟨_,rfl⟩
theorem Ax {ab:List Int} (l:List af):(l.map af.num).Sublist (cz (af.bD ab l)):=by
 induction l with
 |nil=>exact .slnil
 |cons x r ih=>
  refine bS (Wf (x:=x) (ab:=ab)) ?_;intro l e
  (rw [af.bD];refine B pD ?_;refine B e ?_)
  exact(ih.trans (List.sublist_append_right _ _)).cons_cons _
theorem ye:(∀x:af,∀ab,∀q∈x.ai ab,∀ks,q.c=.inr ks->ks.Sublist (cz (x.ai ab)))/\∀l:List af,∀ab,∀q∈af.bD ab l,∀ks,q.c=.inr ks->ks.Sublist (cz (af.bD ab l)):=by
 apply af.all
 ·intro k p par ab q aA ks h
  rw [af.ai,List.mem_singleton] at aA
  subst aA;cases h
 ·intro k par cnt kids ih ab q aA ks h
  rw [af.ai] at aA|-
  rcases List.mem_cons.mp aA with rfl|aA
  ·cases h
   exact(Ax kids).cons _
  ·exact(ih _ q aA ks h).cons _
 ·intro ab q aA;cases aA
 ·intro x r M O ab q aA ks h
  rw [af.bD] at aA|-
  refine B pD ?_
  rcases List.mem_append.mp aA with aA|aA
  ·exact(M _ q aA ks h).trans (List.sublist_append_left _ _)
  ·exact(O _ q aA ks h).trans (List.sublist_append_right _ _)
theorem PD {r:Int} (l:List Int):∀{j:Nat},l.Nodup->l[j]? =some r->nB r l=some j:=by
 induction l with
 |nil=>intro j _ h;cases h
 |cons k l ih=>
  intro j aE h
  refine cl (List.nodup_cons.mp aE) ?_;intro M O
  unfold nB
  cases j with
  |zero=>(refine B (if_pos (by injection h)) ?_;rfl)
  |succ j=>
   have h:l[j]? =some r:=h
   (refine B (if_neg (fun e=>M (by rw [e];exact List.mem_of_getElem? h))) ?_;refine B (ih O h) ?_);rfl
theorem jk {A ap:List bg}:ci (A++ap)=ci A++ci ap:=List.filterMap_append
theorem vT {A:List bg}:(A.filter bg.pg).length=(ci A).length:=by
 induction A with
 |nil=>rfl
 |cons q A ih=>
  obtain⟨k,par,cnt,e,ab⟩:=q
  cases e with
  |inl p=>exact congrArg (· +1) ih
  |inr l=>exact ih
theorem re {l:List af} {ab:List Int}:(ci (af.bD ab l)).length=(af.fZ l).length:=by(refine bu (pI.2 l ab) ?_;refine B (List.length_map _) ?_;rfl)
theorem MZ (l:List af):∀{i:Nat},i<(af.fZ l).length->∃pre z post my,l=pre++z::post/\i=(af.fZ pre).length+my/\my<z.bh.length:=by
 induction l with
 |nil=>intro i h;cases h
 |cons x r ih=>
  intro i h
  (rw [af.fZ] at h;replace h:=List.length_append▸h)
  by_cases ae:i<x.bh.length
  ·exact⟨[],x,r,i,rfl,(Nat.zero_add _).symm,ae⟩
  ·refine rO (ih (i:=i-x.bh.length) (by exact JJ h ae)) ?_;intro pre z post my M O Y
   exact⟨x::pre,z,post,my,by refine B M ?_;rfl,by(rw [af.fZ];refine B List.length_append ?_);exact OO ae O,Y⟩
noncomputable def oV (L A ap C:List bg) (nq:bg) (ks:List Int) (j:Nat) (n:Int) (ab:List Int):Prop:=
 L=A++nq::(ap++C)/\∀nk p,∃df,df.num=n/\(∃k par cnt kids,df=af.node k par cnt kids)/\df.ai ab=A++{nq with c:=.inr (ks.take j++nk::ks.drop j)}::(ap++⟨nk,none,none,.inl p,nq.ab++[nq.k]⟩::C)
theorem v0 {k:Int} {par cnt:Option Int} {pre post:List af} {ab:List Int}:oV (af.ai ab (.node k par cnt (pre++post))) [] (af.bD (ab++[k]) pre) (af.bD (ab++[k]) post) ⟨k,par,cnt,.inr ((pre++post).map af.num),ab⟩ ((pre++post).map af.num) pre.length k ab:=by
 refine⟨by(rw [af.ai];refine B ja ?_);rfl,fun nk p=>⟨.node k par cnt (pre++.leaf nk p none::post),rfl,⟨_,_,_,_,rfl⟩,?_⟩⟩
 (rw [af.ai];refine B ja ?_;refine bu List.map_take ?_;refine bu List.map_drop ?_;refine B List.take_left ?_;refine B List.drop_left ?_;refine B List.map_append ?_);rfl
theorem oV.up {z:af} {k:Int} {par cnt:Option Int} {pre post:List af} {ab:List Int} {A ap C:List bg} {nq:bg} {ks:List Int} {j:Nat} (h:oV (z.ai (ab++[k])) A ap C nq ks j z.num (ab++[k])):
  oV (af.ai ab (.node k par cnt (pre++z::post))) (⟨k,par,cnt,.inr ((pre++z::post).map af.num),ab⟩::(af.bD (ab++[k]) pre++A)) ap (C++af.bD (ab++[k]) post) nq ks j k ab:=by
 refine⟨?_,fun nk p=> ?_⟩
 ·(rw [af.ai];refine B ja ?_;rw [af.bD];refine B h.1 ?_);simp
 ·refine et (h.2 nk p) ?_;intro df hk jt hl
  refine⟨.node k par cnt (pre++df::post),rfl,⟨_,_,_,_,rfl⟩,?_⟩
  (rw [af.ai];refine B ja ?_;rw [af.bD];refine B hl ?_;refine B List.map_append ?_;refine B List.map_append ?_;refine B List.map_cons ?_;refine B List.map_cons ?_;refine B hk ?_);simp
theorem Ac {pre:List af} {ab:List Int} {A ap:List bg} {h:bg} (an:h.pg=false):(ci (h::(af.bD ab pre++A)++ap)).length=(af.fZ pre).length+(ci (A++ap)).length:=by
 have:ci (h::(af.bD ab pre++A)++ap)=ci (af.bD ab pre++(A++ap)):=by
  obtain⟨_,_,_,e,_⟩:=h
  cases e with
  |inl p=>cases an
  |inr l=>(refine B List.cons_append ?_;refine B (List.append_assoc _ _ _) ?_);rfl
 (refine B this ?_;refine B jk ?_;refine B List.length_append ?_;refine B re ?_;rfl)
structure nM (x:af) (ab:List Int) (i:Nat) (A:List bg) (nq:bg) (ks:List Int) (j:Nat) (q:bg):Prop where
 c:nq.c=.inr ks
 k:ks[j]? =some q.k
 up:q.ab=nq.ab++[nq.k]
 pg:q.pg=true
 gx:((x.ai ab).filter bg.pg)[i]? =some q
 c2:∃ap C,(ci (A++ap)).length=i/\oV (x.ai ab) A ap C nq ks j x.num ab
 aR:∃ap C,(ci (A++ap)).length=i+1/\oV (x.ai ab) A ap C nq ks (j+1) x.num ab
noncomputable def VX (x:af):Prop:=∃k par cnt kids,x=.node k par cnt kids
noncomputable def CS (x:af):Prop:=∀ab i,i<x.bh.length->VX x->∃A nq ks j q,nM x ab i A nq ks j q
theorem D7 {k:Int} {par cnt:Option Int} {pre post:List af} {z:af} {ab:List Int} {i:Nat}:((af.ai ab (.node k par cnt (pre++z::post))).filter bg.pg)[(af.fZ pre).length+i]? =((z.ai (ab++[k])++af.bD (ab++[k]) post).filter bg.pg)[i]? :=by
 show(List.filter bg.pg (af.bD (ab++[k]) (pre++z::post)))[_]? =_
 (refine B ja ?_;refine B (List.filter_append _ _) ?_;refine B (List.getElem?_append_right (by rw [vT,re];exact Nat.le_add_right _ _)) ?_;refine B vT ?_;refine B re ?_;refine B (Nat.add_sub_cancel_left _ _) ?_);rfl
theorem nM.Xe {k:Int} {par cnt:Option Int} {pre post:List af} {z:af} {ab:List Int} {i:Nat} {A:List bg} {nq q:bg} {ks:List Int} {j:Nat} (h:nM z (ab++[k]) i A nq ks j q):
  nM (.node k par cnt (pre++z::post)) ab ((af.fZ pre).length+i) (⟨k,par,cnt,.inr ((pre++z::post).map af.num),ab⟩::(af.bD (ab++[k]) pre++A)) nq ks j q where
 c:=h.c
 k:=h.k
 up:=h.up
 pg:=h.pg
 gx:=by(refine B D7 ?_;refine B (List.filter_append _ _) ?_;refine B (List.getElem?_append_left (List.getElem?_eq_some_iff.mp h.gx).1) ?_);exact h.gx
 c2:=hw h.c2 fun ap C e f=>⟨ap,_,by(refine B (Ac rfl) ?_;refine B e ?_;rfl),f.up⟩
 aR:=hw h.aR fun ap C e f=>⟨ap,_,by(refine B (Ac rfl) ?_;refine B e ?_);rfl,f.up⟩
theorem nM.leaf {k mS:Int} {par cnt mX:Option Int} {lM:db} {pre post:List af} {ab:List Int}:nM (.node k par cnt (pre++.leaf mS lM mX::post)) ab ((af.fZ pre).length+0) [] ⟨k,par,cnt,.inr ((pre++.leaf mS lM mX::post).map af.num),ab⟩ ((pre++.leaf mS lM mX::post).map af.num) pre.length ⟨mS,mX,none,.inl lM,ab++[k]⟩ where
 c:=rfl
 k:=by(refine B List.map_append ?_;refine B (List.getElem?_append_right (by simp)) ?_);simp;rfl
 up:=rfl
 pg:=rfl
 gx:=by refine B D7 ?_;rfl
 c2:=⟨_,_,re,v0⟩
 aR:=by
  have e:pre++af.leaf mS lM mX::post=(pre++[.leaf mS lM mX])++post:=by simp
  have:=v0 (k:=k) (par:=par) (cnt:=cnt) (pre:=pre++[.leaf mS lM mX]) (post:=post) (ab:=ab)
  (replace this:=(Eq.symm e)▸this;replace this:=List.length_append▸this)
  refine⟨_,_,?_,this⟩
  (refine B (List.nil_append _) ?_;refine B ja ?_;refine B jk ?_;refine B List.length_append ?_;refine B re ?_);rfl
theorem MV:(∀x:af,CS x)/\∀l:List af,∀x∈l,CS x:=by
 apply af.all
 ·intro k p par ab i _ h
  refine jF h ?_;intro _ _ _ _ h;cases h
 ·intro k par cnt kids ih ab i aR _
  refine rO (MZ kids aR) ?_;intro pre z post my u;subst u;intro u;subst u;intro Y
  cases z with
  |node cS xl Vz Zb=>exact rS (ih _ (List.mem_append_right _ List.mem_cons_self) (ab++[k]) my Y ⟨_,_,_,_,rfl⟩) fun A nq ks j q h=>⟨_,_,_,_,_,h.Xe⟩
  |leaf mS lM mX=>
   refine B (show my=0 from Nat.lt_one_iff.mp Y) ?_
   exact⟨_,_,_,_,_,nM.leaf⟩
 ·intro x ae;cases ae
 ·intro x r M O y aQ
  rcases List.mem_cons.mp aQ with rfl|aQ
  ·exact M
  ·exact O y aQ
end Mine
end
section
open PySem
namespace Mine
section
variable{tab bL:cD} {N:Nat} {a6:Int} {x:af}
theorem wT:dL [] x.h0=(x.ai []).map fun q=>q.sp.v:=by
 have:=y6 (x:=x.h0) (ab:=[])
 (replace this:=(s3.1 x [])▸this;replace this:=List.map_map▸this)
 exact this
theorem tH:ei x.h0=((x.ai []).filter bg.pg).map fun q=>q.sp.v:=by
 unfold ei
 (refine B wT ?_;refine B List.filter_map ?_);rfl
theorem yz:(ei x.h0).length=(ci (x.ai [])).length:=by(refine B tH ?_;refine B (List.length_map _) ?_;refine B vT ?_;rfl)
structure IX (tab bL:cD) (x:af) (a:Nat) (A ap C:List bg) (nq:bg) (ks:List Int) (j:Nat):Prop where
 c:nq.c=.inr ks
 le:j<=ks.length
 len:(ci (A++ap)).length=a
 ins:oV (x.ai []) A ap C nq ks j x.num []
 call:∀{b m t u} {per:List H},per[t]? =some (.V tab)->per[u]? =some (.V bL)->aH b (m+6) "place_of" [bB t u,.int a] per=some (.ret (.U (.aF [nq.sp.v,.int j])),per)
theorem BY (h:eb tab bL N a6 x) {a:Nat} (bA:a<=(ci (x.ai [])).length):∃A ap C nq ks j,IX tab bL x a A ap C nq ks j:=by
 have bC:=h.len
 have fp:=h.fu
 by_cases aL:(ci (x.ai [])).length=0
 ·have Wl:a=0:=by exact QF bA aL
  subst Wl
  refine jF h.node ?_;intro k par cnt kids u;subst u
  have ag:kids.length<=(af.bD ([]++[k]) kids).length:=by
   have:=(Ax (ab:=[]++[k]) kids).length_le
   unfold cz at this
   rwa [List.length_map,List.length_map] at this
  have aR:=v0 (k:=k) (par:=par) (cnt:=cnt) (pre:=kids) (post:=[]) (ab:=[])
  replace aR:=(List.append_nil _)▸aR
  refine⟨_,_,_,_,_,_,rfl,by simp,aL,aR,fun{b m t u per} aG b2=> ?_⟩
  have:=Vq (b:=b) (m:=m) aG b2 h.i3 (List.eq_nil_of_length_eq_zero (by refine bu aL ?_;exact yz (x:=.node k par cnt kids))) (by(refine B s5 ?_;refine B (List.length_map _) ?_);(rw [af.ai] at bC;replace bC:=List.length_cons▸bC);exact QQ fp ag bC)
  (replace this:=s5▸this;replace this:=(List.length_map _)▸this)
  exact this
 ·obtain⟨i,s,aR,hs⟩:∃i s,i+s=a/\i<(ci (x.ai [])).length/\((s=0/\a<(ci (x.ai [])).length)\/(s=1/\a=(ci (x.ai [])).length)):=by
   by_cases e:a=(ci (x.ai [])).length
   ·exact⟨a-1,1,by exact L0 aL e,by exact Ng aL e,.inr ⟨rfl,e⟩⟩
   ·exact⟨a,0,rfl,by exact DH bA e,.inl ⟨rfl,by exact DH bA e⟩⟩
  have aq:i<x.bh.length:=by(refine bu (List.length_map (f:=fun e:Int×db×Option Int=>(e.1,e.2.1))) ?_;refine B (pI.1 x []) ?_);exact hs.1
  refine rS (MV.1 x [] i aq h.node) ?_;intro A nq ks j q G
  have bH:=G.c;have b7:=G.k;have c7:=G.up;have fm:=G.pg;have hK:=G.gx
  refine hw G.c2 ?_;intro lv n7 _ dO
  have dO:=dO.1
  have qr:nq∈x.ai []:=by refine B dO ?_;simp
  have j6:=ye.1 x [] nq qr ks bH
  have uy:=j6.length_le
  unfold cz at uy
  replace uy:=(List.length_map _)▸uy
  have bF:=(List.getElem?_eq_some_iff.mp b7).1
  have key:∀{b m t u} {per:List H},per[t]? =some (.V tab)->per[u]? =some (.V bL)->aH b (m+6) "place_of" [bB t u,.int a] per=some (.ret (.U (.aF [nq.sp.v,.int ((j:Int)+(s:Nat))])),per):=fun{b m t u per} aG b2=>by
   have an:=yz (x:=x)
   have ba:nq.sp.v=bT nq.k nq.hd (nq.ab.map au) (er nq.hd) false:=by
    show bT _ _ _ _ nq.pg=_
    unfold bg.pg;refine B bH ?_;rfl
   have:=Tw (b:=b) (m:=m) (t:=t) (u:=u) (per:=per) (x:=x.h0) (a:=a) (r:=q.k) (nk:=nq.k) (i:=i) (j:=j) (rhd:=q.hd) (rinh:=er q.hd) (nhd:=nq.hd) (ninh:=er nq.hd) (ab:=nq.ab.map au) (nab:=nq.ab.map au)
    (rest:=((lv++n7).map fun q=>q.sp.v).filter fun v=>decide (tF v=nq.k)) (ks:=ks) aG b2 h.i3 (by exact zP) (by refine B an ?_;exact MQ hs) ?_ ?_ ?_ ?_ ?_ (by exact BE bC fp uy) (PD ks (j6.nodup h.ev) b7)
   ·(refine B ba ?_;refine B this ?_;refine B an ?_)
    congr 9
    rcases hs.2 with⟨rfl,e⟩|⟨rfl,e⟩
    ·refine B (if_neg (by exact Km hs)) ?_;rfl
    ·refine B (if_pos (by exact JC hs)) ?_;rfl
   ·(refine B tH ?_;refine B List.getElem?_map ?_;refine B hK ?_)
    show some (bT q.k q.hd (q.ab.map au) (er q.hd) q.pg)=_
    (refine B c7 ?_;refine B fm ?_;refine B List.map_append ?_);rfl
   ·refine B an ?_
    rcases hs.2 with⟨rfl,e⟩|⟨rfl,e⟩
    ·refine B (if_neg (by exact Sj hs)) ?_;exact NC aR
    ·refine B (if_pos (by exact LH hs)) ?_;exact UW aR hs
   ·have aE:=h.ev
    (replace aE:=dO▸aE;replace aE:=pD▸aE)
    refine ef (List.nodup_append.mp aE) ?_;intro _ _ hl
    (refine B wT ?_;refine B dO ?_;refine B List.map_append ?_;refine B (List.filter_append _ _) ?_;rw [List.filter_eq_nil_iff.mpr];refine B (List.nil_append _) ?_;refine B List.map_cons ?_;refine B (List.filter_cons_of_pos (by exact decide_eq_true rfl)) ?_;refine B ba ?_;rfl)
    intro v ay
    refine bb (List.mem_map.mp ay) ?_;intro cI mQ u;subst u
    have:=hl _ (List.mem_map_of_mem (f:=bg.k) mQ) nq.k (List.mem_cons_self)
    exact fun z=>this (of_decide_eq_true z)
   ·unfold bg.hd;refine B bH ?_;rfl
   ·intro r aP
    refine bb (List.mem_map.mp (j6.subset aP)) ?_;intro cI mQ u;subst u
    exact⟨_,h.ins cI mQ,rfl⟩
  rcases hs.2 with⟨rfl,e⟩|⟨rfl,e⟩
  ·refine hw G.c2 ?_;intro ap C d9 fO
   exact⟨A,ap,C,nq,ks,j,bH,by exact BW bF,by exact W5 aR d9,fO,key⟩
  ·refine hw G.aR ?_;intro ap C d9 fO
   exact⟨A,ap,C,nq,ks,j+1,bH,by exact yx bF,by exact Qt aR d9,fO,key⟩
end
end Mine
end
section
open PySem
namespace Mine
theorem Bw {b:Bool} {m:Nat} {per:List H} {p:db}:aH b (m+4) "copied" [.V p.d] per=some (.ret (.own (.V p.d)),per):=by obtain⟨n,w,r⟩:=p;cases r<;>kernel_rfl
noncomputable def kc (N:Nat) (a6:Int) (x:af):Prop:=∀j:Int,1<=j->j<=N->j=a6\/j∈cz (x.ai [])
section
variable{tab bL:cD} {N:Nat} {a6:Int} {x:af}
theorem uv {t u:Nat} {v:H} {per:List H} (h:t≠u):(per.set t v)[u]? =per[u]? :=List.getElem?_set_ne h
theorem eb.new (h:eb tab bL N a6 x) (dm:N<250) {v:H}:eb (cU (.int ((N:Int)+1)) v tab) bL (N+1) a6 x:=by
 have ag:=h.fT.add (v:=v)
 have bi:∀{j:Int},1<=j/\j<=N->a9 (.int j) (cU (.int ((N:Int)+1)) v tab)=a9 (.int j) tab:=fun{j} bF=>by
  (refine B gU ?_;refine B (if_neg (fun e=>by injection e with e;exact GS bF e)) ?_;rfl)
 refine⟨by refine B ag.1 ?_;exact ag.2,by exact w0 dm,fun q aA=> ?_,h.ev,h.node,h.bL,?_,h.out⟩
 ·refine B (bi (h.at (List.mem_map_of_mem aA))) ?_;exact h.ins q aA
 ·refine B (bi (h.fT.at (by rw [h.jS];rfl))) ?_;exact h.jS
theorem Td {q:bg} {ks Dc:List Int} (h:q.c=.inr ks):h5 q.hd [(.str "Kids",.am (Dc.map au))]=dU q.par q.cnt (.inr Dc):=by
 unfold bg.hd;refine B h ?_;rfl
theorem wf {q:bg} {ks:List Int} {L:List bg} (h:q.c=.inr ks):ci (q::L)=ci L:=by
 unfold ci;(refine B List.filterMap_cons ?_;refine B h ?_;rfl)
theorem AC {L A ap C:List bg} {nq:bg} (g:L=A++nq::(ap++C)) (aE:(cz L).Nodup) {q:bg} (aA:q∈A\/q∈ap\/q∈C):q∈L/\q.k≠nq.k:=by
 subst g
 replace aE:=pD▸aE
 refine ef (List.nodup_append.mp aE) ?_;intro _ zO wm
 have t2:=(List.nodup_cons.mp zO).1
 rcases aA with h|h|h
 ·exact⟨List.mem_append_left _ h,wm _ (List.mem_map_of_mem (f:=bg.k) h) _ List.mem_cons_self⟩
 ·exact⟨List.mem_append_right _ (List.mem_cons_of_mem _ (List.mem_append_left _ h)),fun e=>t2 (by refine bu e ?_;exact List.mem_map_of_mem (List.mem_append_left _ h))⟩
 ·exact⟨List.mem_append_right _ (List.mem_cons_of_mem _ (List.mem_append_right _ h)),fun e=>t2 (by refine bu e ?_;exact List.mem_map_of_mem (List.mem_append_right _ h))⟩
theorem Hk {A ap C:List bg} {nq pn q:bg} (h:q∈A++nq::(ap++pn::C)):(q∈A\/q∈ap\/q∈C)\/q=nq\/q=pn:=by
 rcases List.mem_append.mp h with h|h
 ·exact .inl (.inl h)
 ·rcases List.mem_cons.mp h with h|h
  ·exact .inr (.inl h)
  ·rcases List.mem_append.mp h with h|h
   ·exact .inl (.inr (.inl h))
   ·rcases List.mem_cons.mp h with h|h
    ·exact .inr (.inr h)
    ·exact .inl (.inr (.inr h))
theorem Eh {A ap C:List bg} {nq mU pn:bg} (e:mU.k=nq.k):(cz (A++mU::(ap++pn::C))).Perm (pn.k::cz (A++nq::(ap++C))):=by
 have:=List.perm_middle (a:=pn.k) (l₁:=A.map bg.k++nq.k::ap.map bg.k) (l₂:=C.map bg.k)
 unfold cz;simpa [e] using this
theorem GO {A ap C:List bg} {nq mU pn:bg} (e:mU.k=nq.k) {j:Int}:j∈cz (A++mU::(ap++pn::C))↔j=pn.k\/j∈cz (A++nq::(ap++C)):=(Eh e).mem_iff.trans List.mem_cons
theorem WE {A ap C:List bg} {nq mU pn:bg} (e:mU.k=nq.k) (aE:(cz (A++nq::(ap++C))).Nodup) (an:pn.k∉cz (A++nq::(ap++C))):(cz (A++mU::(ap++pn::C))).Nodup:=(Eh e).nodup_iff.mpr (List.nodup_cons.mpr ⟨an,aE⟩)
noncomputable def zk (tab:cD) (N:Nat) (p:db):cD:=cU (.int ((N:Int)+1)) (.aF [.int 0,.V (dU none none (.inl p))]) tab
noncomputable def tw (q:bg) (ks:List Int) (tab:cD):cD:=cU (.int q.k) (.aF [.int 0,.V (dU q.par q.cnt (.inr ks))]) tab
theorem eb.jx {df:af} {A ap C:List bg} {nq:bg} {ks:List Int} {p:db} {ab:List Int} (h:eb tab bL N a6 x) (dm:N<250) (g:x.ai []=A++nq::(ap++C)) (hk:df.num=x.num) (jt:∃k par cnt kids,df=af.node k par cnt kids)
  (hl:df.ai []=A++{nq with c:=.inr ks}::(ap++⟨(N:Int)+1,none,none,.inl p,ab⟩::C)):eb (tw nq ks (zk tab N p)) bL (N+1) a6 df:=by
 have M:=h.new dm (v:=.aF [.int 0,.V (dU none none (.inl p))])
 have qr:nq∈x.ai []:=by refine B g ?_;exact List.mem_append_right _ List.mem_cons_self
 have gI:∀{j},j∈cz (x.ai [])->¬j=(N:Int)+1:=fun z e=>by have:=(h.at z).2;exact(Ux e this).elim
 have ag:nq.k∈cz (x.ai []):=List.mem_map_of_mem qr
 refine⟨?_,by exact w0 dm,fun q aA=> ?_,?_,jt,h.bL,?_,?_⟩
 ·unfold fX tw zk;rw [xJ]
  ·exact M.fT
  ·refine B (M.ins nq qr) ?_;rfl
 ·replace aA:=hl▸aA
  unfold tw
  refine B gU ?_
  rcases Hk aA with aA|rfl|rfl
  ·have aY:=AC g h.ev aA
   exact(if_neg fun e=>aY.2 (al.int.inj e)).trans (M.ins q aY.1)
  ·exact if_pos rfl
  ·refine(if_neg fun e=>gI ag (al.int.inj e).symm).trans ?_
   unfold zk;refine B gU ?_;exact if_pos rfl
 ·refine B hl ?_;exact WE (nq:=nq) (by rfl) (g▸h.ev) fun z=>gI (g▸z) rfl
 ·unfold tw;(refine B gU ?_;refine B hk ?_);exact(if_neg fun e=>h.out (by injection e with e;refine B e ?_;exact ag)).trans M.jS
 ·refine B hl ?_;intro z
  rcases(GO (nq:=nq) (by rfl)).mp z with z|z
  ·have:=h.fT.at (j:=a6) (by refine B h.jS ?_;rfl)
   have z:a6=(N:Int)+1:=z
   exact(GS this z).elim
  ·exact h.out (g▸z)
theorem PO {df:af} {A ap C:List bg} {nq:bg} {ks:List Int} {p:db} {ab:List Int} {n:Int} (aE:(cz (x.ai [])).Nodup) (hs:cA (x.ai [])) (g:x.ai []=A++nq::(ap++C)) (hl:df.ai []=A++{nq with c:=.inr ks}::(ap++⟨n,none,none,.inl p,ab⟩::C)):wI (df.ai []):=fun q aA=>by
 replace aA:=hl▸aA
 rcases Hk aA with aA|rfl|rfl
 ·exact .inl (hs q (AC g aE aA).1).1
 ·exact .inl (hs nq (by refine B g ?_;exact List.mem_append_right _ List.mem_cons_self)).1
 ·exact .inr ⟨rfl,rfl⟩
theorem Uf {q:bg} {ks:List Int} (h:q.c=.inr ks):q.sp.v=bT q.k q.hd (q.ab.map au) (er q.hd) false:=by
 show bT _ _ _ _ q.pg=_
 unfold bg.pg;refine B h ?_;rfl
theorem KW (h:eb tab bL N a6 x) (hc:kc N a6 x) (hs:cA (x.ai [])) (dm:N<250) {a:Nat} (bA:a<=(ci (x.ai [])).length) (p:db):∃c5 df,
  (∀{b m t u} {per:List H},t≠u->per[t]? =some (.V tab)->per[u]? =some (.V bL)->aH b (m+10) "insert_page" [bB t u,.int a,.V p.d] per=some (.ret (.U (au ((N:Int)+1))),per.set t (.V c5)))/\
  eb c5 bL (N+1) a6 df/\kc (N+1) a6 df/\cA (df.ai [])/\ci (df.ai [])=(ci (x.ai [])).take a++((N:Int)+1,p)::(ci (x.ai [])).drop a:=by
 refine ua (BY h bA) ?_;intro _ _ _ _ _ _ ON
 have Vu:= @ON.call
 have M:=h.new dm (v:=.aF [.int 0,.V (dU none none (.inl p))])
 refine ua (BY M bA) ?_;intro A ap C nq ks j n4
 have bH:=n4.c;have b7:=n4.le;have c7:=n4.len;have fm:=n4.ins.1;have hK:=n4.ins.2;have ms:= @n4.call;clear n4
 refine et (hK ((N:Int)+1) p) ?_;intro df hk jt hl
 have qr:nq∈x.ai []:=by refine B fm ?_;simp
 have js:=(ye.1 x [] nq qr ks bH).length_le
 have bC:=h.len
 unfold cz at js
 replace js:=(List.length_map _)▸js
 have O:=h.jx dm fm hk jt hl
 have FH:∀j,j∈cz (df.ai [])↔j=(N:Int)+1\/j∈cz (x.ai []):=fun j=>by(refine B hl ?_;refine B fm ?_);exact GO (nq:=nq) (by rfl)
 refine qb (AR O (PO h.ev hs fm hl)) ?_;intro c5 XB d3 dR fP i2 gA
 refine⟨c5,XB,fun{b m t u per} jc aG b2=> ?_,dR,fun j tx qB=> ?_,fP,?_⟩
 ·refine Xl (m:=m+7) (N:=N) (cd:=p.d) aG h.fT (by exact La dm) ?_ (Vu aG b2) Bw ?_
  ·obtain⟨n,w,r⟩:=p;cases r<;>exact Nat.le_of_ble_eq_true rfl
  ·have iz:h5 p.d oa=dU none none (.inl p):=by obtain⟨n,w,r⟩:=p;cases r<;>rfl
   (refine B iz ?_;refine bu h.fT.add.1 ?_)
   have sY:=(uv (v:=.V (cU (.int ((N:Int)+1)) (.aF [.int 0,.V (dU none none (.inl p))]) tab)) jc).trans b2
   have wt:=ms (b:=b) (m:=m+2) (jP aG) sY
   replace wt:=(Uf bH)▸wt
   have aq:=sW (q:=nq)
   have k8:tab.length=N:=h.fT.len
   refine TY (m:=m+5) (ks:=ks.map au) (jP aG) ?_ (by exact Jp aq) (by refine B (List.length_map _) ?_;exact Q0 dm bC js) (by refine B (List.length_map _) ?_;exact b7) wt (by unfold bg.hd;refine B bH ?_;rfl) ?_
   ·refine B M.fT.len ?_;unfold a4;exact J3 dm
   ·have ak:(ks.map au).take j++[au ((N:Int)+1)]++(ks.map au).drop j=(ks.take j++((N:Int)+1)::ks.drop j).map au:=by simp
    (refine B ak ?_;refine B (Td bH) ?_;refine B l6 ?_)
    have:=d3 (b:=b) (m:=m+2) (jP (w:=.V (cU (.int nq.k) (.aF [.int 0,.V (dU nq.par nq.cnt (.inr (ks.take j++((N:Int)+1)::ks.drop j)))]) (cU (.int ((N:Int)+1)) (.aF [.int 0,.V (dU none none (.inl p))]) tab))) aG) ((uv jc).trans b2)
    replace this:=l6▸this
    exact this
 ·refine B gA ?_
  by_cases e:j=(N:Int)+1
  ·exact .inr ((FH j).mpr (.inl e))
  ·rcases hc j tx (by exact yd qB e) with z|z
   ·exact .inl z
   ·exact .inr ((FH j).mpr (.inr z))
 ·have ak:ci (x.ai [])=(ci A++ci ap)++ci C:=by
   (refine B fm ?_;refine B jk ?_;refine B (wf bH) ?_;refine B jk ?_;refine B (List.append_assoc _ _ _) ?_;rfl)
  replace c7:=jk▸c7
  (refine B i2 ?_;refine B hl ?_;refine B jk ?_;refine B (wf rfl) ?_;refine B jk ?_;refine B ak ?_;refine B (List.take_left' c7) ?_;refine B (List.drop_left' c7) ?_;refine B (List.append_assoc _ _ _) ?_);rfl
end
end Mine
end
section
open PySem
namespace Mine
noncomputable def bg.str (q:bg):Int×Option Int×Option Int×(db⊕List Int):=(q.k,q.par,q.cnt,q.c)
theorem F1:(∀x:af,∀ab ab',(x.ai ab).map bg.str=(x.ai ab').map bg.str)/\∀l:List af,∀ab ab',(af.bD ab l).map bg.str=(af.bD ab' l).map bg.str:=by
 apply af.all
 ·intros;rfl
 ·intro k par cnt kids ih ab ab'
  (rw [af.ai,af.ai];refine B List.map_cons ?_;refine B List.map_cons ?_;refine B (ih (ab++[k]) (ab'++[k])) ?_);rfl
 ·intros;rfl
 ·intro x r M O ab ab'
  (rw [af.bD,af.bD];refine B List.map_append ?_;refine B List.map_append ?_;refine B (M ab ab') ?_;refine B (O ab ab') ?_;rfl)
theorem WH {l:List af} {ab ab':List Int} {q:bg} (h:q∈af.bD ab l):∃cI∈af.bD ab' l,cI.str=q.str:=by
 have:q.str∈(af.bD ab' l).map bg.str:=by refine B (F1.2 l ab' ab) ?_;exact List.mem_map_of_mem h
 refine bb (List.mem_map.mp this) ?_;intro cI M O
 exact⟨cI,M,O⟩
theorem JU {l:List af} {ab ab':List Int}:cz (af.bD ab l)=cz (af.bD ab' l):=by
 have:=congrArg (List.map Prod.fst) (F1.2 l ab ab')
 (replace this:=List.map_map▸this;replace this:=List.map_map▸this)
 exact this
theorem Ih {l:List af} {ab ab':List Int}:ci (af.bD ab l)=ci (af.bD ab' l):=by(refine bu (pI.2 l ab) ?_;refine bu (pI.2 l ab') ?_;rfl)
structure eG (tab:cD) (N:Nat) (l:List af):Prop where
 fT:fX tab N
 ins:g7 tab (af.bD [] l)
 ev:(cz (af.bD [] l)).Nodup
 D1:∀j:Int,1<=j->j<=N->j∈cz (af.bD [] l)
 Ej:∀q∈af.bD [] l,q.par=none/\q.cnt=none
theorem eG.at {tab:cD} {N:Nat} {l:List af} (h:eG tab N l) {j:Int} (bF:j∈cz (af.bD [] l)):1<=j/\j<=N:=by
 refine bb (List.mem_map.mp bF) ?_;intro q aA u;subst u
 exact h.fT.at (by refine B (h.ins q aA) ?_;rfl)
theorem eG.add {tab:cD} {N:Nat} {d g r:List af} {x:af} {v:H} (h:eG tab N (d++(g++r))) (ae:∃q,x.ai []=q::af.bD [q.k] g/\q.k=(N:Int)+1/\q.par=none/\q.cnt=none/\v=.aF [.int 0,.V q.hd]):
  eG (tab++[(.int ((N:Int)+1),v)]) (N+1) (d++x::r):=by
 refine Av ae ?_;clear ae;intro q ak ar bQ cX u;subst u
 have ag:=h.fT.add (v:=.aF [.int 0,.V q.hd])
 have mg:af.bD [] (d++x::r)=af.bD [] d++(q::af.bD [q.k] g++af.bD [] r):=by(refine B ja ?_;rw [af.bD];refine B ak ?_;rfl)
 have BC:af.bD [] (d++(g++r))=af.bD [] d++(af.bD [] g++af.bD [] r):=by(refine B ja ?_;refine B ja ?_;rfl)
 have mem:∀{cI},cI∈af.bD [] (d++x::r)->cI=q\/∃ig∈af.bD [] (d++(g++r)),ig.str=cI.str:=fun{cI} aA=>by
  replace aA:=mg▸aA
  refine B BC ?_
  rcases List.mem_append.mp aA with aA|aA
  ·exact .inr ⟨cI,List.mem_append_left _ aA,rfl⟩
  ·rcases List.mem_cons.mp aA with rfl|aA
   ·exact .inl rfl
   ·rcases List.mem_append.mp aA with aA|aA
    ·refine bb (WH (ab':=[]) aA) ?_;intro ig M O
     exact .inr ⟨ig,List.mem_append_right _ (List.mem_append_left _ M),O⟩
    ·exact .inr ⟨cI,List.mem_append_right _ (List.mem_append_right _ aA),rfl⟩
 have eN:∀{cI ig:bg},ig.str=cI.str->ig.k=cI.k/\ig.hd=cI.hd/\ig.par=cI.par/\ig.cnt=cI.cnt:=fun{cI ig} hs=>by
  obtain⟨k,par,cnt,c,ab⟩:=cI
  obtain⟨cS,xl,Vz,c',ab'⟩:=ig
  cases hs
  exact⟨rfl,rfl,rfl,rfl⟩
 have an:(cz (af.bD [] (d++x::r))).Perm (((N:Int)+1)::cz (af.bD [] (d++(g++r)))):=by
  have dn:(af.bD [q.k] g).map bg.k=(af.bD [] g).map bg.k:=JU
  (refine B mg ?_;refine B BC ?_;refine bu ar ?_)
  unfold cz
  simp only [List.map_append,List.map_cons]
  refine B dn ?_
  exact List.perm_middle
 refine⟨ag.2,fun cI aA=> ?_,an.nodup_iff.mpr (List.nodup_cons.mpr ⟨fun z=>by have:=(h.at z).2;exact(Dj this).elim,h.ev⟩),fun j M O=> ?_,fun cI aA=> ?_⟩
 ·(refine bu ag.1 ?_;refine B gU ?_)
  rcases mem aA with rfl|⟨ig,M,O⟩
  ·(refine B ar ?_;refine B (if_pos rfl) ?_;rfl)
  ·refine ef (eN O) ?_;intro d3 dR _
   have:=(h.at (List.mem_map_of_mem M)).2
   (refine bu d3 ?_;refine bu dR ?_;refine B (if_neg (fun e=>by injection e with e;exact Ce this e)) ?_)
   exact h.ins ig M
 ·refine an.mem_iff.mpr ?_
  by_cases e:j=(N:Int)+1
  ·exact List.mem_cons.mpr (.inl e)
  ·exact List.mem_cons.mpr (.inr (h.D1 j M (by exact yd O e)))
 ·rcases mem aA with rfl|⟨ig,M,O⟩
  ·exact⟨bQ,cX⟩
  ·refine nO (eN O) ?_;intro _ _ fP i2
   (refine bu fP ?_;refine bu i2 ?_);exact h.Ej ig M
theorem eG.leaf {tab:cD} {N:Nat} {d:List af} (h:eG tab N d) (p:db):eG (tab++[(.int ((N:Int)+1),.aF [.int 0,.V (dU none none (.inl p))])]) (N+1) (d++[.leaf ((N:Int)+1) p none]):=by
 have h':eG tab N (d++([]++[])):=by rw [List.append_nil,List.append_nil];exact h
 exact h'.add ⟨_,rfl,rfl,rfl,rfl,rfl⟩
theorem eG.node {tab:cD} {N:Nat} {d g r:List af} (h:eG tab N (d++(g++r))):eG (tab++[(.int ((N:Int)+1),.aF [.int 0,.V (dU none none (.inr (g.map af.num)))])]) (N+1) (d++.node ((N:Int)+1) none none g::r):=
 h.add ⟨_,rfl,rfl,rfl,rfl,rfl⟩
theorem eG.ci {d g r:List af} {k:Int} {par cnt:Option Int}:Mine.ci (af.bD [] (d++.node k par cnt g::r))=Mine.ci (af.bD [] (d++(g++r))):=by
 (refine B ja ?_;refine B ja ?_;refine B ja ?_;rw [af.bD,af.ai];refine B jk ?_;refine B jk ?_;refine B (wf rfl) ?_;refine B jk ?_;refine B jk ?_;refine B (Ih (l:=g) (ab:=[]++[k]) (ab':=[])) ?_;rfl)
noncomputable def gS (l:List α) (dy:Nat) (i:Nat):List α:=(l.take ((i+1)*l.length/dy)).drop (i*l.length/dy)
theorem UZ {l:List α} {dy i:Nat} (h:0<dy):gS l dy i++l.drop ((i+1)*l.length/dy)=l.drop (i*l.length/dy):=by
 have aY:i*l.length/dy<=(i+1)*l.length/dy:=Nat.div_le_div_right (Nat.mul_le_mul_right _ (by exact u6))
 unfold gS
 refine B List.drop_take ?_
 have:(l.drop (i*l.length/dy)).drop ((i+1)*l.length/dy-i*l.length/dy)=l.drop ((i+1)*l.length/dy):=by refine B List.drop_drop ?_;congr 1;exact QC aY
 (refine bu this ?_;refine B (List.take_append_drop _ _) ?_;rfl)
end Mine
end
section
open PySem
namespace Mine
theorem Sm:ds "grouped"=some (aI 42):=by kernel_rfl
section
variable{b:Bool} {C CQ:cs} {n:Nat} {J aW:Scope} {fs fs₁ fs₂ fs₃ g4 fs':X} {R:bk} {o:Option (bE×X)} {p:Pos} {m:Nat} {t u:Nat} {per:List H} {tab bL:List (al×H)}
theorem Rk {x:Nat} (h:x<1000):qA (x:Int)=true:=by
 unfold qA;exact decide_eq_true (by refine B (Int.natAbs_natCast _) ?_;exact Ql h)
theorem A4 {x y:Nat} {z:Int} (h:x<1000) (hz:z=((x*y:Nat):Int)):ke .Mult (.int (x:Int)) (.int (y:Int))=some (.U (.int z)):=by
 subst hz
 refine B (Int.natCast_mul _ _) ?_
 exact bq (cQ (by(refine B (Rk h) ?_;refine B (Bool.true_or _) ?_;rfl)) rfl) rfl
theorem vY {x y:Nat} (h:0<y) (O:y<1000):ke .FloorDiv (.int (x:Int)) (.int (y:Int))=some (.U (.int ((x/y:Nat):Int))):=by
 have e:¬(((y:Int)=0:Bool)||(1073741824<=(y:Int).natAbs:Bool))=true:=by
  refine B (Int.natAbs_natCast _) ?_;simp;exact Om h O
 (refine B (Int.natCast_ediv _ _) ?_;refine bu (Int.fdiv_eq_ediv_of_nonneg _ (Int.natCast_nonneg _)) ?_)
 exact bq (ej e rfl) rfl
theorem GG {e:Expr} {i:Int} (h:R.ba e fs=some (.U (.int i),fs₁)):ni R (some e) fs=some (some i,fs₁):=bd h rfl
theorem t8 {q xP:Pos} {a:Expr} {k:Nat} (aL:J.names.lookup ("range":Str)=some .globalImplicit) (h:dY R a fs=some (.int (k:Int),fs₁)) (ag:k<1000000):hv R J (.Call (.Name ("range":Str) q) [a] [] xP) fs=some ((List.range k).map fun(i:Nat)=>H.int i,fs₁):=by
 have ah:((-1048576:Int)<=(k:Int)&&(k:Int)<=1048576:Bool)=true:=by simp;exact Nt ag
 exact cQ aL (cQ rfl (bd h (bq (cQ ah rfl) rfl)))
noncomputable def Ds:Expr×Scope:=(eo (ce (aI 42) 1) [0],it (eo (ce (aI 42) 1) []))
theorem Ub {l:List H} {w:Nat} (aq:0<l.length) (hO:l.length<900) (ec:2<=w) (G6:w<100):aH b (m+1) "grouped" [.am l,.int w] per=some (.ret (.own (.am ((List.range ((l.length+w-1)/w)).map fun i=>.am (gS l ((l.length+w-1)/w) i)))),per):=by
 refine c6 Sm ?_
 have C9:0<(l.length+w-1)/w:=Nat.div_pos (by exact TN aq) (by exact A7 ec)
 have ip:(l.length+w-1)/w<1000:=Nat.lt_of_le_of_lt (Nat.div_le_self _ _) (by exact KJ hO G6)
 have bC:=iG (l:=l) (by unfold a4;exact j5 hO)
 have iz:((l.length:Int)+(w:Int)-1)=((l.length+w-1:Nat):Int):=by exact LG ec
 have i8:=vY (x:=l.length+w-1) (y:=w) (by exact A7 ec) (by exact UD G6)
 replace i8:=(Eq.symm iz)▸i8
 obtain⟨c2,e⟩:=uK (R:=aJ b (aH b m) (aH false m) 38 Ds.2) (per:=per) (elt:=Ds.1) (x:="at") (L:=[("parts",.U (.am l)),("many",.U (.int ((l.length+w-1)/w:Nat)))])
  (f:=fun v=>match v with|.int i=>.am (gS l ((l.length+w-1)/w) i.toNat)|_=>.none) (items:=(List.range ((l.length+w-1)/w)).map fun(i:Nat)=>H.int i) (fs:=⟨[("parts",.U (.am l)),("many",.U (.int ((l.length+w-1)/w:Nat)))],per⟩)
  (fun v ay=>by
   refine bb (List.mem_map.mp ay) ?_;intro i aR u;subst u
   have aR:=List.mem_range.mp aR
   have cT:∀j,j<=(l.length+w-1)/w->j*l.length/((l.length+w-1)/w)<=l.length:=fun j bF=>Nat.div_le_of_le_mul (Nat.mul_le_mul_right _ bF)
   have hs:iW l (some ((i*l.length/((l.length+w-1)/w):Nat):Int)) (some (((i+1)*l.length/((l.length+w-1)/w):Nat):Int))=gS l ((l.length+w-1)/w) i:=by
    show(l.take (ji _ _)).drop (ji _ _)=_
    (refine B (vi (cT _ (by exact BW aR))) ?_;refine B (vi (cT _ (by exact yx aR))) ?_);rfl
   refine du (r:=.own (.am (gS l ((l.length+w-1)/w) i))) ?_ rfl
   refine bu hs ?_
   exact oJ rfl (GG (dB (dB rfl (fb rfl rfl rfl bC) rfl rfl (A4 (by exact Pk ip aR) rfl)) rfl rfl rfl (vY C9 ip))) (GG (dB (dB rfl (fb rfl rfl rfl bC) rfl rfl (A4 (x:=i+1) (by exact MS ip aR) rfl)) rfl rfl rfl (vY C9 ip))) rfl (by unfold a4;exact j5 hO)) (.inl rfl)
 replace e:=List.map_map▸e
 apply dp rfl
 ·refine aO (dc (dB (dB (dB (fb rfl rfl rfl bC) rfl rfl rfl rfl) rfl rfl rfl rfl) rfl rfl rfl i8) rfl) ?_
  exact cu (dD (h4 (t8 rfl (du (r:=.U (.int ((l.length+w-1)/w:Nat))) rfl rfl) (by exact DE ip)) (by(refine B (List.length_map _) ?_;refine B List.length_range ?_);unfold a4;exact mJ ip) rfl e) rfl)
 ·rfl
end
end Mine
end
section
open PySem
namespace Mine
noncomputable def pq:Nat->Nat->List H
 |_,0=>[]
 |N,k+1=>au ((N:Int)+1)::pq (N+1) k
noncomputable def nV (tab:cD) (N:Nat):List H->cD
 |[]=>tab
 |v::r=>nV (tab++[(.int ((N:Int)+1),.aF [.int 0,v])]) (N+1) r
section
variable{b:Bool} {C CQ:cs} {n:Nat} {J aW:Scope} {fs fs₁ fs₂ fs₃ g4 fs':X} {R:bk} {o:Option (bE×X)} {p:Pos} {m:Nat} {t u:Nat}
theorem Dq {elt:Expr} {x:Str} {L:List (Str×cf)} {f:H->H} {items:List H}:∀{per:List H} {tab:cD} {N:Nat} {fs:X},
  (∀v∈items,∀per tab N,per[t]? =some (.V tab)->fX tab N->N<900->dY R elt ⟨bY x (.U v) L,per⟩=some (au ((N:Int)+1),⟨bY x (.U v) L,per.set t (.V (tab++[(.int ((N:Int)+1),.aF [.int 0,f v])]))⟩))->
  per[t]? =some (.V tab)->fX tab N->N+items.length<900->(fs=⟨L,per⟩\/∃w,fs=⟨bY x w L,per⟩)->∃l,gd R x [] elt items fs=some (pq N items.length,⟨l,per.set t (.V (nV tab N (items.map f)))⟩):=by
 induction items with
 |nil=>
  intro per tab N fs _ aG _ _ aB
  have e:per.set t (.V (nV tab N ([].map f)))=per:=uo aG
  refine B e ?_;exact r2 aB
 |cons v r ih=>
  intro per tab N fs h aG ag aq aB
  replace aq:=List.length_cons▸aq
  refine bS (ih (fun y aQ=>h y (List.mem_cons_of_mem _ aQ)) (jP aG (w:=.V (tab++[(.int ((N:Int)+1),.aF [.int 0,f v])]))) ag.add.2 (by exact Du aq) (.inr ⟨.U v,rfl⟩)) ?_;intro l ar
  replace ar:=l6▸ar
  exact⟨l,wr ((congrArg (dY R elt) (sQ v aB)).trans (h v List.mem_cons_self per tab N aG ag (by exact Mp aq))) ar⟩
end
noncomputable def m1 (N:Nat):List (List af)->List af
 |[]=>[]
 |g::r=>.node ((N:Int)+1) none none g::m1 (N+1) r
noncomputable def l8 (N:Nat):List db->List af
 |[]=>[]
 |p::r=>.leaf ((N:Int)+1) p none::l8 (N+1) r
noncomputable def hb (l:List af):List H:=(l.map af.num).map au
noncomputable def z1 (g:List af):H:=.V (dU none none (.inr (g.map af.num)))
noncomputable def y1 (p:db):H:=.V (dU none none (.inl p))
theorem IM {ez:List (List af)}:∀{N:Nat},pq N ez.length=hb (m1 N ez):=by
 induction ez with
 |nil=>intro N;rfl
 |cons g r ih=>intro N;show _::pq (N+1) r.length=_;refine B ih ?_;rfl
theorem Iw {ps:List db}:∀{N:Nat},pq N ps.length=hb (l8 N ps):=by
 induction ps with
 |nil=>intro N;rfl
 |cons g r ih=>intro N;show _::pq (N+1) r.length=_;refine B ih ?_;rfl
theorem LR {ez:List (List af)}:∀{N:Nat},(m1 N ez).length=ez.length:=by
 induction ez with
 |nil=>intro N;rfl
 |cons g r ih=>intro N;exact congrArg (· +1) ih
theorem Hm {ps:List db}:∀{N:Nat},(l8 N ps).length=ps.length:=by
 induction ps with
 |nil=>intro N;rfl
 |cons g r ih=>intro N;exact congrArg (· +1) ih
theorem eG.Vl (ez:List (List af)):∀{tab:cD} {N:Nat} {d:List af},eG tab N (d++ez.flatten)->eG (nV tab N (ez.map z1)) (N+ez.length) (d++m1 N ez)/\Mine.ci (af.bD [] (d++m1 N ez))=Mine.ci (af.bD [] (d++ez.flatten)):=by
 induction ez with
 |nil=>intro tab N d h;exact⟨h,rfl⟩
 |cons g r ih=>
  intro tab N d h
  rw [List.flatten_cons] at h|-
  have M:=h.node
  have e:d++af.node ((N:Int)+1) none none g::r.flatten=(d++[.node ((N:Int)+1) none none g])++r.flatten:=by simp
  replace M:=e▸M
  refine cl (ih M) ?_;intro bH b7
  have ar:(d++[af.node ((N:Int)+1) none none g])++m1 (N+1) r=d++m1 N (g::r):=by simp [m1]
  rw [ar] at bH b7
  have bQ:N+1+r.length=N+(g::r).length:=by refine B List.length_cons ?_;exact te
  replace bH:=bQ▸bH
  exact⟨bH,by(refine B b7 ?_;refine bu e ?_);exact eG.ci⟩
theorem eG.lO (ps:List db):∀{tab:cD} {N:Nat} {d:List af},eG tab N d->eG (nV tab N (ps.map y1)) (N+ps.length) (d++l8 N ps)/\(Mine.ci (af.bD [] (d++l8 N ps))).map Prod.snd=(Mine.ci (af.bD [] d)).map Prod.snd++ps:=by
 induction ps with
 |nil=>intro tab N d h;(rw [l8];refine B (List.append_nil _) ?_;refine B (List.append_nil _) ?_);exact⟨h,rfl⟩
 |cons p r ih=>
  intro tab N d h
  refine cl (ih (h.leaf p)) ?_;intro bH b7
  have ar:(d++[af.leaf ((N:Int)+1) p none])++l8 (N+1) r=d++l8 N (p::r):=by simp [l8]
  rw [ar] at bH b7
  have bQ:N+1+r.length=N+(p::r).length:=by refine B List.length_cons ?_;exact te
  replace bH:=bQ▸bH
  refine⟨bH,?_⟩
  (refine B b7 ?_;refine B ja ?_;refine B jk ?_;refine B List.map_append ?_;refine B (List.append_assoc _ _ _) ?_);rfl
noncomputable def mW (l:List α) (dy:Nat):List (List α):=(List.range dy).map (gS l dy)
theorem Nl {l:List α} {dy:Nat} (h:0<dy):(mW l dy).flatten=l:=by
 have:∀k i,i+k=dy->((List.range' i k).map (gS l dy)).flatten=l.drop (i*l.length/dy):=by
  intro k
  induction k with
  |zero=>
   intro i aR
   have:i=dy:=by exact Lm aR
   subst this
   (refine B (Nat.mul_div_cancel_left _ h) ?_;refine B List.drop_length ?_);rfl
  |succ k ih=>
   intro i aR
   (refine B List.range'_succ ?_;refine B List.map_cons ?_;refine B List.flatten_cons ?_;refine B (ih (i+1) (by exact N8 aR)) ?_)
   exact UZ h
 have:=this dy 0 (by exact AT)
 (replace this:=(Nat.zero_mul _)▸this;replace this:=(Nat.zero_div _)▸this;replace this:=List.drop_zero▸this;replace this:=(Eq.symm List.range_eq_range')▸this)
 exact this
theorem Cd {f:α->d7} {l:List α} {dy i:Nat}:gS (l.map f) dy i=(gS l dy i).map f:=by
 unfold gS;(refine B (List.length_map _) ?_;refine B List.map_drop ?_;refine B List.map_take ?_;rfl)
end Mine
end
section
open PySem
namespace Mine
theorem Pu:ds "build_pages"=some (aI 43):=by kernel_rfl
section
variable{b:Bool} {C CQ:cs} {n:Nat} {J aW:Scope} {fs fs₁ fs₂ fs₃ g4 fs':X} {R:bk} {o:Option (bE×X)} {p:Pos} {m:Nat} {t u:Nat} {per:List H} {tab bL:cD}
noncomputable def z3 (t u:Nat) (pd:H) (w:Nat) (Sh:List H) (per:List H):X:=⟨[("shelf",.U (bB t u)),("page_dicts",.U pd),("width",.U (.int w)),("home",.U .none),("level",.aD (.am Sh))],per⟩
noncomputable def u7:Expr×Scope:=(eo (ce (aI 43) 2) [0],it (eo (ce (aI 43) 2) []))
noncomputable def tY:Expr×Scope:=(eo (iJ (d5 (ce (aI 43) 3)) 0) [0],it (eo (iJ (d5 (ce (aI 43) 3)) 0) []))
noncomputable def wY:H->H
 |.V d=>.V (h5 d oa)
 |v=>v
noncomputable def nx (v:H):H:=.V [(.str "Type",gO "Pages"),(.str "Kids",v)]
theorem Rw {p:db} {N:Nat} (aG:per[t]? =some (.V tab)) (ag:fX tab N) (dm:N<900):dY (aJ b (aH b (m+5)) CQ 38 u7.2) u7.1 ⟨bY "one" (.U (.V p.d)) [("shelf",.U (bB t u))],per⟩=
  some (au ((N:Int)+1),⟨bY "one" (.U (.V p.d)) [("shelf",.U (bB t u))],per.set t (.V (tab++[(.int ((N:Int)+1),.aF [.int 0,wY (.V p.d)])]))⟩):=by
 have jc:=sj (b:=b) (m:=m+4) (per:=per) (hd:=p.d) z4 (by obtain⟨n,w,r⟩:=p;cases r<;>exact Nat.le_of_ble_eq_true rfl)
 exact du (dZ rfl rfl rfl rfl (bM (dt rfl (bM (dt rfl rfl (Bw (m:=m+1))) rfl (bM (qv (v:=gO "Page") (w:=.none) rfl rfl (by decide+kernel)) rfl rfl)) jc) rfl rfl) (sI (m:=m+4) aG ag (by exact AI dm))) rfl
theorem Jn {v:H} {N:Nat} (ay:iI v=true) (aG:per[t]? =some (.V tab)) (ag:fX tab N) (dm:N<900):dY (aJ b (aH b (m+5)) CQ 37 tY.2) tY.1 ⟨bY "group" (.U v) [("shelf",.U (bB t u))],per⟩=
  some (au ((N:Int)+1),⟨bY "group" (.U v) [("shelf",.U (bB t u))],per.set t (.V (tab++[(.int ((N:Int)+1),.aF [.int 0,nx v])]))⟩):=
 du (dZ rfl rfl rfl rfl (bM (qv (v:=gO "Pages") (w:=v) rfl rfl (by decide+kernel)) rfl rfl) (sI (m:=m+4) aG ag (by exact AI dm))) rfl
theorem EY {x y:Nat} {z:Bool} (h:decide (y<x)=z):eF .Gt (.int (x:Int)) (.int (y:Int))=some z:=by
 refine vl ?_
 refine bu h ?_
 by_cases e:y<x
 ·(refine B (decide_eq_true e) ?_;refine B (decide_eq_true (by exact ug e)) ?_;rfl)
 ·(refine B (decide_eq_false e) ?_;refine B (decide_eq_false (by exact w5 e)) ?_;rfl)
theorem LV {pd:H} {w:Nat} (ec:w=2\/w=3\/w=4):∀(k:Nat) {l:List af} {N:Nat} {tab:cD} {per:List H} {fuel:Nat},l.length=k->eG tab N l->per[t]? =some (.V tab)->N+2*k<800->k<fuel->
  ∃c8 gb c5,gz (aJ b (aH b (m+5)) CQ 39 (bN (aI 43))) (mi (ce (aI 43) 3)) (d5 (ce (aI 43) 3)) fuel (z3 t u pd w (hb l) per)=some (.next,z3 t u pd w (hb c8) (per.set t (.V c5)))/\eG c5 gb c8/\c8.length<=4/\ci (af.bD [] c8)=ci (af.bD [] l)/\gb+2*c8.length<=N+2*k:=by
 intro k
 induction k using Nat.strongRecOn with
 |_ k ih=>
  intro l N tab per fuel ag bz aG ah aB
  obtain⟨fuel,rfl⟩:∃f,fuel=f+1:=⟨fuel-1,by exact FQ aB⟩
  have qT:(hb l).length=k:=by unfold hb;(refine B (List.length_map _) ?_;refine B (List.length_map _) ?_;refine B ag ?_;rfl)
  have bC:=iG (l:=hb l) (by refine B qT ?_;unfold a4;exact Na ah)
  by_cases tf:w<k
  ·have bi:=Ub (b:=b) (m:=m+4) (l:=hb l) (w:=w) (per:=per) (by exact Q9 qT tf) (by exact Hl ah qT) (by exact Ms ec) (by exact S9 ec)
   rw [qT] at bi bC
   obtain⟨dy,aY⟩:∃dy,dy=(k+w-1)/w:=⟨_,rfl⟩
   replace bi:=(Eq.symm aY)▸bi
   have ip:0<dy/\3*dy<=2*k/\dy<k:=by
    rcases ec with rfl|rfl|rfl<;>omega
   have Wq:(List.range dy).map (fun i=>H.am (gS (hb l) dy i))=(mW l dy).map fun g=>H.am (hb g):=by
    unfold mW
    refine B List.map_map ?_
    apply List.map_congr_left
    intro i _
    show H.am (gS ((l.map af.num).map au) dy i)=.am (((gS l dy i).map af.num).map au)
    (refine B Cd ?_;refine B Cd ?_;rfl)
   replace bi:=Wq▸bi
   have vp:(mW l dy).length=dy:=by unfold mW;(refine B (List.length_map _) ?_;refine B List.length_range ?_;rfl)
   obtain⟨c2,e⟩:=Dq (t:=t) (R:=aJ b (aH b (m+5)) CQ 37 tY.2) (elt:=tY.1) (x:="group") (L:=[("shelf",.U (bB t u))]) (f:=nx) (items:=(mW l dy).map fun g=>H.am (hb g)) (per:=per) (tab:=tab) (N:=N) (fs:=⟨[("shelf",.U (bB t u))],per⟩)
    (fun v ay per tab N M O Y=>Jn (by obtain⟨g,_,rfl⟩:=List.mem_map.mp ay;rfl) M O Y) aG bz.fT (by(refine B (List.length_map _) ?_;refine B vp ?_);exact M8 ah ip) (.inl rfl)
   rewrite [List.length_map,IM,List.map_map] at e
   have mg:=Nl (l:=l) ip.1
   refine cl (eG.Vl (mW l dy) (tab:=tab) (N:=N) (d:=[]) (by(refine B (List.nil_append _) ?_;refine B mg ?_);exact bz)) ?_;intro lG lQ
   rw [List.nil_append] at lG lQ
   (replace lQ:=(List.nil_append _)▸lQ;replace lQ:=mg▸lQ)
   replace lG:=vp▸lG
   refine ve (ih dy ip.2.2 (fuel:=fuel) (by(refine B LR ?_;refine B vp ?_;rfl)) lG (jP aG (w:=.V (nV tab N ((mW l dy).map z1)))) (by exact MJ ah ip) (by exact L4 aB ip)) ?_;intro c8 gb c5 bH b7 c7 fm hK
   replace bH:=l6▸bH
   refine⟨c8,gb,c5,?_,b7,c7,fm.trans lQ,by exact Hp ip hK⟩
   refine oI (cR (fb rfl rfl rfl bC) rfl rfl rfl (EY (decide_eq_true tf)) rfl) ?_ bH
   exact aO (fB (h4 (gY rfl (du (dt rfl rfl bi) rfl)) (by(refine B (List.length_map _) ?_;refine B vp ?_);unfold a4;exact Re ah ip) rfl e) rfl) rfl
  ·replace bC:=qT▸bC
   refine⟨l,N,tab,?_,bz,by exact M0 ec ag tf,rfl,by exact UR ag⟩
   refine B (uo aG) ?_
   exact w_end (cR (fb rfl rfl rfl bC) rfl rfl rfl (EY (decide_eq_false tf)) rfl)
end
end Mine
end
section
open PySem
namespace Mine
section
variable{b:Bool} {m:Nat} {t u:Nat} {per:List H} {tab bL:cD}
noncomputable def lT (k:Int):cD:=[(.str "Type",gO "Catalog"),(.str "Pages",au k)]
theorem eG.Mr {N:Nat} {x:af} (h:eG tab N [x]) (ae:∃k par cnt kids,x=.node k par cnt kids) (dm:N<250):eb (tab++[(.int ((N:Int)+1),.aF [.int 0,.V (lT x.num)])]) [(.str "Root",au ((N:Int)+1))] (N+1) ((N:Int)+1) x/\kc (N+1) ((N:Int)+1) x/\wI (x.ai []):=by
 have ag:=h.fT.add (v:=.aF [.int 0,.V (lT x.num)])
 have e:af.bD [] [x]=x.ai []:=List.append_nil _
 have fy:=fun j bF=>h.at (j:=j) bF
 have ta:=h.ins
 have iM:=h.ev
 have GY:=h.D1
 have Gu:=h.Ej
 rw [e] at fy ta iM GY Gu
 refine⟨⟨ag.2,by exact w0 dm,fun q aA=> ?_,iM,ae,rfl,?_,fun z=> ?_⟩,fun j M O=> ?_,fun q aA=>.inr (Gu q aA)⟩
 ·have:=(fy _ (List.mem_map_of_mem aA)).2
  (refine bu ag.1 ?_;refine B gU ?_;refine B (if_neg (fun e=>by injection e with e;exact Ce this e)) ?_)
  exact ta q aA
 ·(refine bu ag.1 ?_;refine B gU ?_;refine B (if_pos rfl) ?_);rfl
 ·have:=(fy _ z).2;exact(Dj this).elim
 ·by_cases e:j=(N:Int)+1
  ·exact .inl e
  ·exact .inr (GY j M (by exact yd O e))
theorem Fi {v w:H} (h:t≠u):((per.set t v).set u w)=(per.set u w).set t v:=List.set_comm v w h
theorem IL {x y z:H} (h:t≠u):((per.set t x).set u y).set t z=(per.set u y).set t z:=by(refine B (Fi h) ?_;refine B l6 ?_;rfl)
theorem Eb {ps:List db} {w:Nat} (ec:w=2\/w=3\/w=4) (an:ps.length<=20) (jc:t≠u) (aG:per[t]? =some (.V [])) (b2:per[u]? =some (.V [])):
  ∃tab a6 N x i3,aH b (m+8) "build_pages" [bB t u,.am (ps.map fun p:db=>H.V p.d),.int w] per=some (.ret (.U i3),(per.set u (.V [(.str "Root",au a6)])).set t (.V tab))/\
   eb tab [(.str "Root",au a6)] N a6 x/\kc N a6 x/\cA (x.ai [])/\(ci (x.ai [])).map Prod.snd=ps/\N<=3*ps.length+6:=by
 have Oc:eG [] 0 []:=⟨rfl,fun q aA=>(List.not_mem_nil aA).elim,List.nodup_nil,fun j M O=>by exact(P5 M O).elim,fun q aA=>(List.not_mem_nil aA).elim⟩
 refine cl (eG.lO ps Oc) ?_;intro lG Co
 rw [List.nil_append] at lG Co
 replace lG:=(Nat.zero_add _)▸lG
 obtain⟨c2,ak⟩:=Dq (t:=t) (R:=aJ b (aH b (m+7)) (aH false (m+7)) 38 u7.2) (elt:=u7.1) (x:="one") (L:=[("shelf",.U (bB t u))]) (f:=wY) (items:=ps.map fun p:db=>H.V p.d) (per:=per) (tab:=[]) (N:=0) (fs:=⟨[("shelf",.U (bB t u))],per⟩)
  (fun v ay per tab N M O Y=>by obtain⟨p,_,rfl⟩:=List.mem_map.mp ay;exact Rw (m:=m+2) M O Y) aG rfl (by refine B (List.length_map _) ?_;exact WD an) (.inl rfl)
 have N4:(ps.map fun p:db=>H.V p.d).map wY=ps.map y1:=by
  refine B List.map_map ?_
  apply List.map_congr_left
  rintro ⟨n,w,r⟩ _
  cases r<;>rfl
 (replace ak:=N4▸ak;replace ak:=(List.length_map _)▸ak;replace ak:=Iw▸ak)
 refine ve (LV (b:=b) (CQ:=aH false (m+7)) (m:=m+2) (t:=t) (u:=u) (pd:=.am (ps.map fun p:db=>H.V p.d)) ec ps.length (Hm (N:=0)) lG (jP aG (w:=.V (nV [] 0 (ps.map y1)))) (fuel:=mc) (by exact Vv an) (by unfold mc;exact SE an)) ?_;intro c8 gb c5 ar lQ YM Sb u1
 replace ar:=l6▸ar
 have v6:=eG.node (d:=[]) (g:=c8) (r:=[]) (by(refine B (List.nil_append _) ?_;refine B (List.append_nil _) ?_);exact lQ)
 have hF:=eG.ci (d:=[]) (g:=c8) (r:=[]) (k:=(gb:Int)+1) (par:=none) (cnt:=none)
 rw [List.nil_append] at v6 hF
 (replace hF:=(List.nil_append _)▸hF;replace hF:=(List.append_nil _)▸hF)
 have e:af.bD [] [af.node ((gb:Int)+1) none none c8]=(af.node ((gb:Int)+1) none none c8).ai []:=List.append_nil _
 replace hF:=e▸hF
 refine ef (v6.Mr ⟨_,_,_,_,rfl⟩ (by exact Xp an u1)) ?_;intro fR RM Wb
 refine qb (AR fR Wb) ?_;intro Ym x d3 dR fP i2 gA
 refine⟨Ym,_,gb+1+1,x,au ((gb:Int)+1),?_,dR,fun j M O=> ?_,fP,?_,by exact XU u1⟩
 ·refine c6 Pu ?_
  have sY:∀{v},(per.set t v)[u]? =some (.V []):=(uv jc).trans b2
  have bW:=sI (b:=b) (m:=m+6) (u:=u) (v:=nx (.am (hb c8))) (jP aG (w:=.V c5)) lQ.fT (by exact Nv an u1)
  replace bW:=l6▸bW
  have cC:=sI (b:=b) (m:=m+6) (u:=u) (v:=.V (lT ((gb:Int)+1))) (jP aG (w:=.V (c5++[(.int ((gb:Int)+1),.aF [.int 0,nx (.am (hb c8))])]))) v6.fT (by exact O3 an u1)
  replace cC:=l6▸cC
  have T6:=AD (b:=b) (m:=m+4) aG b2
  have aP:=AD (b:=b) (m:=m+4) (u:=u) (jP aG (w:=.V (c5++[(.int ((gb:Int)+1),.aF [.int 0,nx (.am (hb c8))])]))) sY
  have Ks:=sj (b:=b) (m:=m+6) (per:=per.set t (.V (c5++[(.int ((gb:Int)+1),.aF [.int 0,nx (.am (hb c8))])]))) (hd:=[]) (ch:=lT ((gb:Int)+1)) ⟨fun q aA=>by
   unfold lT at aA
   rcases List.mem_cons.mp aA with rfl|aA
   ·exact⟨_,rfl,rfl⟩
   ·rw [List.mem_singleton] at aA;subst aA;exact⟨_,rfl,rfl⟩,by unfold lT;simp [vA]⟩ (Nat.le_of_ble_eq_true rfl)
  have yV:=d3 (b:=b) (m:=m+1) (t:=t) (u:=u) (per:=(per.set t (.V (c5++[(.int ((gb:Int)+1),.aF [.int 0,nx (.am (hb c8))])]++[(.int ((gb+1:Nat)+1:Int),.aF [.int 0,.V (lT ((gb:Int)+1))])]))).set u (.V [(.str "Root",au ((gb+1:Nat)+1:Int))]))
   (by refine B (Fi jc) ?_;exact jP ((uv (Ne.symm jc)).trans aG)) (jP sY)
  replace yV:=(IL jc)▸yV
  apply dp rfl
  ·refine aO (co false (cR rfl rfl rfl rfl (ov (x:=(w:Int)) (y:=2) (decide_eq_false (by exact V4 ec))) rfl) rfl) ?_
   refine aO (fs₁:=⟨[("shelf",.U (bB t u)),("page_dicts",.U (.am (ps.map fun p:db=>H.V p.d))),("width",.U (.int w)),("home",.U .none)],per⟩) (dc (mO true (cR (dZ rfl rfl rfl rfl rfl T6) rfl rfl rfl rfl rfl) rfl) rfl) ?_
   refine aO (fB (h4 (gY rfl (du (r:=.U (.am (ps.map fun p:db=>H.V p.d))) rfl rfl)) (by refine B (List.length_map _) ?_;unfold a4;exact L6 an) rfl ak) rfl) ?_
   refine aO (rB ar) ?_
   refine aO (dc (dZ rfl rfl rfl rfl (bM (qv (v:=gO "Pages") (w:=.am (hb c8)) rfl rfl (by decide+kernel)) rfl rfl) bW) rfl) ?_
   refine aO (fB (dt rfl (bM (dZ rfl rfl rfl rfl rfl aP) rfl (bM (qv (v:=gO "Catalog") (w:=au ((gb:Int)+1)) rfl rfl (by decide+kernel)) rfl rfl)) Ks) rfl) ?_
   refine aO (co true rfl (aO (gP (k:=.str "Root") (r:=.U (.per u)) (du (dZ rfl rfl rfl rfl rfl cC) rfl) rfl rfl (zi (l:=[]) sY rfl (Nat.zero_le _))) rfl)) ?_
   refine aO (mF (by decide+kernel) rfl yV) ?_
   exact cu (dD rfl rfl)
  ·rfl
 ·refine B gA ?_;exact RM j M O
 ·(refine B i2 ?_;refine B hF ?_;refine B Sb ?_;refine B Co ?_);rfl
end
end Mine
end
section
open PySem
namespace Mine
theorem Xb:ds "page_faults"=some (aI 39):=by kernel_rfl
section
variable{b:Bool} {C CQ:cs} {n:Nat} {J aW:Scope} {fs fs₁ fs₂ fs₃ g4 fs':X} {R:bk} {o:Option (bE×X)} {p:Pos} {m:Nat} {t u:Nat} {per:List H} {tab bL:cD} {N:Nat} {a6:Int} {x:af}
theorem Ei {c:Int}:eF .NotEq (.int c) (.int c)=some false:=by
 show some (!(c==c))=_;simp
theorem eb.cnt (h:eb tab bL N a6 x) (hs:cA (x.ai [])):x.oE:=RD.1 x [] h.ev (fun _ _=>List.not_mem_nil) fun q aA an=>(hs q aA).2 an
theorem G0:x.bh.length=(ci (x.ai [])).length:=by(refine bu (pI.1 x []) ?_;refine B (List.length_map _) ?_;rfl)
theorem FX (h:eb tab bL N a6 x) (hs:cA (x.ai [])) (aG:per[t]? =some (.V tab)) (b2:per[u]? =some (.V bL)):aH b (m+5) "page_count" [bB t u] per=some (.ret (.U (.int (ci (x.ai [])).length)),per):=by
 have hc:=h.cnt hs
 refine jF h.node ?_;intro k par cnt kids u;subst u
 refine cl hc ?_;clear hc;intro u;subst u;intro _
 refine bu G0 ?_
 exact LL aG b2 h.i3 (by cases par<;>rfl) (Int.natCast_nonneg _)
theorem Dw (h:eb tab bL N a6 x) (hs:cA (x.ai [])) (aG:per[t]? =some (.V tab)) (b2:per[u]? =some (.V bL)) {a:Nat} {k:Int} {q:db} (bA:(ci (x.ai []))[a]? =some (k,q)):∃par,aH b (m+6) "page_at" [bB t u,.int a] per=some (.ret (.U (m3 k (dU par none (.inl q)))),per):=by
 have hc:=h.cnt hs
 have aq:=h.len
 have fp:=h.fu
 have lC:a<(ci (x.ai [])).length:=(List.getElem?_eq_some_iff.mp bA).1
 refine xS ((Xg (b:=b) (CQ:=aH false (m+5)) (n:=19) (m:=m) (t:=t) (u:=u) (per:=per) aG (by refine B h.fT.len ?_;exact UJ fp) (a:=(a:Int))).1 x [] a mc h.ins hc (by refine B G0 ?_;exact lC) (by(refine B h.fT.len ?_;refine B List.length_nil ?_);exact V5 aq) (by unfold mc;exact XT aq fp)) ?_;intro cS cI par ab' c8 ak ar
 have bQ:=congrArg (fun l=>l[a]?) (pI.1 x [])
 (replace bQ:=List.getElem?_map▸bQ;replace bQ:=ar▸bQ;replace bQ:=bA▸bQ)
 cases bQ
 refine⟨par,c6 RA ?_⟩
 have rm:=FX (b:=b) (m:=m) h hs aG b2
 have Jq:=yP (b:=b) (m:=m+2) aG b2 (v:=au a6) (by refine B h.bL ?_;rfl) (.r0 h.jS rfl)
 have aY:=D0 (b:=b) (m:=m+1) (u:=u) (ab:=[]) aG h.ins
 have aB:=BI (b:=b) (m:=m+2) (u:=u) (k0:=cS) (ab:=ab'.map au) (pg:=true) aG (so (par:=par) (cnt:=none) (p:=cI)).1 (Nat.le_trans (Nat.le_of_lt (sW (q:=⟨cS,par,none,.inl cI,[]⟩))) (by unfold a4;exact Al))
 apply dp rfl
 ·refine aO (fs₁:=⟨[("shelf",.U (bB t u)),("at",.U (.int a)),("spot",.U (x.sv []))],per⟩) (dc (dt rfl (bM rfl rfl (bM (f8 rfl (dZ rfl rfl rfl rfl rfl Jq) (nw (kk:=.str "Pages") (l:=lT x.num) (x:=au x.num) rfl rfl rfl rfl rfl)) rfl rfl)) aY) rfl) ?_
  refine aO (dc rfl rfl) ?_
  refine aO (co false (je (vv (z:=true) (c:=.int a) (c':=.U (.int (ci (x.ai [])).length)) rfl rfl rfl rfl (pz (Int.natCast_nonneg _)) (dt rfl rfl rm) rfl rfl (ov (decide_eq_true (by exact ug lC))))) rfl) ?_
  refine aO (rB ak) ?_
  exact cu (dD (zW rfl (by decide+kernel) (by decide+kernel) (by decide+kernel) (by decide+kernel) rfl (bM rfl rfl (bM (dt rfl rfl aB) rfl rfl)) rfl) rfl)
 ·rfl
noncomputable def AU (t u:Nat) (found:List H) (cts:cD) (per:List H):X:=⟨[("shelf",.U (bB t u)),("found",.U (.am found)),("counts",.aD (.V cts)),("faults",.aD (.am []))],per⟩
noncomputable def uL (t u:Nat) (found:List H) (cts:cD) (s k:H) (per:List H):X:=⟨[("shelf",.U (bB t u)),("found",.U (.am found)),("counts",.aD (.V cts)),("faults",.aD (.am [])),("spot",.U s),("number",.U k)],per⟩
theorem Aw {found:List H} {cts:cD} (aG:per[t]? =some (.V tab)):∀{L:List bg} {fs:X},(fs=AU t u found cts per\/∃s k,fs=uL t u found cts s k per)->(∀q∈L,q.par=q.ab.getLast? /\q.ab.length<500/\(q.pg=false->∃c,q.cnt=some c/\a9 (.int q.k) cts=some (.int c)))->
  ∃fs',f5 (aJ b (aH b (m+2)) CQ (n+20) (bN (aI 39))) (bN (aI 39)) "spot" (d5 (ce (aI 39) 3)) (L.map fun q=>q.sp.v) fs=some (.next,fs')/\(fs'=AU t u found cts per\/∃s k,fs'=uL t u found cts s k per)
 |[],fs,aB,_=>⟨fs,rfl,aB⟩
 |q::L,fs,aB,h=>by
  refine ef (h q List.mem_cons_self) ?_;intro M O Y
  refine bb (Aw (L:=L) (fs:=uL t u found cts q.sp.v (.int q.k) per) aG (.inr ⟨_,_,rfl⟩) fun r aP=>h r (List.mem_cons_of_mem _ aP)) ?_;intro fs' ak ar
  refine⟨fs',?_,ar⟩
  have an:=E6 (b:=b) (m:=m) (per:=per) (Hc (q:=q) (.inl M) O (by have:=sW (q:=q);exact Ee this))
  have KS:kg q.sp q.par=true:=by unfold kg;exact decide_eq_true M
  replace an:=KS▸an
  have lu:∃fs₁,eQ (bN (aI 39)) "spot" (.U q.sp.v) fs=some fs₁/\(aJ b (aH b (m+2)) CQ (n+20) (bN (aI 39))).de (((d5 (ce (aI 39) 3))[0]?).getD default) fs₁=some (.next,uL t u found cts q.sp.v (.int q.k) per):=by
   rcases aB with rfl|⟨s,k,rfl⟩<;>exact⟨_,rfl,dc rfl rfl⟩
  refine bb lu ?_;clear lu;intro fs₁ bW cC
  refine fM bW ?_ ak
  refine aO (r:=(d5 (ce (aI 39) 3)).drop 1) cC (aO (co false (je (t:=true) (jZ (dt rfl rfl an))) rfl) ?_)
  obtain⟨k,par,cnt,e,ab⟩:=q
  cases e with
  |inl p=>
   have aR:a9 (.str "MediaBox") (er (dU par cnt (.inl p)))=some (.am [.int 0,.int 0,.int p.w,.int 9]):=(zM (by simp [fV])).trans (by obtain⟨n,w,r⟩:=p;cases r<;>rfl)
   exact aO (co false (oK rfl) rfl) (aO (co false (kB rfl (cR rfl rfl rfl rfl (N0 (kk:=.str "MediaBox") rfl (by show(!(a9 (.str "MediaBox") (er (dU par cnt (.inl p)))).isSome)=false;refine B aR ?_;rfl)) rfl)) rfl) rfl)
  |inr l=>
   refine bb (Y rfl) ?_;intro c ey eC
   have ey:cnt=some c:=ey
   subst ey
   exact aO (co false (kB rfl (cR (dZ rfl rfl rfl rfl rfl (kE aG (v:=.int c) (by cases par<;>rfl) (.hM rfl))) (f6 rfl rfl rfl rfl (pL (kk:=.int k) rfl eC)) rfl rfl Ei rfl)) rfl) (aO (co false (oK rfl) rfl) rfl)
end
end Mine
end
section
open PySem
namespace Mine
theorem AG:ds "told"=some (aI 15):=by kernel_rfl
theorem QN:ds "Shelf.told"=some (cG 19 5):=by kernel_rfl
section
variable{b:Bool} {C CQ:cs} {n:Nat} {J aW:Scope} {fs fs₁ fs₂ fs₃ g4 fs':X} {R:bk} {o:Option (bE×X)} {p:Pos} {m:Nat} {t u:Nat} {per:List H} {tab bL:cD} {N:Nat} {a6:Int} {x:af}
theorem VJ (h:eb tab bL N a6 x) (hs:cA (x.ai [])) (aG:per[t]? =some (.V tab)) (b2:per[u]? =some (.V bL)):aH b (m+6) "page_faults" [bB t u] per=some (.ret (.own (.am [])),per):=by
 have aq:=h.len
 have fp:=h.fu
 have ak:=t7 (b:=b) (m:=m) aG b2 h.i3
 replace ak:=wT▸ak
 have ar:aH b (m+5) "counts_of" [.am ((x.ai []).map fun q=>q.sp.v)] per=some (.ret (.own (.V (nc ((x.ai []).map bg.sp)))),per):=by
  have bx:∀y∈(x.ai []).map bg.sp,∀k∈y.ab,gw (((x.ai []).map bg.sp).foldl hq []) k:=by
   intro y aQ k ag
   refine bb (List.mem_map.mp aQ) ?_;intro q aA u;subst u
   refine et (tP.1 x [] q aA) ?_;intro dW ak _ ar
   have ag:k∈q.ab:=ag
   (replace ag:=ak▸ag;replace ag:=(List.nil_append _)▸ag)
   refine bb (List.mem_map.mp (ar k ag)) ?_;intro cI mQ u;subst u
   exact⟨_,uh h.ev cI mQ⟩
  have ay:((x.ai []).map fun q=>q.sp.v)=((x.ai []).map bg.sp).map cP.v:=by refine B List.map_map ?_;rfl
  have iS:((x.ai []).map bg.sp).length<900:=by refine B (List.length_map _) ?_;exact GU aq fp
  have b1:∃s r,(x.ai []).map bg.sp=s::r:=by
   refine jF h.node ?_;intro k par cnt kids u;subst u
   exact⟨_,_,rfl⟩
  refine i9 b1 ?_;clear b1;intro s r u4
  refine B ay ?_
  rw [u4] at bx iS|-
  exact Au (m:=m+4) iS bx
 obtain⟨fs',bQ,cX⟩:=Aw (b:=b) (CQ:=aH false (m+5)) (n:=19) (m:=m+3) (u:=u) (found:=(x.ai []).map fun q=>q.sp.v) (cts:=nc ((x.ai []).map bg.sp)) aG (L:=x.ai []) (.inl rfl) fun q aA=>by
  refine et (tP.1 x [] q aA) ?_;intro dW bH b7 _
  refine⟨(hs q aA).1,by(refine B bH ?_;refine B (List.nil_append _) ?_);exact Ao aq fp b7,fun an=>⟨_,(hs q aA).2 an,?_⟩⟩
  have:=yB (L:=x.ai []) (uh (d:=[]) h.ev q aA)
  replace this:=an▸this
  refine this.trans ?_
  simp
 refine c6 Xb ?_
 have mN:getL "faults" fs'.loc=some (.aD (.am []))/\fs'.per=per:=by
  rcases cX with rfl|⟨s,k,rfl⟩<;>exact⟨rfl,rfl⟩
 apply dp rfl
 ·refine aO (fB (dt rfl (bM rfl rfl rfl) ak) rfl) ?_
  refine aO (fB (dt rfl (bM rfl rfl rfl) ar) rfl) ?_
  refine aO (fB rfl rfl) ?_
  refine aO (g6 (gY rfl (du (r:=.U (.am ((x.ai []).map fun q:bg=>q.sp.v))) rfl rfl)) bQ) ?_
  exact cu (sy rfl (by decide+kernel) mN.1)
 ·exact mN.2
theorem r5 {v:List H}:aH b (m+1) "told_objects" v per=aH b (m+1) "told" v per:=by kernel_rfl
theorem Df {i:Int}:aH b (m+2) "told" [au i] per=some (.ret (.U (.aF [.str "ref",.int i,.int 0])),per):=by kernel_rfl
theorem EZ {s:Str}:aH b (m+2) "told" [gO s] per=some (.ret (.U (.aF [.str "name",.str s])),per):=by kernel_rfl
theorem CJ {i:Int}:aH b (m+2) "told" [.int i] per=some (.ret (.U (.aF [.str "int",.int i])),per):=by kernel_rfl
theorem Le {l:List H}:aH b (m+1) "kind_of" [.am l] per=some (.ret (.U (.str "array")),per):=by kernel_rfl
theorem Ml {l:cD}:aH b (m+1) "kind_of" [.V l] per=some (.ret (.U (.str "dict")),per):=by kernel_rfl
theorem vq {elt:Expr} {x:Str} {L:List (Str×cf)} {l:List (H×H)}:∀{fs:X},(∀e∈l,dY R elt ⟨bY x (.U e.1) L,per⟩=some (e.2,⟨bY x (.U e.1) L,per⟩))->(fs=⟨L,per⟩\/∃w,fs=⟨bY x w L,per⟩)->∃c2,gd R x [] elt (l.map Prod.fst) fs=some (l.map Prod.snd,⟨c2,per⟩):=by
 induction l with
 |nil=>exact fun _ aB=>r2 aB
 |cons v r ih=>exact fun h aB=>(ih (fun y aQ=>h y (List.mem_cons_of_mem _ aQ)) (.inr ⟨.U v.1,rfl⟩)).elim fun l e=>⟨l,wr ((congrArg (dY R elt) (sQ v.1 aB)).trans (h v List.mem_cons_self)) e⟩
theorem Lo {elt c:Expr} {x:Str} {L:List (Str×cf)} {l:List (H×H)}:∀{fs:X},(∀e∈l,R.dF c ⟨bY x (.U e.1) L,per⟩=some (true,⟨bY x (.U e.1) L,per⟩)/\dY R elt ⟨bY x (.U e.1) L,per⟩=some (e.2,⟨bY x (.U e.1) L,per⟩))->(fs=⟨L,per⟩\/∃w,fs=⟨bY x w L,per⟩)->∃c2,gd R x [c] elt (l.map Prod.fst) fs=some (l.map Prod.snd,⟨c2,per⟩):=by
 induction l with
 |nil=>exact fun _ aB=>r2 aB
 |cons v r ih=>exact fun h aB=>(ih (fun y aQ=>h y (List.mem_cons_of_mem _ aQ)) (.inr ⟨.U v.1,rfl⟩)).elim fun l e=>⟨l,bd ((congrArg (R.dF c) (sQ v.1 aB)).trans (h v List.mem_cons_self).1) (bd (h v List.mem_cons_self).2 (bd e rfl))⟩
noncomputable def sH (i:Nat):Expr×List Expr×Scope:=(eo (iJ (d5 (ce (aI 15) i)) 0) [1,1,0],[eo (iJ (d5 (ce (aI 15) i)) 0) [1,1,2]],it (eo (iJ (d5 (ce (aI 15) i)) 0) [1,1]))
theorem N3 {l:List (H×H)} (h:∀e∈l,aH b (m+1) "told" [e.1] per=some (.ret (.U e.2),per)) (aE:∀e∈l,iI e.1=true) (aq:l.length<900):aH b (m+2) "told" [.am (l.map Prod.fst)] per=some (.ret (.U (.aF (.str "array"::l.map Prod.snd))),per):=by
 refine c6 AG ?_
 obtain⟨c2,e⟩:=vq (R:=aJ b (aH b (m+1)) (aH false (m+1)) 35 (sH 1).2.2) (per:=per) (elt:=(sH 1).1) (x:="part") (L:=[]) (l:=l) (fs:=⟨[],per⟩)
  (fun e aX=>du (dt rfl (bM rfl rfl rfl) (r5.trans (h e aX))) rfl) (.inl rfl)
 have M:gC "tuple" (.am (l.map Prod.snd))=some (.U (.aF (l.map Prod.snd))):=yU (by refine B (List.length_map _) ?_;unfold a4;exact j5 aq)
 apply dp rfl
 ·refine aO (dc (dt rfl rfl Le) rfl) ?_
  exact cu (co true rfl (cu (dD (dB rfl (fb rfl (h4 (gY rfl (du (r:=.U (.am (l.map Prod.fst))) rfl rfl)) (by refine B (List.length_map _) ?_;unfold a4;exact j5 aq) rfl e) rfl M) rfl rfl (td (x:=[.str "array"]) (y:=l.map Prod.snd) (by refine B (List.length_map _) ?_;unfold a4;simp;exact Bv aq))) rfl)))
 ·rfl
end
end Mine
end
section
open PySem
namespace Mine
noncomputable def gN:Nat->H->Bool
 |0,_=>false
 |_+1,.int _=>true
 |_+1,.str _=>true
 |n+1,.aF l=>l.all (gN n)
 |_,_=>false
theorem GP {f:H->H->Option Bool} (l:List H) (h:∀x∈l,f x x=some true):ll f l l=some true:=by
 induction l with
 |nil=>rfl
 |cons x r ih=>
  exact i4 (h x List.mem_cons_self) (ih fun y aQ=>h y (List.mem_cons_of_mem _ aQ)) rfl
theorem zB (n:Nat):∀{v:H},gN n v=true->eO n v v=some true:=by
 induction n with
 |zero=>intro v h;cases h
 |succ n ih=>
  intro v h
  cases v with
  |int i=>show some (i==i)=_;(refine B (beq_self_eq_true _) ?_;rfl)
  |str s=>show some (s==s)=_;(refine B (beq_self_eq_true _) ?_;rfl)
  |aF l=>exact GP l fun x ae=>ih (List.all_eq_true.mp h x ae)
  |_=>cases h
theorem eq_self {l:List H} (h:gN eK (.aF l)=true):eF .Eq (.aF l) (.aF l)=some true:=zB _ h
theorem SX {l:List H} (h:gN eK (.aF l)=true):eF .NotEq (.aF l) (.aF l)=some false:=by
 show(eO eK (.aF l) (.aF l)).map (!·)=_
 refine B (zB _ h) ?_;rfl
noncomputable def lU (i:Int):H:=.aF [.str "int",.int i]
noncomputable def ib (i:Int):H:=.aF [.str "ref",.int i,.int 0]
noncomputable def kn (s:Str):H:=.aF [.str "name",.str s]
noncomputable def Ox (w:Int):H:=.aF [.str "array",lU 0,lU 0,lU w,lU 9]
section
variable{b:Bool} {C CQ:cs} {n:Nat} {J aW:Scope} {fs fs₁ fs₂ fs₃ g4 fs':X} {R:bk} {o:Option (bE×X)} {p:Pos} {m:Nat} {t u:Nat} {per:List H} {tab bL:cD} {N:Nat} {a6:Int} {x:af}
theorem GR {d:cD} {l:List (Str×H)} (M:gC "sorted" (.V d)=some (.own (.am (l.map fun e=>.str e.1)))) (h:∀e∈l,∃v,a9 (.str e.1) d=some v/\fG v=false/\iI v=true/\aH b (m+1) "told" [v] per=some (.ret (.U e.2),per)) (aq:l.length<900):
  aH b (m+2) "told" [.V d] per=some (.ret (.U (.aF (.str "dict"::l.map fun e=>.aF [.str e.1,e.2]))),per):=by
 refine c6 AG ?_
 obtain⟨c2,e⟩:=Lo (R:=aJ b (aH b (m+1)) (aH false (m+1)) 35 (sH 2).2.2) (per:=per) (elt:=(sH 2).1) (c:=(sH 2).2.1.headD default) (x:="key") (L:=[("value",.U (.V d))]) (l:=l.map fun e=>(.str e.1,.aF [.str e.1,e.2])) (fs:=⟨[("value",.U (.V d))],per⟩)
  (fun e aX=>by
   obtain⟨⟨k,w⟩,hB,rfl⟩:=List.mem_map.mp aX
   refine gm (h _ hB) ?_;intro v bH b7 c7 fm
   exact⟨cR (f6 rfl rfl rfl rfl (pL (kk:=.str k) rfl bH)) rfl (uA c7) rfl (x:=true) (by show some (!fG v)=_;refine B b7 ?_;rfl) rfl,
    du (ky (bM rfl rfl (bM (dt rfl (bM (f6 rfl rfl rfl rfl (pL (kk:=.str k) rfl bH)) rfl rfl) (r5.trans fm)) rfl rfl)) (Nat.le_of_ble_eq_true rfl)) rfl⟩) (.inl rfl)
 (replace e:=List.map_map▸e;replace e:=List.map_map▸e)
 have O:gC "tuple" (.am (l.map (Prod.snd∘fun e:Str×H=>(H.str e.1,H.aF [.str e.1,e.2]))))=some (.U (.aF (l.map fun e=>.aF [.str e.1,e.2]))):=yU (by refine B (List.length_map _) ?_;unfold a4;exact j5 aq)
 apply dp rfl
 ·refine aO (dc (dt rfl rfl Ml) rfl) ?_
  refine aO (co false rfl rfl) ?_
  exact cu (co true rfl (cu (dD (dB rfl (fb rfl (h4 (gY rfl (du (fb rfl (fs₁:=⟨[("value",.U (.V d)),("kind",.U (.str "dict"))],per⟩) (r:=.U (.V d)) rfl rfl M) rfl)) (by refine B (List.length_map _) ?_;unfold a4;exact j5 aq) rfl e) rfl O) rfl rfl (td (x:=[.str "dict"]) (y:=l.map fun e=>.aF [.str e.1,e.2]) (by refine B (List.length_map _) ?_;unfold a4;simp;exact Bv aq))) rfl)))
 ·rfl
noncomputable def gr (p:db) (yY:List H) (par:Option Int):H:=.aF (.str "dict"::.aF [.str "MediaBox",Ox p.w]::.aF [.str "N",lU p.n]::((par.map fun j=>H.aF [.str "Parent",ib j]).toList++((if p.kh then [.aF [.str "Rotate",lU 90]] else [])++yY)))
theorem Se {p:db} {par:Option Int}:aH b (m+5) "told" [.V (dU par none (.inl p))] per=some (.ret (.U (gr p [.aF [.str "Type",kn "Page"]] par)),per):=by
 obtain⟨n,w,r⟩:=p
 cases r<;>cases par<;>kernel_rfl
theorem TH {p:db}:aH b (m+5) "told" [.V p.d] per=some (.ret (.U (gr p [] none)),per):=by
 obtain⟨n,w,r⟩:=p
 cases r<;>kernel_rfl
noncomputable def z2 (par:Option Int) (c:Int) (l:List Int):H:=.aF (.str "dict"::.aF [.str "Count",lU c]::.aF [.str "Kids",.aF (.str "array"::l.map ib)]::((par.map fun j=>H.aF [.str "Parent",ib j]).toList++[.aF [.str "Type",kn "Pages"]]))
theorem Uh {par:Option Int} {c:Int} {l:List Int} (aq:l.length<900):aH b (m+5) "told" [.V (dU par (some c) (.inr l))] per=some (.ret (.U (z2 par c l)),per):=by
 have ag:=N3 (b:=b) (m:=m+2) (per:=per) (l:=l.map fun i=>(au i,ib i)) (fun e aX=>by obtain⟨i,_,rfl⟩:=List.mem_map.mp aX;exact Df (m:=m+1)) (fun e aX=>by obtain⟨i,_,rfl⟩:=List.mem_map.mp aX;rfl) (by refine B (List.length_map _) ?_;exact aq)
 (replace ag:=List.map_map▸ag;replace ag:=List.map_map▸ag)
 cases par with
 |none=>
  refine GR (m:=m+3) (l:=[("Count",lU c),("Kids",.aF (.str "array"::l.map ib)),("Type",kn "Pages")]) (by kernel_rfl) (fun e aX=> ?_) (Nat.le_of_ble_eq_true rfl)
  simp only [List.mem_cons,List.not_mem_nil,or_false] at aX
  rcases aX with rfl|rfl|rfl
  ·exact⟨_,rfl,rfl,rfl,CJ (m:=m+2)⟩
  ·exact⟨_,rfl,rfl,rfl,ag⟩
  ·exact⟨_,rfl,rfl,rfl,EZ (m:=m+2)⟩
 |some j=>
  refine GR (m:=m+3) (l:=[("Count",lU c),("Kids",.aF (.str "array"::l.map ib)),("Parent",ib j),("Type",kn "Pages")]) (by kernel_rfl) (fun e aX=> ?_) (Nat.le_of_ble_eq_true rfl)
  simp only [List.mem_cons,List.not_mem_nil,or_false] at aX
  rcases aX with rfl|rfl|rfl|rfl
  ·exact⟨_,rfl,rfl,rfl,CJ (m:=m+2)⟩
  ·exact⟨_,rfl,rfl,rfl,ag⟩
  ·exact⟨_,rfl,rfl,rfl,Df (m:=m+2)⟩
  ·exact⟨_,rfl,rfl,rfl,EZ (m:=m+2)⟩
theorem UX {k:Int}:aH b (m+5) "told" [.V (lT k)] per=some (.ret (.U (.aF [.str "dict",.aF [.str "Pages",ib k],.aF [.str "Type",kn "Catalog"]])),per):=by kernel_rfl
theorem zS {p:db} {s:Str} {k:Nat} {par:Option Int}:gN (k+8) (gr p [.aF [.str "Type",kn s]] par)=true/\gN (k+8) (gr p [] par)=true:=by
 obtain⟨n,w,r⟩:=p
 cases r<;>cases par<;>exact⟨rfl,rfl⟩
theorem T1 {k:Nat} {par:Option Int} {c:Int} {l:List Int}:gN (k+8) (z2 par c l)=true:=by
 have h:(l.map ib).all (gN (k+5))=true:=by
  refine B List.all_map ?_
  exact List.all_eq_true.mpr fun _ _=>rfl
 have O:gN (k+6) (.aF (.str "array"::l.map ib))=true:=by
  show(true&&(l.map ib).all (gN (k+5)))=true
  refine B h ?_;rfl
 cases par
 ·show(true&&(true&&((true&&(gN (k+6) (.aF (.str "array"::l.map ib))&&true))&&true)))=true
  refine B O ?_;rfl
 ·show(true&&(true&&((true&&(gN (k+6) (.aF (.str "array"::l.map ib))&&true))&&true)))=true
  refine B O ?_;rfl
end
end Mine
end
section
open PySem
namespace Mine
theorem OP {a:Int} (l:List Int) (h:∀b∈l,¬a<b):jw a l=l++[a]:=by
 induction l with
 |nil=>rfl
 |cons b r ih=>
  unfold jw
  (refine B (if_neg (h b List.mem_cons_self)) ?_;refine B (ih fun c hc=>h c (List.mem_cons_of_mem _ hc)) ?_);rfl
noncomputable def hU (N:Nat):List Int:=(List.range N).map fun(i:Nat)=>(i:Int)+1
theorem Mt {N:Nat}:hU (N+1)=hU N++[(N:Int)+1]:=by unfold hU;(refine B List.range_succ ?_;refine B List.map_append ?_);rfl
theorem GF {N:Nat} {j:Int} (h:j∈hU N):1<=j/\j<=N:=by
 refine bb (List.mem_map.mp h) ?_;intro i M u;subst u
 have:=List.mem_range.mp M
 exact VO this
theorem IR (N:Nat):qE (hU N)=hU N:=by
 induction N with
 |zero=>rfl
 |succ N ih=>
  unfold qE at ih|-
  (refine B Mt ?_;refine B List.foldl_append ?_;refine B ih ?_)
  exact OP _ fun b ah=>by have:=GF ah;exact Wp this
theorem PE {l:cD}:∀{ns:List Int},l.map (·.1)=ns.map al.int->ow l=some ns:=by
 induction l with
 |nil=>intro ns h;cases ns<;>first|rfl|cases h
 |cons a r ih=>
  intro ns h
  cases ns with
  |nil=>cases h
  |cons i t=>exact i4 (congrArg Cc (List.cons.inj h).1) (ih (List.cons.inj h).2) rfl
theorem XS {α:Type} {P:α->H->Prop} (L:List α) (h:∀a∈L,∃w,P a w):∃l:List (α×H),l.map Prod.fst=L/\∀e∈l,P e.1 e.2:=by
 induction L with
 |nil=>exact⟨[],rfl,fun e aX=>(List.not_mem_nil aX).elim⟩
 |cons a r ih=>
  refine bS (h a List.mem_cons_self) ?_;intro w ec
  refine bb (ih fun b ah=>h b (List.mem_cons_of_mem _ ah)) ?_;intro l M O
  refine⟨(a,w)::l,by(refine B List.map_cons ?_;refine B M ?_;rfl),fun e aX=> ?_⟩
  rcases List.mem_cons.mp aX with rfl|aX
  ·exact ec
  ·exact O e aX
section
variable{b:Bool} {C CQ:cs} {n:Nat} {J aW:Scope} {fs fs₁ fs₂ fs₃ g4 fs':X} {R:bk} {o:Option (bE×X)} {p:Pos} {m:Nat} {t u:Nat} {per:List H} {tab bL:cD} {N:Nat} {a6:Int} {x:af}
theorem Jc (aG:per[t]? =some (.V tab)) (ag:fX tab N) (aL:0<N) (dm:N<64):aH b (m+1) "Shelf.numbers" [bB t u] per=some (.ret (.own (.am ((hU N).map .int))),per):=by
 refine c6 Mx ?_
 have M:gC "sorted" (.V tab)=some (.own (.am ((hU N).map .int))):=by
  have rR:tab.map (·.1)=(hU N).map al.int:=by refine B ag ?_;unfold hU;refine B List.map_map ?_;rfl
  (refine B (T5 (by rw [ag.len];exact dm) (PE rR)) ?_;refine B (IR _) ?_;rfl)
 apply dp rfl
 ·exact cu (dD (fb rfl rfl aG M) rfl)
 ·rfl
theorem Je (h:eb tab bL N a6 x) (hc:kc N a6 x) (hs:cA (x.ai [])) {j:Int} (bF:j∈hU N):∃v w,a9 (.int j) tab=some (.aF [.int 0,v])/\iI v=true/\(∀b m per,aH b (m+5) "told" [v] per=some (.ret (.U w),per))/\∀k,gN (k+8) w=true:=by
 refine cl (GF bF) ?_;intro M O
 rcases hc j M O with rfl|aY
 ·exact⟨_,_,h.jS,rfl,fun _ _ _=>UX,fun k=>rfl⟩
 ·refine bb (List.mem_map.mp aY) ?_;intro q aA u;subst u
  have bi:=h.ins q aA
  have eN:=hs q aA
  have j6:=ye.1 x [] q aA
  have aq:=h.len
  have fp:=h.fu
  obtain⟨k,par,cnt,e,ab⟩:=q
  cases e with
  |inl p=>exact⟨_,_,bi,rfl,fun _ _ _=>Se,fun k=>zS.1⟩
  |inr l=>
   obtain⟨c,hc⟩:∃c,cnt=some c:=⟨_,eN.2 rfl⟩
   have iS:=(j6 l rfl).length_le
   unfold cz at iS
   replace iS:=(List.length_map _)▸iS
   subst hc
   exact⟨_,_,bi,rfl,fun _ _ _=>Uh (by exact BE aq fp iS),fun k=>T1⟩
noncomputable def zf:Expr×Scope:=(eo (ce (cG 19 5) 0) [1,0],it (eo (ce (cG 19 5) 0) [1]))
noncomputable def c3 (pn:H) (tab:cD) (a6:Int) (rest:List H):List H:=pn::.V tab::.V [(.str "Root",au a6)]::rest
theorem WW {pn:H} {rest:List H}:aH b (m+5) "told" [.per 2] (c3 pn tab a6 rest)=some (.ret (.U (.aF [.str "dict",.aF [.str "Root",ib a6]])),c3 pn tab a6 rest):=by kernel_rfl
theorem PI {pn:H} {rest:List H} (h:eb tab [(.str "Root",au a6)] N a6 x) (hc:kc N a6 x) (hs:cA (x.ai [])) (dm:N<64):∃l,(∀b m,aH b (m+6) "Shelf.told" [bB 1 2] (c3 pn tab a6 rest)=some (.ret (.U (.aF l)),c3 pn tab a6 rest))/\gN eK (.aF l)=true:=by
 have aL:0<N:=by have:=h.fT.at (j:=a6) (by refine B h.jS ?_;rfl);exact TM this
 obtain⟨l,ie,jv⟩:=XS (P:=fun j w=>∃v,a9 (.int j) tab=some (.aF [.int 0,v])/\iI v=true/\(∀b m per,aH b (m+5) "told" [v] per=some (.ret (.U w),per))/\∀k,gN (k+8) w=true) (hU N) fun j bF=>by
  refine i9 (Je h hc hs bF) ?_;intro v w e
  exact⟨w,v,e⟩
 have iS:l.length=N:=by(refine bu (List.length_map (f:=Prod.fst)) ?_;refine B ie ?_);unfold hU;(refine B (List.length_map _) ?_;refine B List.length_range ?_;rfl)
 have O:gC "tuple" (.am (l.map (Prod.snd∘fun e:Int×H=>(H.int e.1,H.aF [.int e.1,.int 0,e.2]))))=some (.U (.aF (l.map (Prod.snd∘fun e:Int×H=>(H.int e.1,H.aF [.int e.1,.int 0,e.2]))))):=yU (by refine B (List.length_map _) ?_;unfold a4;exact Iq dm iS)
 refine⟨[.aF (l.map (Prod.snd∘fun e:Int×H=>(H.int e.1,H.aF [.int e.1,.int 0,e.2]))),.aF [.str "dict",.aF [.str "Root",ib a6]]],fun b m=>c6 QN ?_,?_⟩
 ·have aE:=Jc (b:=b) (m:=m+4) (u:=2) (per:=c3 pn tab a6 rest) (t:=1) rfl h.fT aL dm
  obtain⟨c2,e⟩:=vq (R:=aJ b (aH b (m+5)) (aH false (m+5)) 37 zf.2) (per:=c3 pn tab a6 rest) (elt:=zf.1) (x:="number") (L:=[("self",.U (bB 1 2))]) (l:=l.map fun e=>(.int e.1,.aF [.int e.1,.int 0,e.2])) (fs:=⟨[("self",.U (bB 1 2))],c3 pn tab a6 rest⟩)
   (fun e aX=>by
    obtain⟨⟨j,w⟩,hB,rfl⟩:=List.mem_map.mp aX
    refine gm (jv _ hB) ?_;intro v bH b7 c7 _
    have Bm:∀{n hp hy ir j7 fs},fs=(⟨bY "number" (.U (.int j)) [("self",.U (bB 1 2))],c3 pn tab a6 rest⟩:X)->(aJ b (aH b (m+5)) (aH false (m+5)) (n+3) zf.2).ba (.Subscript (.Attribute (.Name "self" hp) "table" hy) (.Name "number" ir) j7) fs=some (.U (.aF [.int 0,v]),fs):=fun{n hp hy ir j7 fs} e=>by
     subst e
     exact f6 rfl (r:=.U (.per 1)) (v:=.V tab) rfl rfl rfl (pL (kk:=.int j) rfl bH)
    exact du (ky (bM rfl rfl (bM (f6 rfl (r:=.U (.aF [.int 0,v])) (k:=.int 0) (v:=.aF [.int 0,v]) (Bm rfl) rfl rfl rfl) rfl (bM (dt rfl (bM (f6 rfl (r:=.U (.aF [.int 0,v])) (k:=.int 1) (v:=.aF [.int 0,v]) (Bm rfl) rfl rfl rfl) rfl rfl) (r5.trans (c7 _ _ _))) rfl rfl))) (Nat.le_of_ble_eq_true rfl)) rfl) (.inl rfl)
  (replace e:=List.map_map▸e;replace e:=List.map_map▸e)
  have aR:l.map (Prod.fst∘fun e:Int×H=>(H.int e.1,H.aF [.int e.1,.int 0,e.2]))=(hU N).map .int:=by(refine bu ie ?_;refine B List.map_map ?_);rfl
  replace e:=aR▸e
  apply dp rfl
  ·refine aO (dc (fb rfl (h4 (gY rfl (du (dZ rfl rfl rfl rfl rfl aE) rfl)) (by refine B (List.length_map _) ?_;unfold hU;(refine B (List.length_map _) ?_;refine B List.length_range ?_);unfold a4;exact Wg dm) rfl e) rfl O) rfl) ?_
   exact cu (dD (ky (bM rfl rfl (bM (dt rfl rfl (r5.trans WW)) rfl rfl)) (Nat.le_of_ble_eq_true rfl)) rfl)
  ·rfl
 ·show((l.map _).all (gN 30)&&true)=true
  (refine B (Bool.and_true _) ?_;refine B List.all_map ?_)
  refine List.all_eq_true.mpr fun e aX=> ?_
  refine gm (jv e aX) ?_;intro _ _ _ _ an
  show(true&&(true&&(gN 29 e.2&&true)))=true
  refine B (an 21) ?_;rfl
end
end Mine
end
section
open PySem
namespace Mine
theorem Jf:ds "_law_refused"=some (aI 54):=by kernel_rfl
theorem MK:ds "_law_seen"=some (aI 53):=by kernel_rfl
section
variable{b:Bool} {C CQ:cs} {n:Nat} {J aW:Scope} {fs fs₁ fs₂ fs₃ g4 fs':X} {R:bk} {o:Option (bE×X)} {p:Pos} {m:Nat} {t u:Nat} {per:List H} {tab bL:cD} {N:Nat} {a6:Int} {x:af}
theorem W3 {body h:List Stmt} {i0:Stmt} {c:Str} {q bo:Pos} {r:aU} (hc:(c=("TreeFault":Str)&&J.names.lookup c==some .globalImplicit&&J.names.all (fun p=>p.2 !=.free))=true) (ah:cO (aJ true C CQ n J) body fs=some (.dC,fs₁)) (bx:cO (aJ false CQ CQ n J) (i0::h) fs₁=some (.ret r,fs₂)):
  (aJ true C CQ (n+1) J).de (.Try body [.ExceptHandler (some (.Name c q)) none (i0::h) bo] [] [] p) fs=some (.ret r,fs₂):=by
 simp only [Bool.and_eq_true] at hc
 exact bq rfl (bd rfl (cQ (by simp only [Bool.and_eq_true];exact⟨hc.1.1,hc.1.2,hc.2,rfl⟩) (bd ah (bd bx (bq rfl rfl)))))
theorem EM {pn:H} {rest:List H} (h:eb tab [(.str "Root",au a6)] N a6 x) (hc:kc N a6 x) (hs:cA (x.ai [])) (dm:N<64) {a:Int} (bA:a<0\/((ci (x.ai [])).length:Int)<a):
  aH true (m+8) "_law_refused" [bB 1 2,.int a] (c3 pn tab a6 rest)=some (.ret (.U (.bool true)),c3 pn tab a6 rest):=by
 refine c6 Jf ?_
 refine bb (PI (pn:=pn) (rest:=rest) h hc hs dm) ?_;intro l ak ar
 have ae:=UU (m:=m+6) (pd:=.V [(.str "N",.int 1)]) rfl (IW (m:=m) (t:=1) (u:=2) (per:=c3 pn tab a6 rest) rfl rfl h.i3 (by refine B yz ?_;exact bA))
 apply dp rfl
 ·refine aO (dc (dZ rfl rfl rfl rfl rfl (ak _ (m+1))) rfl) ?_
  exact cu (W3 rfl (pX (F5 (by decide+kernel) (bM rfl rfl (bM rfl rfl (bM (Bg rfl) rfl rfl))) ae)) (cu (dD (xw (dZ rfl rfl rfl rfl rfl (ak _ (m+1))) rfl rfl rfl (eq_self ar)) rfl)))
 ·rfl
end
end Mine
end
section
open PySem
namespace Mine
section
variable{b:Bool} {C CQ:cs} {n:Nat} {J aW:Scope} {fs fs₁ fs₂ fs₃ g4 fs':X} {R:bk} {o:Option (bE×X)} {p:Pos} {m:Nat} {t u:Nat} {per:List H} {tab bL:cD} {N:Nat} {a6:Int} {x:af}
noncomputable def IF (t u:Nat) (found:List H) (per:List H):X:=⟨[("shelf",.U (bB t u)),("found",.aD (.am found))],per⟩
noncomputable def ri (t u:Nat) (found:List H) (pg:H) (per:List H):X:=⟨[("shelf",.U (bB t u)),("found",.aD (.am found)),("page",.U pg)],per⟩
noncomputable def UH:Expr:=eo (iJ (d5 (ce (aI 53) 1)) 0) [1]
theorem H4 {found:List H} {k:Int} {p:db} {par:Option Int}:(aJ b (aH b (m+6)) CQ 37 (bN (aI 53))).ba UH (ri t u found (m3 k (dU par none (.inl p))) per)=some (.U (gr p [.aF [.str "Type",kn "Page"]] none),ri t u found (m3 k (dU par none (.inl p))) per):=by
 obtain⟨n,w,r⟩:=p
 cases r<;>cases par<;>kernel_rfl
theorem Ek:∀{l:List (Int×db×Option Int)} {found:List H} {fs:X},(fs=IF t u found per\/∃pg,fs=ri t u found pg per)->found.length+l.length<900->
  ∃fs',f5 (aJ b (aH b (m+6)) CQ 39 (bN (aI 53))) (bN (aI 53)) "page" (d5 (ce (aI 53) 1)) (l.map fun e=>m3 e.1 (dU e.2.2 none (.inl e.2.1))) fs=some (.next,fs')/\getL "found" fs'.loc=some (.aD (.am (found++l.map fun e=>gr e.2.1 [.aF [.str "Type",kn "Page"]] none)))/\fs'.per=per
 |[],found,fs,aB,_=>by
  refine⟨fs,rfl,?_⟩
  (refine B List.map_nil ?_;refine B (List.append_nil _) ?_)
  rcases aB with rfl|⟨pg,rfl⟩<;>exact⟨rfl,rfl⟩
 |(k,p,par)::l,found,fs,aB,aq=>by
  simp only [List.length_cons] at aq
  refine et (Ek (l:=l) (found:=found++[gr p [.aF [.str "Type",kn "Page"]] none]) (fs:=ri t u (found++[gr p [.aF [.str "Type",kn "Page"]] none]) (m3 k (dU par none (.inl p))) per) (.inr ⟨_,rfl⟩) (by simp;exact Du aq)) ?_;intro fs' ak ar bQ
  rw [List.append_assoc] at ar
  refine⟨fs',?_,ar,bQ⟩
  have lu:eQ (bN (aI 53)) "page" (.U (m3 k (dU par none (.inl p)))) fs=some (ri t u found (m3 k (dU par none (.inl p))) per):=by
   rcases aB with rfl|⟨pg,rfl⟩<;>rfl
  exact fM lu (aO (nG (f8 rfl rfl (rF (l:=found) rfl (bM H4 rfl rfl) rfl (by unfold a4;exact Cm aq)))) rfl) ak
noncomputable def tW (q:bg):Option (Int×db×Option Int):=match q.c with
 |.inl p=>some (q.k,p,q.par)
 |.inr _=>none
theorem DI (h:eb tab bL N a6 x) (aG:per[t]? =some (.V tab)) (b2:per[u]? =some (.V bL)):aH b (m+8) "_law_seen" [bB t u] per=some (.ret (.own (.am (((ci (x.ai [])).map Prod.snd).map fun p=>gr p [.aF [.str "Type",kn "Page"]] none))),per):=by
 have aq:=h.len
 have fp:=h.fu
 have key:∀L:List bg,((L.filter bg.pg).map fun q=>q.sp.v).map yD=(L.filterMap tW).map (fun e=>m3 e.1 (dU e.2.2 none (.inl e.2.1)))/\(ci L).map Prod.snd=(L.filterMap tW).map fun e=>e.2.1:=by
  intro L
  induction L with
  |nil=>exact⟨rfl,rfl⟩
  |cons q L ih=>
   obtain⟨k,par,cnt,e,ab⟩:=q
   cases e with
   |inl p=>exact⟨congrArg (List.cons _) ih.1,congrArg (List.cons _) ih.2⟩
   |inr l=>exact ih
 refine cl (key (x.ai [])) ?_;intro k1 k2
 have an:=On (b:=b) (m:=m) aG b2 h.i3 (by
  refine B tH ?_
  intro v ay
  refine bb (List.mem_map.mp ay) ?_;intro q aA u;subst u
  refine cl (List.mem_filter.mp aA) ?_;intro YL Oh
  refine⟨_,_,_,_,rfl,?_,Nat.le_trans (Nat.le_of_lt (sW (q:=q))) (by unfold a4;exact Al)⟩
  obtain⟨k,par,cnt,e,ab⟩:=q
  cases e with
  |inl p=>exact(so (cnt:=cnt)).1
  |inr l=>cases Oh)
 (replace an:=tH▸an;replace an:=k1▸an)
 refine et (Ek (b:=b) (CQ:=aH false (m+7)) (m:=m+1) (t:=t) (u:=u) (per:=per) (l:=(x.ai []).filterMap tW) (found:=[]) (.inl rfl) (by have:=List.length_filterMap_le tW (x.ai []);simp only [List.length_nil];exact L5 aq fp this)) ?_;intro fs' ak ar bQ
 (refine B k2 ?_;refine B List.map_map ?_)
 refine c6 MK ?_
 apply dp rfl
 ·refine aO (fB rfl rfl) ?_
  refine aO (g6 (gY rfl (du (dt rfl rfl an) rfl)) ak) ?_
  exact cu (sy rfl (by decide+kernel) ar)
 ·exact bQ
end
end Mine
end
section
open PySem
namespace Mine
theorem B2:ds "_law_draw"=some (aI 50):=by kernel_rfl
theorem Nz:ds "_law_pen"=some (aI 49):=by kernel_rfl
noncomputable def cx (cells:List Int) (s:Nat) (d:Int):H:=.am [.am (cells.map .int),.int s,.int d]
theorem qL (x:Int) {y:Int} (h:0<y):0<=x.fmod y/\x.fmod y<y:=by
 refine B (Int.fmod_eq_emod_of_nonneg _ (by exact Qd h)) ?_
 exact⟨Int.emod_nonneg _ (by exact RJ h),Int.emod_lt_of_pos _ h⟩
section
variable{b:Bool} {C CQ:cs} {n:Nat} {J aW:Scope} {fs fs₁ fs₂ fs₃ g4 fs':X} {R:bk} {o:Option (bE×X)} {p:Pos} {m:Nat} {t u:Nat} {per:List H} {cells:List Int} {s k:Nat} {d:Int} {rest:List H}
theorem ph {x y:Int} (h:0<y):ke .Mod (.int x) (.int y)=some (.U (.int (x.fmod y))):=by
 exact bq (ej (by exact Ho h) rfl) rfl
theorem z7 {x y:Int} (h:0<y) (O:y<1000):ke .FloorDiv (.int x) (.int y)=some (.U (.int (x.fdiv y))):=by
 have e:¬((y=0:Bool)||(1073741824<=y.natAbs:Bool))=true:=by simp;exact Ov h O
 exact bq (ej e rfl) rfl
set_option exponentiation.threshold 2000 in
theorem Gy {x y:Int} (h:0<=y) (O:y<64) (ae:x.natAbs<2^64):ke .Pow (.int x) (.int y)=some (.U (.int (x^y.toNat))):=by
 have e:(((0<=y:Bool)&&(y<64:Bool))&&(x.natAbs<2^1024:Bool))=true:=by
  (refine B (decide_eq_true h) ?_;refine B (decide_eq_true O) ?_;refine B (decide_eq_true (Nat.lt_trans ae (Nat.pow_lt_pow_right (by decide) (by decide)))) ?_);rfl
 exact bq (cQ e rfl) rfl
theorem Ea {x y:Int} (h:y.natAbs<1000000):ke .Mult (.int x) (.int y)=some (.U (.int (x*y))):=by
 have e:qA y=true:=by unfold qA;exact decide_eq_true (by exact Mf h)
 exact bq (cQ (by(refine B e ?_;refine B (Bool.or_true _) ?_;rfl)) rfl) rfl
noncomputable def Px (k s:Nat) (per:List H):X:=⟨[("pen",.U (.per 0)),("many",.U (.int k)),("spot",.U (.int s))],per⟩
noncomputable def sh (k s:Nat) (c:Int) (per:List H):X:=⟨[("pen",.U (.per 0)),("many",.U (.int k)),("spot",.U (.int s)),("cell",.U (.int c))],per⟩
noncomputable abbrev tr (C CQ:cs) (b:Bool):bk:=aJ b C CQ 40 (bN (aI 50))
noncomputable def CG:List Stmt:=g0 (aI 50)
theorem J1 (hc:cells.length<=40):∃c,∀r,cO (tr C CQ b) (ce (aI 50) 3::ce (aI 50) 4::r) (Px k s (cx cells (s+1) d::rest))=cO (tr C CQ b) r (sh k s c (cx cells (s+1) d::rest)):=by
 have aq:(cells.map H.int).length<=a4:=by refine B (List.length_map _) ?_;unfold a4;exact Da hc
 cases cells with
 |nil=>exact⟨_,fun r=>aO (dc rfl rfl) (aO (co false rfl rfl) rfl)⟩
 |cons hX fL=>
  have bC:=iG aq
  replace bC:=(List.length_map _)▸bC
  have aE:((hX::fL).length:Int)>0:=by refine B List.length_cons ?_;exact Tf
  refine cl (qL (s:Int) aE) ?_;intro bH b7
  refine bS (Int.eq_ofNat_of_zero_le bH) ?_;intro j bF
  have qB:j<(hX::fL).length:=by exact M2 b7 bF
  have bi:((hX::fL).map H.int)[j]? =some (.int (hX::fL)[j]):=by(refine B List.getElem?_map ?_;refine B (List.getElem?_eq_getElem qB) ?_);rfl
  refine⟨(hX::fL)[j],fun r=>aO (fs₁:=sh k s (20947*s+3571+(([hX]:List Int).sum).fmod 1000003) (cx (hX::fL) (s+1) d::rest)) (dc (dB rfl (dB (fb rfl (fb rfl (oJ (l:=(hX::fL).map .int) rfl rfl rfl rfl aq) rfl (r':=.U (.int ([hX]:List Int).sum)) ?_) rfl rfl) rfl rfl rfl rfl) rfl rfl rfl) rfl) (aO (co true (cR rfl rfl rfl rfl rfl rfl) (aO (dc (f6 rfl rfl (dB (fb rfl rfl rfl rfl) (fb rfl rfl rfl bC) rfl rfl (ph aE)) rfl ?_) rfl) rfl)) rfl)⟩
  ·refine B (show iW ((hX::fL).map H.int) none (some 1)=[.int hX] from xp (j:=1) (by simp)) ?_;rfl
  ·refine B bF ?_;exact ze bi (by omega)
end
end Mine
end
section
open PySem
set_option exponentiation.threshold 2000
namespace Mine
section
variable{b:Bool} {C CQ:cs} {n:Nat} {J aW:Scope} {fs fs₁ fs₂ fs₃ g4 fs':X} {R:bk} {o:Option (bE×X)} {p:Pos} {m:Nat} {t u:Nat} {per:List H} {cells:List Int} {s k:Nat} {d:Int} {rest:List H}
theorem z9 {x y:Int} {z:Bool} (h:decide (y<=x)=z):eF .GtE (.int x) (.int y)=some z:=by
 show some (decide (y<=x))=_;(refine B h ?_;rfl)
theorem ofNat_lt {x:Int} {k:Nat} (h:0<=x/\x<(k:Int)):∃r:Nat,r<k/\x=r:=⟨x.toNat,by exact Ny h,by exact Ua h⟩
theorem NK {c:Int} (hc:cells.length<=40) (hs:s<900) (ag:0<k) (l0:k<900):∃(r:Nat) (hj:Int) (fs:X),r<k/\cO (tr C CQ b) (CG.drop 5) (sh k s c (cx cells (s+1) d::rest))=some (.ret (.U (.int r)),fs)/\fs.per=cx cells (s+1) hj::rest:=by
 have bC:=iG (l:=cells.map H.int) (by refine B (List.length_map _) ?_;unfold a4;exact Da hc)
 replace bC:=(List.length_map _)▸bC
 have ki:(0:Int)<k:=by exact Gi ag
 by_cases h:s<cells.length/\(10:Int)^18<=(if c<0 then-c else c)
 ·refine bb (ofNat_lt (qL (2*((if c<0 then-c else c)-(10:Int)^18)+(if decide (c<0) then 1 else 0)) ki)) ?_;intro r M O
  refine⟨r,(2*((if c<0 then-c else c)-(10:Int)^18)+(if decide (c<0) then 1 else 0)).fdiv k,⟨[("pen",.U (.per 0)),("many",.U (.int k)),("spot",.U (.int s)),("cell",.U (.int c)),("great",.U (.int (2*((if c<0 then-c else c)-(10:Int)^18)+(if decide (c<0) then 1 else 0))))],_⟩,M,?_,rfl⟩
  refine bu O ?_
  refine cu (co true (kB (cR rfl (fb rfl rfl rfl bC) rfl rfl (ov (decide_eq_true (by exact I2 h))) rfl) (cR rfl rfl rfl rfl (z9 (decide_eq_true h.2)) rfl)) ?_)
  refine aO (dc rfl rfl) ?_
  refine aO (gP (k:=.int 2) (r:=.U (.per 0)) (du (dB rfl rfl rfl rfl (z7 ki (by exact Dn l0))) rfl) rfl rfl rfl) ?_
  exact cu (dD (dB rfl rfl rfl rfl (ph ki)) rfl)
 ·have gA:(tr C CQ b).de (ce (aI 50) 5) (sh k s c (cx cells (s+1) d::rest))=some (.next,sh k s c (cx cells (s+1) d::rest)):=by
   by_cases M:s<cells.length
   ·have O:¬(10:Int)^18<=(if c<0 then-c else c):=fun e=>h ⟨M,e⟩
    exact co false (kB (cR rfl (fb rfl rfl rfl bC) rfl rfl (ov (decide_eq_true (by exact ug M))) rfl) (cR rfl rfl rfl rfl (z9 (decide_eq_false O)) rfl)) rfl
   ·exact co false (oK (cR rfl (fb rfl rfl rfl bC) rfl rfl (ov (decide_eq_false (by exact w5 M))) rfl)) rfl
  refine cl (qL c (y:=2147483587) (by exact Ku)) ?_;intro ey eC
  obtain⟨ao,eN⟩:∃ao,ao=((c.fmod 2147483587+20947*s+3571)^5).fmod 2147483629:=⟨_,rfl⟩
  refine cl (qL ((c.fmod 2147483587+20947*s+3571)^5) (y:=2147483629) (by exact Cj)) ?_;intro d1 eT
  rw [<-eN] at d1 eT
  have WN:ao*(2*s+7207)<=2147483629*10000:=Int.mul_le_mul (by exact R1 eT) (by exact K2 hs) (by exact AW) (by exact LB)
  have zO:0<=ao*(2*s+7207):=Int.mul_nonneg d1 (by exact AW)
  have wm:(20947*s:Int)*s<=20947000*1000:=Int.mul_le_mul (by exact We hs) (by exact WV hs) (by exact zP) (by exact MA)
  have t2:0<=(20947*s:Int)*s:=Int.mul_nonneg (by exact QO) (by exact zP)
  refine bb (ofNat_lt (qL (Int.fdiv (((ao*(2*s+7207)+20947*s*s+31)^3).fmod 2147483579) 32) ki)) ?_;intro r M O
  refine⟨r,d,⟨[("pen",.U (.per 0)),("many",.U (.int k)),("spot",.U (.int s)),("cell",.U (.int c)),("stirred",.U (.int (((ao*(2*s+7207)+20947*s*s+31)^3).fmod 2147483579)))],_⟩,M,?_,rfl⟩
  refine bu O ?_
  refine aO (r:=(CG.drop 5).drop 1) gA ?_
  refine aO (dc (v:=.int ao) (dB (fb rfl (dB (v:=.int (c.fmod 2147483587+20947*s+3571)) rfl rfl rfl rfl (Gy (y:=5) (by exact V1) (by exact OI) (by exact S6 hs ey eC))) rfl rfl) rfl rfl rfl (by refine B eN ?_;exact ph (by exact Cj))) rfl) ?_
  refine aO (dc (dB (fb rfl (dB (dB (dB (dB rfl rfl rfl rfl (Ea (y:=2*s+7207) (by exact Vw hs))) (dB rfl rfl rfl rfl (Ea (x:=20947*s) (y:=s) (by exact W0 hs))) rfl rfl rfl) rfl rfl rfl rfl) rfl rfl rfl (Gy (y:=3) (by exact VS) (by exact KO) (by exact PN WN zO wm t2))) rfl rfl) rfl rfl rfl (ph (by exact UA))) rfl) ?_
  exact cu (dD (dB (fb rfl rfl rfl rfl) rfl rfl rfl (ph ki)) rfl)
noncomputable def FR:Expr×Scope:=(eo (ce (aI 49) 0) [0,0],it (eo (ce (aI 49) 0) [0]))
theorem mI (b:Bool) (m:Nat) (d:Int) (rest:List H) (hc:cells.length<=40) (hs:s<900) (ag:0<k) (l0:k<900):∃(r az:Nat) (hj:Int),r<k/\az<=s+1/\aH b (m+1) "_law_draw" [.per 0,.int k] (cx cells s d::rest)=some (.ret (.U (.int r)),cx cells az hj::rest):=by
 have ki:(0:Int)<k:=by exact Gi ag
 by_cases hd:0<d
 ·refine bb (ofNat_lt (qL d ki)) ?_;intro r M O
  refine⟨r,s,d.fdiv k,M,by exact u6,c6 B2 ?_⟩
  refine dp (fs:=⟨[("pen",.U (.per 0)),("many",.U (.int k)),("digit",.U (.int r))],cx cells s (d.fdiv k)::rest⟩) rfl ?_ rfl
  ·refine cu (co true (cR rfl rfl rfl rfl (vl (decide_eq_true hd)) rfl) ?_)
   refine aO (dc (dB rfl rfl rfl rfl (ph ki)) rfl) ?_
   refine aO (gP (k:=.int 2) (r:=.U (.per 0)) (du (dB rfl rfl rfl rfl (z7 ki (by exact Dn l0))) rfl) rfl rfl rfl) ?_
   refine B O ?_
   exact cu (dD rfl rfl)
 ·refine bS (J1 (b:=b) (C:=aH b m) (CQ:=aH false m) (k:=k) (s:=s) (d:=d) (rest:=rest) hc) ?_;intro c tJ
  refine dH (NK (b:=b) (C:=aH b m) (CQ:=aH false m) (d:=d) (rest:=rest) (c:=c) hc hs ag l0) ?_;intro r hj fs M O Y
  refine⟨r,s+1,hj,M,Nat.le_refl _,c6 B2 ?_⟩
  apply dp rfl
  ·refine aO (co false (cR rfl rfl rfl rfl (vl (decide_eq_false hd)) rfl) rfl) ?_
   refine aO (dc rfl rfl) ?_
   refine aO (gP (k:=.int 1) (r:=.U (.per 0)) rfl rfl rfl rfl) ?_
   exact(tJ _).trans O
  ·exact Y
theorem QD {ns:List Int} (h:ns.length<100):aH b (m+1) "_law_pen" [.am (ns.map .int)] per=some (.ret (.own (cx (ns.take 40) 0 0)),per):=by
 have hs:iW (ns.map H.int) none (some 40)=(ns.take 40).map H.int:=by
  show((ns.map H.int).take (ji 40 (ns.map H.int).length)).drop 0=_
  (refine B List.drop_zero ?_;refine B List.map_take ?_)
  unfold ji
  refine B (if_neg (by decide)) ?_
  show(ns.map H.int).take (min 40 (ns.map H.int).length)=_
  (refine bu List.take_eq_take_min ?_;rfl)
 obtain⟨c2,e⟩:=uK (R:=aJ b (aH b m) (aH false m) 37 FR.2) (per:=per) (elt:=FR.1) (x:="cell") (L:=[]) (f:=fun v=>v) (items:=iW (ns.map H.int) none (some 40)) (fs:=⟨[],per⟩)
  (fun v ay=>by replace ay:=hs▸ay;obtain⟨i,_,rfl⟩:=List.mem_map.mp ay;rfl) (.inl rfl)
 replace e:=(List.map_id' _)▸e
 have aq:(ns.map H.int).length<=a4:=by refine B (List.length_map _) ?_;unfold a4;exact wS h
 unfold cx
 refine bu hs ?_
 refine c6 Nz ?_
 apply dp rfl
 ·exact cu (dD (wl (bM (h4 (gY rfl (du (oJ rfl rfl rfl rfl aq) rfl)) (by(refine B hs ?_;refine B (List.length_map _) ?_;refine B List.length_take ?_);unfold a4;exact Lb) rfl e) rfl (bM rfl rfl (bM rfl rfl rfl))) (Nat.le_of_ble_eq_true rfl)) rfl)
 ·rfl
end
end Mine
end
section
open PySem
namespace Mine
theorem Xr:ds "_law_page"=some (aI 52):=by kernel_rfl
section
variable{b:Bool} {C CQ:cs} {n:Nat} {J aW:Scope} {fs fs₁ fs₂ fs₃ g4 fs':X} {R:bk} {o:Option (bE×X)} {p:Pos} {m:Nat} {t u:Nat} {per:List H} {cells:List Int} {s k:Nat} {d:Int} {rest:List H}
theorem Bj (b:Bool) (m:Nat) (d:Int) (rest:List H) (a:Int) (hc:cells.length<=40) (hs:s<800):∃(q:db) (az:Nat) (hj:Int),q.n=a/\az<=s+2/\aH b (m+2) "_law_page" [.per 0,.int a] (cx cells s d::rest)=some (.ret (.own (.V q.d)),cx cells az hj::rest):=by
 refine dH (mI (cells:=cells) (s:=s) (k:=9) b m d rest hc (by exact Xj hs) (by exact Sl) (by exact R3)) ?_;intro eM d3 d1 bH b7 c7
 refine dH (mI (cells:=cells) (s:=d3) (k:=3) b m d1 rest hc (by exact Lk hs b7) (by exact zZ) (by exact xt)) ?_;intro ka dR eT M O Y
 refine⟨⟨a,1+eM,decide (ka=0)⟩,dR,eT,rfl,by exact Ry b7 O,c6 Xr ?_⟩
 have lu:(aJ b (aH b (m+1)) (aH false (m+1)) 40 (bN (aI 52))).de (ce (aI 52) 0) ⟨[("pen",.U (.per 0)),("at",.U (.int a))],cx cells s d::rest⟩=some (.next,⟨[("pen",.U (.per 0)),("at",.U (.int a)),("head",.aD (.V [(.str "N",.int a),(.str "MediaBox",.am [.int 0,.int 0,.int (1+eM),.int 9])]))],cx cells d3 d1::rest⟩):=
  fB (qv (v:=.int a) (w:=.am [.int 0,.int 0,.int (1+eM),.int 9]) rfl (du (wl (bM rfl rfl (bM rfl rfl (bM (dB rfl (dt rfl rfl c7) rfl rfl rfl) rfl (bM rfl rfl rfl)))) (Nat.le_of_ble_eq_true rfl)) rfl) (by decide+kernel)) rfl
 by_cases aL:ka=0
 ·subst aL
  apply dp rfl
  ·refine aO lu (aO (co true (cR (dt rfl rfl Y) rfl rfl rfl rfl rfl) (aO (gP (v:=.int 90) (k:=.str "Rotate") (r:=.var "head") rfl rfl rfl (jh rfl rfl (Nat.le_of_ble_eq_true rfl))) rfl)) ?_)
   exact cu (dD rfl rfl)
  ·rfl
 ·refine B (decide_eq_false aL) ?_
  apply dp rfl
  ·refine aO lu (aO (co false (cR (dt rfl rfl Y) rfl rfl rfl (x:=false) (by show some (((ka:Nat):Int)==0)=_;simp;exact WM aL) rfl) rfl) ?_)
   exact cu (dD rfl rfl)
  ·rfl
noncomputable def CV:Expr×Scope:=(eo (ce (aI 55) 2) [0],it (eo (ce (aI 55) 2) []))
theorem K4 (hc:cells.length<=40) {items:List Int}:∀{s:Nat} {d:Int} {fs:X},s+2*items.length<800->(fs=⟨[("pen",.U (.per 0))],cx cells s d::rest⟩\/∃w,fs=⟨[("pen",.U (.per 0)),("at",w)],cx cells s d::rest⟩)->
  ∃(ps:List db) (az:Nat) (hj:Int) (c2:List (Str×cf)),ps.length=items.length/\az<=s+2*items.length/\gd (aJ b (aH b (m+2)) CQ 38 CV.2) "at" [] CV.1 (items.map .int) fs=some (ps.map fun p:db=>H.V p.d,⟨c2,cx cells az hj::rest⟩):=by
 induction items with
 |nil=>
  intro s d fs _ aB
  rcases aB with rfl|⟨w,rfl⟩<;>exact⟨[],s,d,_,rfl,Nat.le_refl _,rfl⟩
 |cons a items ih=>
  intro s d fs hs aB
  replace hs:=List.length_cons▸hs
  refine dH (Bj (cells:=cells) (s:=s) b m d rest a hc (by exact V8 hs)) ?_;intro q d3 d1 bH b7 c7
  refine rO (ih (s:=d3) (d:=d1) (fs:=⟨[("pen",.U (.per 0)),("at",.U (.int a))],cx cells d3 d1::rest⟩) (by exact Ju hs b7) (.inr ⟨_,rfl⟩)) ?_;intro ps az hj c2 M O Y
  have e:({fs with loc:=bY "at" (.U (.int a)) fs.loc}:X)=⟨[("pen",.U (.per 0)),("at",.U (.int a))],cx cells s d::rest⟩:=by
   rcases aB with rfl|⟨w,rfl⟩<;>rfl
  exact⟨q::ps,az,hj,c2,congrArg (· +1) M,by refine B List.length_cons ?_;exact Rq b7 O,wr ((congrArg (dY _ _) e).trans (du (dt rfl rfl c7) rfl)) Y⟩
end
end Mine
end
section
open PySem
namespace Mine
section
variable{b:Bool} {C CQ:cs} {n:Nat} {J aW:Scope} {fs fs₁ fs₂ fs₃ g4 fs':X} {R:bk} {o:Option (bE×X)} {p:Pos} {m:Nat} {t u:Nat} {per:List H} {cells:List Int} {s k:Nat} {d:Int} {rest:List H} {tab bL:cD} {N:Nat} {a6:Int} {x:af}
theorem EX {l:List H} (h:∀x∈l,gN 31 x=true):eF .NotEq (.am l) (.am l)=some false:=by
 have:eO eK (.am l) (.am l)=some true:=by
  show(if l.length=l.length then ll (eO 31) l l else some false)=_
  (refine B (if_pos rfl) ?_;refine B (GP l fun x ae=>zB 31 (h x ae)) ?_;rfl)
 show(eO eK (.am l) (.am l)).map (!·)=_
 refine B this ?_;rfl
theorem Qh {i:Int}:eF .NotEq (hI i) (hI i)=some false:=by
 show(eO eK (hI i) (hI i)).map (!·)=_
 refine B zV ?_;simp
noncomputable def dh (ps:List db):List H:=ps.map fun p:db=>H.V p.d
noncomputable def eu (sv:H) (w:Nat) (plain:cf) (ext:List (Str×cf)) (per:List H):X:=⟨("script",.U sv)::("pen",.U (.per 0))::("shelf",.U (bB 1 2))::("other",.U (bB 3 4))::("width",.U (.int w))::("plain",plain)::ext,per⟩
noncomputable def ij (fJ head a PA ref:H):List (Str×cf):=[("lap",.U fJ),("head",.U head),("at",.U a),("kept",.U PA),("reference",.U ref)]
noncomputable def gV:List Stmt:=d5 (ce (aI 55) 4)
noncomputable abbrev lm (CQ:cs) (m:Nat):bk:=aJ true (aH true (m+10)) CQ 39 (bN (aI 55))
noncomputable def vk:Expr×Scope×Expr×Scope:=(eo (iJ gV 6) [0,0],it (eo (iJ gV 6) [0]),eo (iJ gV 6) [1,0],it (eo (iJ gV 6) [1]))
theorem JD {sv:H} {w:Nat} {ps:List db} {ext:List (Str×cf)} {pn:H} (h:eb tab [(.str "Root",au a6)] N a6 x) (hs:cA (x.ai [])) (gn:(ci (x.ai [])).map Prod.snd=ps) (aX:∃a b c d e,ext=ij a b c d e):
  (lm CQ m).de ((gV[6]?).getD default) (eu sv w (.aD (.am (dh ps))) ext (c3 pn tab a6 rest))=some (.next,eu sv w (.U (.am (dh ps))) ext (c3 pn tab a6 rest)):=by
 refine rS aX ?_;clear aX;intro bW cC cY dX rz u;subst u
 have bC:ps.length<300:=by
  have M:=h.len
  have O:=h.fu
  have Y:(ci (x.ai [])).length<=(x.ai []).length:=List.length_filterMap_le _ _
  (refine bu gn ?_;refine B (List.length_map _) ?_);exact OL M O Y
 have gi:(dh ps).length=ps.length:=List.length_map _
 have aq:=iG (l:=dh ps) (by refine B gi ?_;unfold a4;exact xf bC)
 replace aq:=gi▸aq
 obtain⟨c2,ak⟩:=vq (R:=aJ true (aH true (m+10)) CQ 36 vk.2.1) (per:=c3 pn tab a6 rest) (elt:=vk.1) (x:="spot") (L:=[("shelf",.U (bB 1 2))]) (l:=ps.zipIdx.map fun e=>(.int e.2,.int e.1.n)) (fs:=⟨[("shelf",.U (bB 1 2))],c3 pn tab a6 rest⟩)
  (fun e aX=>by
   obtain⟨⟨p,i⟩,hB,rfl⟩:=List.mem_map.mp aX
   have aR:=List.mem_zipIdx_iff_getElem?.mp hB
   dsimp only at aR
   (replace aR:=(Eq.symm gn)▸aR;replace aR:=List.getElem?_map▸aR)
   cases aA:(ci (x.ai []))[i]? with
   |none=>replace aR:=aA▸aR;cases aR
   |some Wu=>
    obtain⟨k,q⟩:=Wu
    replace aR:=aA▸aR
    cases aR
    refine bS (Dw (b:=true) (m:=m+4) (t:=1) (u:=2) (per:=c3 pn tab a6 rest) h hs rfl rfl aA) ?_;intro par xu
    exact du (r:=.U (.int q.n)) (f6 rfl (k:=.str "N") (v:=.V (dU par none (.inl q))) (xH (dt rfl rfl xu) rfl rfl rfl) rfl rfl rfl) rfl) (.inl rfl)
 have gp:(ps.zipIdx.map fun e=>((H.int e.2,H.int e.1.n):H×H)).map Prod.fst=(List.range ps.length).map fun(i:Nat)=>H.int i:=by
  (refine B List.map_map ?_;refine B List.range_eq_range' ?_;refine bu (List.zipIdx_map_snd 0 ps) ?_;refine B List.map_map ?_);rfl
 have gE:(ps.zipIdx.map fun e=>((H.int e.2,H.int e.1.n):H×H)).map Prod.snd=ps.map fun p=>H.int p.n:=by
  have:=List.zipIdx_map_fst 0 ps
  refine B List.map_map ?_
  refine Eq.trans ?_ (congrArg (List.map fun p:db=>H.int p.n) this)
  refine B List.map_map ?_;rfl
 (replace ak:=gp▸ak;replace ak:=gE▸ak)
 obtain⟨Yv,ar⟩:=vq (R:=aJ true (aH true (m+10)) CQ 36 vk.2.2.2) (per:=c3 pn tab a6 rest) (elt:=vk.2.2.1) (x:="one") (L:=[]) (l:=ps.map fun p=>(.V p.d,.int p.n)) (fs:=⟨[],c3 pn tab a6 rest⟩)
  (fun e aX=>by
   refine bb (List.mem_map.mp aX) ?_;intro p hB u;subst u
   exact du (r:=.U (.int p.n)) (f6 rfl (k:=.str "N") (v:=.V p.d) rfl rfl rfl rfl) rfl) (.inl rfl)
 (replace ar:=List.map_map▸ar;replace ar:=List.map_map▸ar)
 refine co false (cR (h4 (t8 rfl (du (fb rfl rfl rfl aq) rfl) (by exact Pa bC)) (by(refine B (List.length_map _) ?_;refine B List.length_range ?_);unfold a4;exact xf bC) rfl ak) (h4 (gY rfl (du (r:=.var "plain") (fs₂:=eu sv w (.U (.am (dh ps))) (ij bW cC cY dX rz) (c3 pn tab a6 rest)) rfl rfl)) (by refine B gi ?_;unfold a4;exact xf bC) rfl ar) rfl rfl (EX fun v ay=> ?_) rfl) rfl
 refine bb (List.mem_map.mp ay) ?_;intro p _ u;subst u
 rfl
end
end Mine
end
section
open PySem
namespace Mine
section
variable{b:Bool} {C CQ:cs} {n:Nat} {J aW:Scope} {fs fs₁ fs₂ fs₃ g4 fs':X} {R:bk} {o:Option (bE×X)} {p:Pos} {m:Nat} {t u:Nat} {per:List H} {cells:List Int} {s k:Nat} {d:Int} {rest:List H} {tab bL:cD} {N:Nat} {a6:Int} {x:af}
noncomputable def GK (fJ:H):List (Str×cf):=[("lap",.U fJ)]
theorem Iz {sv:H} {w:Nat} {ps:List db} {ext:List (Str×cf)} {fJ:Int} (h:eb tab [(.str "Root",au a6)] N a6 x) (hc:kc N a6 x) (hs:cA (x.ai [])) (gn:(ci (x.ai [])).map Prod.snd=ps) (dm:N<250) (ff:cells.length<=40) (qc:s<700) (gi:ps.length<100)
  (aX:ext=GK (.int fJ)\/∃b c d e,ext=ij (.int fJ) b c d e):
  ∃c5 df fF az hj a b c e,cO (lm CQ m) gV (eu sv w (.U (.am (dh ps))) ext (c3 (cx cells s d) tab a6 rest))=some (.next,eu sv w (.U (.am (dh fF))) (ij (.int fJ) a b c e) (c3 (cx cells az hj) c5 a6 rest))/\
   eb c5 [(.str "Root",au a6)] (N+1) a6 df/\kc (N+1) a6 df/\cA (df.ai [])/\(ci (df.ai [])).map Prod.snd=fF/\fF.length=ps.length+1/\az<=s+3:=by
 refine dH (Bj (cells:=cells) (s:=s) true (m+8) d (.V tab::.V [(.str "Root",au a6)]::rest) (10+fJ) ff (by exact Ro qc)) ?_;intro q d3 d1 bH b7 c7
 refine dH (mI (cells:=cells) (s:=d3) (k:=ps.length+1) true (m+9) d1 (.V tab::.V [(.str "Root",au a6)]::rest) ff (by exact Q8 qc b7) (by exact WA) (by exact N7 gi)) ?_;intro a dR eT d9 fO hG
 have uF:(ci (x.ai [])).length=ps.length:=by(refine bu gn ?_;refine B (List.length_map _) ?_;rfl)
 refine qb (KW h hc hs dm (a:=a) (by exact wH d9 uF) q) ?_;intro c5 df Hi o2 wq rf E7
 have ta:=Hi (b:=true) (m:=m) (t:=1) (u:=2) (per:=c3 (cx cells dR eT) tab a6 rest) (by decide) rfl rfl
 have zu:(ci (df.ai [])).map Prod.snd=ps.take a++q::ps.drop a:=by(refine B E7 ?_;refine B List.map_append ?_;refine B List.map_take ?_;refine B List.map_cons ?_;refine B List.map_drop ?_;refine B gn ?_;rfl)
 have uR:(ps.take a++q::ps.drop a).length=ps.length+1:=by(refine B List.length_append ?_;refine B List.length_take ?_;refine B List.length_cons ?_;refine B List.length_drop ?_);exact S4
 have XM:(ci (df.ai [])).length=ps.length+1:=by(refine bu uR ?_;refine bu zu ?_;refine B (List.length_map _) ?_;rfl)
 have an:(dh ps).length=ps.length:=List.length_map _
 have aq:=iG (l:=dh ps) (by refine B an ?_;unfold a4;exact wS gi)
 replace aq:=an▸aq
 have Bp:(dh ps).length<=a4:=by refine B an ?_;unfold a4;exact wS gi
 have ak:=xp (l:=dh ps) (j:=a) (by exact wH d9 an)
 have ar:=Be (l:=dh ps) (j:=a) (by exact wH d9 an)
 have bQ:((dh ps).take a++[.V q.d])++(dh ps).drop a=dh (ps.take a++q::ps.drop a):=by unfold dh;simp
 have ot:=iG (l:=dh (ps.take a++q::ps.drop a)) (by unfold dh;(refine B (List.length_map _) ?_;refine B uR ?_);unfold a4;exact HZ gi)
 have qN:(dh (ps.take a++q::ps.drop a)).length=ps.length+1:=(List.length_map _).trans uR
 replace ot:=qN▸ot
 have fy:(ci (df.ai []))[a]? =some ((N:Int)+1,q):=by
  have aG:((ci (x.ai [])).take a).length=a:=by refine B List.length_take ?_;exact Hz d9 uF
  (refine B E7 ?_;refine B (List.getElem?_append_right (by exact Tz aG)) ?_;refine B aG ?_;refine B (Nat.sub_self _) ?_);rfl
 refine bS (Dw (b:=true) (m:=m+4) (t:=1) (u:=2) (per:=c3 (cx cells dR eT) c5 a6 rest) o2 rf rfl rfl fy) ?_;intro par xu
 have QA:=VJ (b:=true) (m:=m+4) (t:=1) (u:=2) (per:=c3 (cx cells dR eT) c5 a6 rest) o2 rf rfl rfl
 have rm:=FX (b:=true) (m:=m+5) (t:=1) (u:=2) (per:=c3 (cx cells dR eT) c5 a6 rest) o2 rf rfl rfl
 replace rm:=XM▸rm
 have Gj:∀{per},aH true (m+10) "told_objects" [.V q.d] per=some (.ret (.U (gr q [] none)),per):=r5.trans (TH (m:=m+5))
 have ag:((ps.length+1:Nat):Int)=(ps.length:Int)+1:=Int.natCast_succ _
 replace hG:=ag▸hG
 refine⟨c5,df,_,dR,eT,.V q.d,.int a,gr q [] none,au ((N:Int)+1),?_,o2,wq,rf,zu,uR,by exact H1 b7 fO⟩
 have lu:(lm CQ m).de ((gV[0]?).getD default) (eu sv w (.U (.am (dh ps))) ext (c3 (cx cells s d) tab a6 rest))=some (.next,eu sv w (.U (.am (dh ps))) (match ext with|[l]=>[l,("head",.U (.V q.d)),("at",.U (.int a))]|l::_::_::r=>l::("head",.U (.V q.d))::("at",.U (.int a))::r|l=>l) (c3 (cx cells dR eT) tab a6 rest)):=by
  rcases aX with rfl|⟨aM,a1,b0,ex,rfl⟩<;>
  exact lq (vs:=[.V q.d,.int a]) rfl (ky (bM (dt rfl rfl c7) rfl (bM (dt rfl (bM rfl rfl (bM (dB (fb rfl rfl rfl aq) rfl rfl rfl rfl) rfl rfl)) hG) rfl rfl)) (Nat.le_of_ble_eq_true rfl)) (Nat.le_of_ble_eq_true rfl) rfl
 have UB:∀fs,(fs=eu sv w (.U (.am (dh ps))) [("lap",.U (.int fJ)),("head",.U (.V q.d)),("at",.U (.int a))] (c3 (cx cells dR eT) tab a6 rest)\/∃y z,fs=eu sv w (.U (.am (dh ps))) (ij (.int fJ) (.V q.d) (.int a) y z) (c3 (cx cells dR eT) tab a6 rest))->
   cO (lm CQ m) (gV.drop 1) fs=cO (lm CQ m) (gV.drop 3) (eu sv w (.U (.am (dh ps))) (ij (.int fJ) (.V q.d) (.int a) (gr q [] none) (au ((N:Int)+1))) (c3 (cx cells dR eT) c5 a6 rest)):=fun fs aB=>by
  rcases aB with rfl|⟨y,z,rfl⟩<;>
  exact aO (dc (dt rfl rfl Gj) rfl) (aO (dc (dt rfl rfl ta) rfl) rfl)
 have fP:(lm CQ m).de ((gV[3]?).getD default) (eu sv w (.U (.am (dh ps))) (ij (.int fJ) (.V q.d) (.int a) (gr q [] none) (au ((N:Int)+1))) (c3 (cx cells dR eT) c5 a6 rest))=
   some (.next,eu sv w (.aD (.am (dh (ps.take a++q::ps.drop a)))) (ij (.int fJ) (.V q.d) (.int a) (gr q [] none) (au ((N:Int)+1))) (c3 (cx cells dR eT) c5 a6 rest)):=by
  (refine bu bQ ?_;refine bu ak ?_;refine bu ar ?_)
  refine fB (dB (dB (oJ rfl rfl rfl rfl Bp) rfl rfl rfl (vd ?_)) (oJ rfl rfl rfl rfl Bp) rfl rfl (vd ?_)) rfl
  ·(refine B ak ?_;refine B List.length_take ?_);unfold a4;simp only [List.length_cons,List.length_nil];exact Mo gi an
  ·(refine B ak ?_;refine B ar ?_;refine B List.length_append ?_;refine B List.length_take ?_;refine B List.length_drop ?_);unfold a4;simp only [List.length_cons,List.length_nil];exact Mc gi an
 have i2:(lm CQ m).de ((gV[4]?).getD default) (eu sv w (.aD (.am (dh (ps.take a++q::ps.drop a)))) (ij (.int fJ) (.V q.d) (.int a) (gr q [] none) (au ((N:Int)+1))) (c3 (cx cells dR eT) c5 a6 rest))=
   some (.next,eu sv w (.aD (.am (dh (ps.take a++q::ps.drop a)))) (ij (.int fJ) (.V q.d) (.int a) (gr q [] none) (au ((N:Int)+1))) (c3 (cx cells dR eT) c5 a6 rest)):=
  co false (rQ (cR (dt rfl rfl Gj) rfl rfl rfl (SX (zS (s:="") (k:=24)).2) rfl) (cR (dZ (l:=[("number",.int ((N:Int)+1)),("generation",.int 0)]) rfl (xH (dt rfl rfl xu) rfl rfl rfl) rfl rfl rfl (m8 (m:=m+9))) (dZ rfl rfl rfl rfl rfl (m8 (m:=m+9))) rfl rfl Qh rfl)) rfl
 have gA:(lm CQ m).de ((gV[5]?).getD default) (eu sv w (.aD (.am (dh (ps.take a++q::ps.drop a)))) (ij (.int fJ) (.V q.d) (.int a) (gr q [] none) (au ((N:Int)+1))) (c3 (cx cells dR eT) c5 a6 rest))=
   some (.next,eu sv w (.aD (.am (dh (ps.take a++q::ps.drop a)))) (ij (.int fJ) (.V q.d) (.int a) (gr q [] none) (au ((N:Int)+1))) (c3 (cx cells dR eT) c5 a6 rest)):=
  co false (rQ (cR (dt rfl rfl QA) rfl rfl rfl rfl rfl) (cR (dt rfl rfl rm) (fb rfl rfl rfl ot) rfl rfl Ei rfl)) rfl
 have s4:=JD (CQ:=CQ) (m:=m) (sv:=sv) (w:=w) (rest:=rest) (pn:=cx cells dR eT) o2 rf zu (ext:=ij (.int fJ) (.V q.d) (.int a) (gr q [] none) (au ((N:Int)+1))) ⟨_,_,_,_,_,rfl⟩
 refine aO (r:=gV.drop 1) lu ?_
 refine(UB _ ?_).trans (aO (r:=gV.drop 4) fP (aO (r:=gV.drop 5) i2 (aO (r:=gV.drop 6) gA (aO (r:=[]) s4 rfl))))
 rcases aX with rfl|⟨aM,a1,b0,ex,rfl⟩
 ·exact .inl rfl
 ·exact .inr ⟨_,_,rfl⟩
end
end Mine
end
section
open PySem
namespace Mine
theorem Sv:ds "law"=some (aI 55):=by kernel_rfl
section
variable{b:Bool} {C CQ:cs} {n:Nat} {m:Nat} {per:List H} {cells:List Int} {s k:Nat} {d:Int} {rest:List H} {tab bL:cD} {N:Nat} {a6:Int} {x:af}
theorem Fk {sv:H} {w:Nat} (ff:cells.length<=40):∀{items:List Int} {ps:List db} {ext:List (Str×cf)} {tab:cD} {N:Nat} {x:af} {s:Nat} {d:Int},eb tab [(.str "Root",au a6)] N a6 x->kc N a6 x->cA (x.ai [])->(ci (x.ai [])).map Prod.snd=ps->N+items.length<200->s+3*items.length<600->ps.length+items.length<90->
  (ext=[]\/∃a b c d e,ext=ij a b c d e)->
  ∃c5 df fF az hj nY,f5 (lm CQ m) (bN (aI 55)) "lap" gV (items.map .int) (eu sv w (.U (.am (dh ps))) ext (c3 (cx cells s d) tab a6 rest))=some (.next,eu sv w (.U (.am (dh fF))) nY (c3 (cx cells az hj) c5 a6 rest))/\
   eb c5 [(.str "Root",au a6)] (N+items.length) a6 df/\kc (N+items.length) a6 df/\cA (df.ai [])/\(ci (df.ai [])).map Prod.snd=fF/\fF.length=ps.length+items.length/\az<=s+3*items.length
 |[],ps,ext,tab,N,x,s,d,h,hc,hs,gn,_,_,_,_=>⟨tab,x,ps,s,d,ext,rfl,h,hc,hs,gn,rfl,Nat.le_refl _⟩
 |fJ::items,ps,ext,tab,N,x,s,d,h,hc,hs,gn,M,O,Y,aX=>by
  simp only [List.length_cons] at M O Y
  have ao:∃nY,eQ (bN (aI 55)) "lap" (.U (.int fJ)) (eu sv w (.U (.am (dh ps))) ext (c3 (cx cells s d) tab a6 rest))=some (eu sv w (.U (.am (dh ps))) nY (c3 (cx cells s d) tab a6 rest))/\(nY=GK (.int fJ)\/∃b c d e,nY=ij (.int fJ) b c d e):=by
   rcases aX with rfl|⟨rY,rD,Bz,wE,YK,rfl⟩
   ·exact⟨_,rfl,.inl rfl⟩
   ·exact⟨_,rfl,.inr ⟨_,_,_,_,rfl⟩⟩
  refine bb ao ?_;clear ao;intro ext1 ak ar
  obtain⟨Zk,aM,Zo,d3,d1,rY,rD,Bz,wE,sk,bH,b7,c7,fm,hK,ms⟩:=Iz (CQ:=CQ) (m:=m) (s:=s) (d:=d) (rest:=rest) (sv:=sv) (w:=w) h hc hs gn (by exact US M) ff (by exact JW O) (by exact JY Y) ar
  obtain⟨c5,df,fF,az,hj,nY,LK,d9,fO,hG,kC,pm,q1⟩:=Fk ff (items:=items) (s:=d3) (d:=d1) bH b7 c7 fm (by exact RZ M) (by exact IH O ms) (by exact Uw Y hK) (.inr ⟨_,_,_,_,_,rfl⟩)
  have e:N+1+items.length=N+(fJ::items).length:=by refine B List.length_cons ?_;exact te
  rw [e] at d9 fO
  exact⟨c5,df,fF,az,hj,nY,fM ak sk LK,d9,fO,hG,kC,by(refine B pm ?_;refine B hK ?_;refine B List.length_cons ?_);exact te,by refine B List.length_cons ?_;exact KP ms q1⟩
theorem BF {k:Nat}:(List.range k).map (fun(i:Nat)=>H.int i)=((List.range k).map fun(i:Nat)=>(i:Int)).map .int:=by refine B List.map_map ?_;rfl
theorem Te (ns:List Int) (eA:ns.length<=63):∃per,aH true (m+11) "law" [.am (ns.map .int)] []=some (.ret (.U (.bool true)),per):=by
 have ff:(ns.take 40).length<=40:=by refine B List.length_take ?_;exact Nn
 refine dH (mI (cells:=ns.take 40) (s:=0) (k:=3) true (m+9) 0 [.V [],.V [],.V [],.V []] ff (by exact U4) (by exact zZ) (by exact xt)) ?_;intro eM d3 d1 bW cC cY
 refine dH (mI (cells:=ns.take 40) (s:=d3) (k:=5) true (m+9) d1 [.V [],.V [],.V [],.V []] ff (by exact N9 cC) (by exact N2) (by exact Yk)) ?_;intro ka dR eT cT dE mf
 have pG:((List.range ka).map fun(i:Nat)=>(i:Int)).length=ka:=by(refine B (List.length_map _) ?_;refine B List.length_range ?_;rfl)
 refine rO (K4 (b:=true) (CQ:=aH false (m+10)) (m:=m+8) (rest:=[.V [],.V [],.V [],.V []]) ff (items:=(List.range ka).map fun(i:Nat)=>(i:Int)) (s:=dR) (d:=eT) (by refine B pG ?_;exact Uc cC cT dE) (.inl rfl)) ?_;intro ps fP iK c2 ey eC h7
 rw [pG] at ey eC
 replace h7:=(Eq.symm BF)▸h7
 have ec:((2+eM:Nat):Int)=2+(eM:Int):=Int.natCast_add _ _
 obtain⟨tab,a6,N,x,i3,ak,ar,bQ,cX,dn,fg⟩:=Eb (b:=true) (m:=m+2) (t:=1) (u:=2) (per:=[cx (ns.take 40) fP iK,.V [],.V [],.V [],.V []]) (ps:=ps) (w:=2+eM) (by exact Gg bW) (by exact VP cT ey) (by decide) rfl rfl
 refine dH (mI (cells:=ns.take 40) (s:=fP) (k:=7) true (m+9) iK [.V tab,.V [(.str "Root",au a6)],.V [],.V []] ff (by exact QZ cC cT dE eC) (by exact Pz) (by exact PM)) ?_;intro tR i2 o8 d9 fO hG
 have uQ:((List.range tR).map fun(i:Nat)=>(i:Int)).length=tR:=by(refine B (List.length_map _) ?_;refine B List.length_range ?_;rfl)
 obtain⟨c5,df,fF,gA,g8,ext,sk,bH,b7,c7,fm,hK,ms⟩:=Fk (CQ:=aH false (m+10)) (m:=m) (sv:=.am (ns.map .int)) (w:=2+eM) (rest:=[.V [],.V []]) ff (items:=(List.range tR).map fun(i:Nat)=>(i:Int)) (s:=i2) (d:=o8) ar bQ cX dn (by refine B uQ ?_;exact SN cT ey fg d9) (by refine B uQ ?_;exact Tt cC cT dE eC d9 fO) (by refine B uQ ?_;exact VF cT ey d9) (.inl rfl)
 rw [uQ] at bH b7 hK ms
 replace sk:=(Eq.symm BF)▸sk
 obtain⟨lg,kv,Y6,a1,Zp,M,O,Y,aC,bR,dK⟩:=Eb (b:=true) (m:=m+2) (t:=3) (u:=4) (per:=c3 (cx (ns.take 40) gA g8) c5 a6 [.V [],.V []]) (ps:=fF) (w:=2+eM) (by exact Gg bW) (by exact LM cT ey d9 hK) (by decide) rfl rfl
 have yQ:=DI (b:=true) (m:=m+2) (t:=1) (u:=2) (per:=c3 (cx (ns.take 40) gA g8) c5 a6 [.V lg,.V [(.str "Root",au kv)]]) bH rfl rfl
 have wh:=DI (b:=true) (m:=m+2) (t:=3) (u:=4) (per:=c3 (cx (ns.take 40) gA g8) c5 a6 [.V lg,.V [(.str "Root",au kv)]]) O rfl rfl
 replace yQ:=fm▸yQ
 replace wh:=bR▸wh
 refine dH (mI (cells:=ns.take 40) (s:=gA) (k:=3) true (m+9) g8 [.V c5,.V [(.str "Root",au a6)],.V lg,.V [(.str "Root",au kv)]] ff (by exact Yc cC cT dE eC d9 fO ms) (by exact zZ) (by exact xt)) ?_;intro vD s4 k4 Hi o2 wq
 refine dH (mI (cells:=ns.take 40) (s:=s4) (k:=2) true (m+9) k4 [.V c5,.V [(.str "Root",au a6)],.V lg,.V [(.str "Root",au kv)]] ff (by exact Uo cC cT dE eC d9 fO ms o2) (by exact Lj) (by exact Tl)) ?_;intro E0 EC nJ Gb Yz Xw
 have uF:(ci (df.ai [])).length=fF.length:=by(refine bu fm ?_;refine B (List.length_map _) ?_;rfl)
 have JZ:=EM (m:=m+2) (pn:=cx (ns.take 40) s4 k4) (rest:=[.V lg,.V [(.str "Root",au kv)]]) bH b7 c7 (by exact An cT ey fg d9) (a:= -1-vD) (.inl (by exact VY))
 have Qr:=EM (m:=m+2) (pn:=cx (ns.take 40) EC nJ) (rest:=[.V lg,.V [(.str "Root",au kv)]]) bH b7 c7 (by exact An cT ey fg d9) (a:=fF.length+1+E0) (.inr (by exact O6 uF))
 have gi:=iG (l:=dh fF) (by unfold dh;refine B (List.length_map _) ?_;unfold a4;exact Ii cT ey d9 hK)
 replace gi:=(show(dh fF).length=fF.length from List.length_map _)▸gi
 have Tj:=QD (b:=true) (m:=m+9) (per:=[]) (ns:=ns) (by exact OR eA)
 refine⟨c3 (cx (ns.take 40) EC nJ) c5 a6 [.V lg,.V [(.str "Root",au kv)]],c6 Sv ?_⟩
 have nU:(aJ true (aH true (m+10)) (aH false (m+10)) 40 (bN (aI 55))).de (ce (aI 55) 1) ⟨[("script",.U (.am (ns.map .int))),("pen",.U (.per 0))],[cx (ns.take 40) 0 0]⟩=
   some (.next,⟨[("script",.U (.am (ns.map .int))),("pen",.U (.per 0)),("shelf",.U (bB 1 2)),("other",.U (bB 3 4)),("width",.U (.int (2+eM:Nat)))],[cx (ns.take 40) d3 d1,.V [],.V [],.V [],.V []]⟩):=by
  refine B ec ?_
  exact lq (vs:=[bB 1 2,bB 3 4,.int (2+eM)]) rfl (ky (bM rfl rfl (bM rfl rfl (bM (dB rfl (dt rfl rfl cY) rfl rfl rfl) rfl rfl))) (Nat.le_of_ble_eq_true rfl)) (Nat.le_of_ble_eq_true rfl) rfl
 have oC:(aJ true (aH true (m+10)) (aH false (m+10)) 40 (bN (aI 55))).de (ce (aI 55) 2) ⟨[("script",.U (.am (ns.map .int))),("pen",.U (.per 0)),("shelf",.U (bB 1 2)),("other",.U (bB 3 4)),("width",.U (.int (2+eM:Nat)))],[cx (ns.take 40) d3 d1,.V [],.V [],.V [],.V []]⟩=
   some (.next,eu (.am (ns.map .int)) (2+eM) (.aD (.am (dh ps))) [] [cx (ns.take 40) fP iK,.V [],.V [],.V [],.V []]):=
  fB (h4 (t8 rfl (du (dt rfl rfl mf) rfl) (by exact Nx cT)) (by(refine B (List.length_map _) ?_;refine B List.length_range ?_);unfold a4;exact Kg cT) rfl h7) rfl
 have o0:(aJ true (aH true (m+10)) (aH false (m+10)) 40 (bN (aI 55))).de (ce (aI 55) 3) (eu (.am (ns.map .int)) (2+eM) (.aD (.am (dh ps))) [] [cx (ns.take 40) fP iK,.V [],.V [],.V [],.V []])=
   some (.next,eu (.am (ns.map .int)) (2+eM) (.U (.am (dh ps))) [] (c3 (cx (ns.take 40) fP iK) tab a6 [.V [],.V []])):=
  by apply mF (fs₁:=eu (.am (ns.map .int)) (2+eM) (.U (.am (dh ps))) [] [cx (ns.take 40) fP iK,.V [],.V [],.V [],.V []]) (hc:=ak)<;>first|rfl|decide+kernel
 have tK:(aJ true (aH true (m+10)) (aH false (m+10)) 40 (bN (aI 55))).de (ce (aI 55) 4) (eu (.am (ns.map .int)) (2+eM) (.U (.am (dh ps))) [] (c3 (cx (ns.take 40) fP iK) tab a6 [.V [],.V []]))=
   some (.next,eu (.am (ns.map .int)) (2+eM) (.U (.am (dh fF))) ext (c3 (cx (ns.take 40) gA g8) c5 a6 [.V [],.V []])):=
  g6 (t8 rfl (du (dt rfl rfl hG) rfl) (by exact VR d9)) sk
 have Hq:(aJ true (aH true (m+10)) (aH false (m+10)) 40 (bN (aI 55))).de (ce (aI 55) 5) (eu (.am (ns.map .int)) (2+eM) (.U (.am (dh fF))) ext (c3 (cx (ns.take 40) gA g8) c5 a6 [.V [],.V []]))=
   some (.next,eu (.am (ns.map .int)) (2+eM) (.U (.am (dh fF))) ext (c3 (cx (ns.take 40) gA g8) c5 a6 [.V lg,.V [(.str "Root",au kv)]])):=
  by apply mF (fs₁:=eu (.am (ns.map .int)) (2+eM) (.U (.am (dh fF))) ext (c3 (cx (ns.take 40) gA g8) c5 a6 [.V [],.V []])) (hc:=M)<;>first|rfl|decide+kernel
 have Pv:(aJ true (aH true (m+10)) (aH false (m+10)) 40 (bN (aI 55))).de (ce (aI 55) 6) (eu (.am (ns.map .int)) (2+eM) (.U (.am (dh fF))) ext (c3 (cx (ns.take 40) gA g8) c5 a6 [.V lg,.V [(.str "Root",au kv)]]))=
   some (.next,eu (.am (ns.map .int)) (2+eM) (.U (.am (dh fF))) ext (c3 (cx (ns.take 40) gA g8) c5 a6 [.V lg,.V [(.str "Root",au kv)]])):=
  co false (cR (dt rfl rfl yQ) (dt rfl rfl wh) rfl rfl (EX fun v ay=>by obtain⟨p,_,rfl⟩:=List.mem_map.mp ay;exact(zS (k:=23)).1) rfl) rfl
 apply dp rfl
 ·refine aO (fB (dt rfl rfl Tj) rfl) ?_
  refine aO nU (aO oC (aO o0 (aO tK (aO Hq (aO Pv ?_)))))
  exact cu (dD (Ca (dt rfl (bM rfl rfl (bM (dB rfl (dt rfl rfl wq) rfl rfl rfl) rfl rfl)) JZ) (dt rfl (bM rfl rfl (bM (dB (dB (fb rfl rfl rfl gi) rfl rfl rfl rfl) (dt rfl rfl Xw) rfl rfl rfl) rfl rfl)) Qr)) rfl)
 ·rfl
end
end Mine
end
open PySem
theorem PySem.Challenge.cw_og0185_01_holds : PySem.Challenge.rw_og0185_01.Holds :=
  Mine.Yo (Mine.Ve fun ns h=>Mine.Te (m:=9) ns h)
