import PyProof.Rows.All
import Wide.All
import Open.Line
import Open.Boot
import Open.Tree
import OpenK.KCall
import OpenK.AllK
import Wide.FinOn
import Lean
import PySem.Challenge.RW_og0185_01
set_option Elab.async false
set_option maxRecDepth 100000
set_option maxHeartbeats 8000000
set_option linter.unusedVariables false
set_option genSizeOf false
section
open PySem PySem.W PySem.Calls PyProof.Rows
namespace Mine.Hd
section
noncomputable abbrev aw:Program:=PySem.Challenge.pw_og0185_01
noncomputable abbrev o (s:String):Str:=Str.ofString s
noncomputable def aI (i:Nat):Stmt:=(aw.main.body[i]?).getD default
noncomputable def cG (i j:Nat):Stmt:=match aI i with
 |.ClassDef _ _ _ b _ _ _ _ _ _ _=>(b[j]?).getD default
 |s=>s
noncomputable def u7:Stmt->Arguments
 |.FunctionDef _ a _ _ _ _ _ _ _ _=>a
 |_=>default
noncomputable def g5:Stmt->List Stmt
 |.FunctionDef _ _ b _ _ _ _ _ _ _=>b
 |_=>[]
noncomputable def bO:Stmt->Scope
 |.FunctionDef _ _ _ _ _ _ J _ _ _=>J
 |_=>default
noncomputable abbrev S (s:String) (n:Nat):Value:=.str (o s) n
noncomputable abbrev I (k:Int):Value:=.int k 0
noncomputable abbrev R (n:Nat):Value:=.ref n
noncomputable abbrev T (l:List Value):Obj:=⟨.type "tuple",none,.seq ⟨l⟩ 0,#[]⟩
noncomputable abbrev dv (l:List Value):Obj:=⟨.none,none,.fields ⟨l⟩,#[]⟩
noncomputable def i0 (c:Int):List (Int×Nat)->List Value
 |[]=>[]
 |(a,b)::l=>I a::I c::R b::i0 c l
noncomputable abbrev e (s:String) (t:Nat) (v:Value) (P:Params):DictEntry:=⟨PyData.keyHash P (o s),.str (o s) t,v⟩
noncomputable abbrev r (s:String) (t:Nat) (n:Nat) (P:Params):DictEntry:=e s t (R n) P
noncomputable def hp (P:Params):List (Params->DictEntry)->List DictEntry
 |[]=>[]
 |f::l=>f P::hp P l
noncomputable abbrev D (P:Params) (l:List (Params->DictEntry)) (n:Nat):Obj:=⟨.type "dict",none,.dict ⟨hp P l⟩ n,#[]⟩
noncomputable abbrev Ei (P:Params) (l:List (Params->DictEntry)) (n:Nat):Obj:=⟨.none,none,.dict ⟨hp P l⟩ n,#[]⟩
noncomputable def EV (n:Nat):List String->List Value
 |[]=>[]
 |s::l=>S s n::EV (n+1) l
noncomputable abbrev hf (n:Nat):Value:=S "/claim/cut.py" n
noncomputable abbrev xq (a t:Nat) (L rB:Int) (n q:String) (b:Bool) (c:Int) (e:Nat) (u v w:Value):Obj:=⟨.type "code",none,.fields ⟨[S n t,S q (t+1),hf (t+2),I L,I rB,I 0,I 0,I c,R a,.bool b,I 181,R (a+1),.none,u,v,w,I e,I L,hf (e+1)]⟩,#[]⟩
noncomputable abbrev K (n:String) (t:Nat) (L:Int) (a:Nat):Obj:=xq a t L 0 n n false 0 (t+3) .none .none .none
noncomputable abbrev jJ (a b:Nat) (m:Value):Obj:=⟨.type "frame",none,.plain,#[some (R a),some (R 3),some (R b),none,some m,none,some (R 0)]⟩
noncomputable abbrev av (s:String) (l:List Value):Obj:=⟨.type s,none,.fields ⟨l⟩,#[]⟩
noncomputable abbrev W (n:String) (b m:List Value) (s:Nat) (c:List Value) (l:List (Option Value)):Obj:=⟨.type "type",none,.cls {name:=o n,bases:=b,mro:=m,ns:=s,qualname:=o n,hasDict:=true,slotNames:=[],subclasses:=c,abstract:=false,collection:=none,hasDel:=false},⟨l⟩⟩
noncomputable abbrev G (n q:String) (s:Stmt):Obj:=⟨.none,none,.func {name:=o n,qualname:=o q,params:=u7 s,body:=.stmts (g5 s),scope:=bO s,globals:=0,closure:=[],defaults:=.none,kwdefaults:=.none,doc:=.none,pyModule:=.none,annotations:=none,code:=.none,closureTuple:=.none,builtins:=0},#[]⟩
noncomputable abbrev N (k:Nat) (n q:String) (s:Stmt) (d m:Value):Obj:=⟨.type "function",none,.func (fnOf (o n) (o q) (u7 s) (g5 s) (bO s) d .none .none m none (R k) .none),#[]⟩
noncomputable def F (a t:Nat) (L rB:Int) (n q:String) (ns:List String) (s:Stmt) (d m:Value) (z:List Obj):List Obj:=
 T []::dv []::T (EV (t+3) ns)::T []::G n q s::xq a t L rB n q true 3 (t+3+ns.length) (R (a+2)) (R (a+3)) (R (a+4))::N (a+5) n q s d m::z
noncomputable def E (a t:Nat) (L rB:Int) (n q:String) (s:Stmt) (d m:Value) (z:List Obj):List Obj:=
 T []::dv []::G n q s::xq a t L rB n q true 3 (t+3) .none .none (R (a+2))::N (a+3) n q s d m::z
noncomputable abbrev Du:=S "__main__" 164
noncomputable abbrev tA:=S "paperhold.errors" 194
noncomputable abbrev io:=S "paperhold.decimals" 252
noncomputable abbrev fy:=S "paperhold.objects" 375
noncomputable abbrev eQ:=S "paperhold.pagetree" 652
noncomputable abbrev nN:=S "law_og0185_01" 951
noncomputable def hP (P:Params) (a2 b0 Uk:Obj) (z:List Obj):List Obj:=
 boot_o_0 P::
 boot_o_1 P::
 a2::
 b0::
 boot_o_4 P::
 boot_o_5 P::
 boot_o_6 P::
 boot_o_7 P::
 boot_o_8 P::
 boot_o_9 P::
 boot_o_10 P::
 T []::
 Uk::
 K "<module>" 182 1 11::
 jJ 13 3 Du::z
noncomputable def eC (P:Params) (z:List Obj):List Obj:=
 F 15 187 1 1 "_wall" "_wall" ["k"] (aI 0) .none Du (
 T [.type "Exception"]::
 av "builtin_function_or_method" [.builtin "type.__prepare__",.type "type"]::
 D P [e "__module__" 203 (S "paperhold.errors" 194),e "__qualname__" 205 (S "PaperError" 204),e "__firstlineno__" 207 (.int 5 206),r "__init__" 218 36,r "told" 225 43,r "__static_attributes__" 228 44] 6::
 T []::
 dv (i0 4 [(7,35),(12,42)])::
 K "PaperError" 198 5 25::
 jJ 27 24 tA::
 T [.int (-1) 209]::
 F 30 210 7 3 "__init__" "PaperError.__init__" ["self","what","at"] (cG 2 0) (R 29) tA (
 F 37 219 12 1 "told" "PaperError.told" ["self"] (cG 2 1) .none tA (
 T [S "at" 226,S "what" 227]::
 D P [e "__module__" 203 (S "paperhold.errors" 194),e "__firstlineno__" 207 (.int 5 206),r "__init__" 218 36,r "told" 225 43,r "__static_attributes__" 228 44,r "__weakref__" 230 47,e "__doc__" 231 .none] 3::
 W "PaperError" [.type "Exception"] [R 46,.type "Exception",.type "BaseException",.type "object"] 45 [R 59] [some (R 22),none,some (S "PaperError" 196),some (S "PaperError" 204),some (.builtin "Exception.__new__"),some (.bool true)]::
 av "getset_descriptor" [S "__weakref__" 229,R 46,.builtin "ExceptionGroup.__weakref__",.none]::
 av "super" [R 46,R 46,R 46]::
 av "builtin_function_or_method" [.builtin "object.__init_subclass__",R 46]::
 T [R 46]::
 av "builtin_function_or_method" [.builtin "type.__prepare__",.type "type"]::
 D P [e "__module__" 243 (S "paperhold.errors" 194),e "__qualname__" 245 (S "TreeFault" 244),e "__firstlineno__" 247 (.int 14 246),r "__static_attributes__" 248 57] 4::
 T []::
 dv []::
 K "TreeFault" 238 14 53::
 jJ 55 52 tA::
 T []::
 D P [e "__module__" 243 (S "paperhold.errors" 194),e "__firstlineno__" 247 (.int 14 246),r "__static_attributes__" 248 57,e "__doc__" 249 .none] 2::
 W "TreeFault" [R 46] [R 59,R 46,.type "Exception",.type "BaseException",.type "object"] 58 [] [some (R 50),none,some (S "TreeFault" 236),some (S "TreeFault" 244),some (.builtin "Exception.__new__"),some (.bool true)]::
 av "super" [R 59,R 59,R 59]::
 av "builtin_function_or_method" [.builtin "object.__init_subclass__",R 59]::
 T []::z)))
noncomputable def ez (P:Params) (z:List Obj):List Obj:=
 av "builtin_function_or_method" [.builtin "type.__prepare__",.type "type"]::
 D P [e "__module__" 261 (S "paperhold.decimals" 252),e "__qualname__" 263 (S "Decimal" 262),e "__firstlineno__" 265 (.int 17 264),r "__init__" 274 75,r "plus" 282 82,r "minus" 290 89,r "times" 298 96,r "negated" 305 103,r "compared" 313 110,r "is_whole" 320 117,r "floor" 327 124,r "rounded" 335 131,r "told" 342 138,r "text" 350 145,r "least_text" 357 152,r "__static_attributes__" 360 153] 16::
 T []::
 dv (i0 4 [(19,74),(26,81),(29,88),(32,95),(35,102),(38,109),(41,116),(44,123),(47,130),(50,137),(53,144),(60,151)])::
 K "Decimal" 256 17 65::
 jJ 67 64 io::
 F 69 266 19 3 "__init__" "Decimal.__init__" ["self","top","places"] (cG 5 0) .none io (
 F 76 275 26 2 "plus" "Decimal.plus" ["self","other"] (cG 5 1) .none io (
 F 83 283 29 2 "minus" "Decimal.minus" ["self","other"] (cG 5 2) .none io (
 F 90 291 32 2 "times" "Decimal.times" ["self","other"] (cG 5 3) .none io (
 F 97 299 35 1 "negated" "Decimal.negated" ["self"] (cG 5 4) .none io (
 F 104 306 38 2 "compared" "Decimal.compared" ["self","other"] (cG 5 5) .none io (z))))))
noncomputable def hX (P:Params) (z:List Obj):List Obj:=
 F 111 314 41 1 "is_whole" "Decimal.is_whole" ["self"] (cG 5 6) .none io (
 F 118 321 44 1 "floor" "Decimal.floor" ["self"] (cG 5 7) .none io (
 F 125 328 47 2 "rounded" "Decimal.rounded" ["self","places"] (cG 5 8) .none io (
 F 132 336 50 1 "told" "Decimal.told" ["self"] (cG 5 9) .none io (
 F 139 343 53 1 "text" "Decimal.text" ["self","numerals"] (cG 5 10) .none io (
 F 146 351 60 1 "least_text" "Decimal.least_text" ["self"] (cG 5 11) .none io (
 T [S "places" 358,S "top" 359]::
 D P [e "__module__" 261 (S "paperhold.decimals" 252),e "__firstlineno__" 265 (.int 17 264),r "__init__" 274 75,r "plus" 282 82,r "minus" 290 89,r "times" 298 96,r "negated" 305 103,r "compared" 313 110,r "is_whole" 320 117,r "floor" 327 124,r "rounded" 335 131,r "told" 342 138,r "text" 350 145,r "least_text" 357 152,r "__static_attributes__" 360 153,r "__dict__" 362 156,r "__weakref__" 364 157,e "__doc__" 365 .none] 4::
 W "Decimal" [.type "object"] [R 155,.type "object"] 154 [] [none,none,some (S "Decimal" 254),some (S "Decimal" 262),some (.builtin "object.__new__"),some (.bool true)]::
 av "getset_descriptor" [S "__dict__" 361,R 155,.builtin "function.__dict__",.builtin "function.__dict__#set"]::
 av "getset_descriptor" [S "__weakref__" 363,R 155,.builtin "ExceptionGroup.__weakref__",.none]::
 av "super" [R 155,R 155,R 155]::z))))))
noncomputable def m7 (P:Params) (z:List Obj):List Obj:=
 av "builtin_function_or_method" [.builtin "object.__init_subclass__",R 155]::
 F 160 368 62 1 "sign_text" "sign_text" ["number"] (aI 6) .none io (
 T []::
 av "builtin_function_or_method" [.builtin "type.__prepare__",.type "type"]::
 D P [e "__module__" 386 (S "paperhold.objects" 375),e "__qualname__" 388 (S "Name" 387),e "__firstlineno__" 390 (.int 66 389),r "__init__" 398 180,r "__static_attributes__" 400 181] 5::
 T []::
 dv (i0 4 [(68,179)])::
 K "Name" 381 66 170::
 jJ 172 169 fy::
 F 174 391 68 2 "__init__" "Name.__init__" ["self","text"] (cG 9 0) .none fy (
 T [S "text" 399]::
 D P [e "__module__" 386 (S "paperhold.objects" 375),e "__firstlineno__" 390 (.int 66 389),r "__init__" 398 180,r "__static_attributes__" 400 181,r "__dict__" 402 184,r "__weakref__" 404 185,e "__doc__" 405 .none] 4::
 W "Name" [.type "object"] [R 183,.type "object"] 182 [] [none,none,some (S "Name" 379),some (S "Name" 387),some (.builtin "object.__new__"),some (.bool true)]::
 av "getset_descriptor" [S "__dict__" 401,R 183,.builtin "function.__dict__",.builtin "function.__dict__#set"]::
 av "getset_descriptor" [S "__weakref__" 403,R 183,.builtin "ExceptionGroup.__weakref__",.none]::
 av "super" [R 183,R 183,R 183]::
 av "builtin_function_or_method" [.builtin "object.__init_subclass__",R 183]::
 T []::
 av "builtin_function_or_method" [.builtin "type.__prepare__",.type "type"]::
 D P [e "__module__" 415 (S "paperhold.objects" 375),e "__qualname__" 417 (S "String" 416),e "__firstlineno__" 419 (.int 70 418),r "__init__" 428 202,r "__static_attributes__" 431 203] 5::
 T []::
 dv (i0 4 [(72,201)])::
 K "String" 410 70 191::
 jJ 193 190 fy::
 T [.bool false]::
 F 196 420 72 3 "__init__" "String.__init__" ["self","octets","is_hex"] (cG 10 0) (R 195) fy (
 T [S "is_hex" 429,S "octets" 430]::
 D P [e "__module__" 415 (S "paperhold.objects" 375),e "__firstlineno__" 419 (.int 70 418),r "__init__" 428 202,r "__static_attributes__" 431 203,r "__dict__" 433 206,r "__weakref__" 435 207,e "__doc__" 436 .none] 4::
 W "String" [.type "object"] [R 205,.type "object"] 204 [] [none,none,some (S "String" 408),some (S "String" 416),some (.builtin "object.__new__"),some (.bool true)]::
 av "getset_descriptor" [S "__dict__" 432,R 205,.builtin "function.__dict__",.builtin "function.__dict__#set"]::z)))
noncomputable def k8 (P:Params) (z:List Obj):List Obj:=
 av "getset_descriptor" [S "__weakref__" 434,R 205,.builtin "ExceptionGroup.__weakref__",.none]::
 av "super" [R 205,R 205,R 205]::
 av "builtin_function_or_method" [.builtin "object.__init_subclass__",R 205]::
 T []::
 av "builtin_function_or_method" [.builtin "type.__prepare__",.type "type"]::
 D P [e "__module__" 446 (S "paperhold.objects" 375),e "__qualname__" 448 (S "Stream" 447),e "__firstlineno__" 450 (.int 75 449),r "__init__" 459 223,r "__static_attributes__" 462 224] 5::
 T []::
 dv (i0 4 [(77,222)])::
 K "Stream" 441 75 213::
 jJ 215 212 fy::
 F 217 451 77 3 "__init__" "Stream.__init__" ["self","head","octets"] (cG 11 0) .none fy (
 T [S "head" 460,S "octets" 461]::
 D P [e "__module__" 446 (S "paperhold.objects" 375),e "__firstlineno__" 450 (.int 75 449),r "__init__" 459 223,r "__static_attributes__" 462 224,r "__dict__" 464 227,r "__weakref__" 466 228,e "__doc__" 467 .none] 4::
 W "Stream" [.type "object"] [R 226,.type "object"] 225 [] [none,none,some (S "Stream" 439),some (S "Stream" 447),some (.builtin "object.__new__"),some (.bool true)]::
 av "getset_descriptor" [S "__dict__" 463,R 226,.builtin "function.__dict__",.builtin "function.__dict__#set"]::
 av "getset_descriptor" [S "__weakref__" 465,R 226,.builtin "ExceptionGroup.__weakref__",.none]::
 av "super" [R 226,R 226,R 226]::
 av "builtin_function_or_method" [.builtin "object.__init_subclass__",R 226]::
 T []::
 av "builtin_function_or_method" [.builtin "type.__prepare__",.type "type"]::
 D P [e "__module__" 477 (S "paperhold.objects" 375),e "__qualname__" 479 (S "Reference" 478),e "__firstlineno__" 481 (.int 80 480),r "__init__" 490 244,r "pair" 497 251,r "__static_attributes__" 500 252] 6::
 T []::
 dv (i0 4 [(82,243),(86,250)])::
 K "Reference" 472 80 234::
 jJ 236 233 fy::
 F 238 482 82 3 "__init__" "Reference.__init__" ["self","number","generation"] (cG 12 0) .none fy (
 F 245 491 86 1 "pair" "Reference.pair" ["self"] (cG 12 1) .none fy (
 T [S "generation" 498,S "number" 499]::
 D P [e "__module__" 477 (S "paperhold.objects" 375),e "__firstlineno__" 481 (.int 80 480),r "__init__" 490 244,r "pair" 497 251,r "__static_attributes__" 500 252,r "__dict__" 502 255,r "__weakref__" 504 256,e "__doc__" 505 .none] 4::
 W "Reference" [.type "object"] [R 254,.type "object"] 253 [] [none,none,some (S "Reference" 470),some (S "Reference" 478),some (.builtin "object.__new__"),some (.bool true)]::z)))
noncomputable def nA (P:Params) (z:List Obj):List Obj:=
 av "getset_descriptor" [S "__dict__" 501,R 254,.builtin "function.__dict__",.builtin "function.__dict__#set"]::
 av "getset_descriptor" [S "__weakref__" 503,R 254,.builtin "ExceptionGroup.__weakref__",.none]::
 av "super" [R 254,R 254,R 254]::
 av "builtin_function_or_method" [.builtin "object.__init_subclass__",R 254]::
 F 259 508 88 1 "kind_of" "kind_of" ["value"] (aI 13) .none fy (
 F 266 515 110 2 "told_plain" "told_plain" ["kind","value"] (aI 14) .none fy (
 E 273 523 124 1 "told" "told" (aI 15) .none fy (
 E 278 530 134 1 "copied" "copied" (aI 17) .none fy (
 T []::
 av "builtin_function_or_method" [.builtin "type.__prepare__",.type "type"]::
 D P [e "__module__" 543 (S "paperhold.objects" 375),e "__qualname__" 545 (S "Lookup" 544),e "__firstlineno__" 547 (.int 143 546),r "__init__" 556 297,r "fetch" 568 304,r "get" 577 311,r "__static_attributes__" 580 312] 7::
 T []::
 dv (i0 4 [(145,296),(149,303),(160,310)])::
 K "Lookup" 538 143 286::
 jJ 288 285 fy::
 T [.none,.none]::
 F 291 548 145 3 "__init__" "Lookup.__init__" ["self","table","trailer"] (cG 18 0) (R 290) fy (
 F 298 557 149 2 "fetch" "Lookup.fetch" ["self","value","here","hop","generation","found"] (cG 18 1) .none fy (z))))))
noncomputable def pw (P:Params) (V3:Obj) (z:List Obj):List Obj:=
 F 305 569 160 3 "get" "Lookup.get" ["self","head","key"] (cG 18 2) .none fy (
 T [S "table" 578,S "trailer" 579]::
 D P [e "__module__" 543 (S "paperhold.objects" 375),e "__firstlineno__" 547 (.int 143 546),r "__init__" 556 297,r "fetch" 568 304,r "get" 577 311,r "__static_attributes__" 580 312,r "__dict__" 582 315,r "__weakref__" 584 316,e "__doc__" 585 .none] 4::
 V3::
 av "getset_descriptor" [S "__dict__" 581,R 314,.builtin "function.__dict__",.builtin "function.__dict__#set"]::
 av "getset_descriptor" [S "__weakref__" 583,R 314,.builtin "ExceptionGroup.__weakref__",.none]::
 av "super" [R 314,R 314,R 314]::
 av "builtin_function_or_method" [.builtin "object.__init_subclass__",R 314]::z)
noncomputable def PU (P:Params) (z:List Obj):List Obj:=
 T [R 314]::
 av "builtin_function_or_method" [.builtin "type.__prepare__",.type "type"]::
 D P [e "__module__" 595 (S "paperhold.objects" 375),e "__qualname__" 597 (S "Shelf" 596),e "__firstlineno__" 599 (.int 162 598),r "put" 609 332,r "add" 618 339,r "drop" 626 346,r "numbers" 633 353,r "root" 641 360,r "told" 647 365,r "__static_attributes__" 648 366] 10::
 T []::
 dv (i0 4 [(164,331),(167,338),(174,345),(177,352),(180,359),(184,364)])::
 K "Shelf" 590 162 322::
 jJ 324 321 fy::
 F 326 600 164 4 "put" "Shelf.put" ["self","number","generation","value"] (cG 19 0) .none fy (
 F 333 610 167 2 "add" "Shelf.add" ["self","value","number"] (cG 19 1) .none fy (
 F 340 619 174 2 "drop" "Shelf.drop" ["self","number"] (cG 19 2) .none fy (
 F 347 627 177 1 "numbers" "Shelf.numbers" ["self"] (cG 19 3) .none fy (
 F 354 634 180 1 "root" "Shelf.root" ["self","found"] (cG 19 4) .none fy (
 E 361 642 184 1 "told" "Shelf.told" (cG 19 5) .none fy (
 T []::z))))))
noncomputable def O9 (P:Params) (z:List Obj):List Obj:=
 D P [e "__module__" 595 (S "paperhold.objects" 375),e "__firstlineno__" 599 (.int 162 598),r "put" 609 332,r "add" 618 339,r "drop" 626 346,r "numbers" 633 353,r "root" 641 360,r "told" 647 365,r "__static_attributes__" 648 366,e "__doc__" 649 .none] 2::
 W "Shelf" [R 314] [R 368,R 314,.type "object"] 367 [] [some (R 319),none,some (S "Shelf" 588),some (S "Shelf" 596),some (.builtin "object.__new__"),some (.bool true)]::
 av "super" [R 368,R 368,R 368]::
 av "builtin_function_or_method" [.builtin "object.__init_subclass__",R 368]::
 T [S "Resources" 654,S "MediaBox" 655,S "CropBox" 656,S "Rotate" 657]::
 T []::
 av "builtin_function_or_method" [.builtin "type.__prepare__",.type "type"]::
 D P [e "__module__" 666 (S "paperhold.pagetree" 652),e "__qualname__" 668 (S "Page" 667),e "__firstlineno__" 670 (.int 189 669),r "__init__" 679 385,r "__static_attributes__" 682 386] 5::
 T []::
 dv (i0 4 [(191,384)])::
 K "Page" 661 189 375::
 jJ 377 374 eQ::
 F 379 671 191 3 "__init__" "Page.__init__" ["self","reference","fields"] (cG 22 0) .none eQ (
 T [S "fields" 680,S "reference" 681]::
 D P [e "__module__" 666 (S "paperhold.pagetree" 652),e "__firstlineno__" 670 (.int 189 669),r "__init__" 679 385,r "__static_attributes__" 682 386,r "__dict__" 684 389,r "__weakref__" 686 390,e "__doc__" 687 .none] 4::
 W "Page" [.type "object"] [R 388,.type "object"] 387 [] [none,none,some (S "Page" 659),some (S "Page" 667),some (.builtin "object.__new__"),some (.bool true)]::
 av "getset_descriptor" [S "__dict__" 683,R 388,.builtin "function.__dict__",.builtin "function.__dict__#set"]::
 av "getset_descriptor" [S "__weakref__" 685,R 388,.builtin "ExceptionGroup.__weakref__",.none]::
 av "super" [R 388,R 388,R 388]::
 av "builtin_function_or_method" [.builtin "object.__init_subclass__",R 388]::
 T []::
 av "builtin_function_or_method" [.builtin "type.__prepare__",.type "type"]::
 D P [e "__module__" 697 (S "paperhold.pagetree" 652),e "__qualname__" 699 (S "Spot" 698),e "__firstlineno__" 701 (.int 194 700),r "__init__" 713 406,r "__static_attributes__" 719 407] 5::
 T []::
 dv (i0 4 [(196,405)])::
 K "Spot" 692 194 396::
 jJ 398 395 eQ::
 F 400 702 196 6 "__init__" "Spot.__init__" ["self","reference","head","above","inherited","is_page"] (cG 23 0) .none eQ (
 T [S "above" 714,S "head" 715,S "inherited" 716,S "is_page" 717,S "reference" 718]::
 D P [e "__module__" 697 (S "paperhold.pagetree" 652),e "__firstlineno__" 701 (.int 194 700),r "__init__" 713 406,r "__static_attributes__" 719 407,r "__dict__" 721 410,r "__weakref__" 723 411,e "__doc__" 724 .none] 4::
 W "Spot" [.type "object"] [R 409,.type "object"] 408 [] [none,none,some (S "Spot" 690),some (S "Spot" 698),some (.builtin "object.__new__"),some (.bool true)]::
 av "getset_descriptor" [S "__dict__" 720,R 409,.builtin "function.__dict__",.builtin "function.__dict__#set"]::
 av "getset_descriptor" [S "__weakref__" 722,R 409,.builtin "ExceptionGroup.__weakref__",.none]::
 av "super" [R 409,R 409,R 409]::
 av "builtin_function_or_method" [.builtin "object.__init_subclass__",R 409]::
 F 414 727 202 2 "turned" "turned" ["head","changes","found","key"] (aI 24) .none eQ (z)))
noncomputable def U4 (P:Params) (z:List Obj):List Obj:=
 F 421 737 210 2 "home_of" "home_of" ["shelf","value","here","seen","generation","found"] (aI 25) .none eQ (
 F 428 749 222 2 "is_node" "is_node" ["shelf","head","kind"] (aI 26) .none eQ (
 F 435 758 227 2 "kids_of" "kids_of" ["shelf","head","kids"] (aI 27) .none eQ (
 F 442 767 232 4 "met" "met" ["shelf","value","above","inherited","reference","head","given","key"] (aI 28) .none eQ (
 F 449 781 242 1 "spots" "spots" ["shelf","found","seen","line","value","above","inherited","spot","kid"] (aI 29) .none eQ (
 F 456 796 257 2 "fields_of" "fields_of" ["shelf","spot","found","key"] (aI 30) .none eQ (
 E 463 806 263 1 "page_spots" "page_spots" (aI 31) .none eQ (
 E 468 812 265 1 "pages" "pages" (aI 32) .none eQ (z))))))))
noncomputable def Q6 (P:Params) (z:List Obj):List Obj:=
 F 473 818 267 1 "page_count" "page_count" ["shelf","count"] (aI 33) .none eQ (
 F 480 826 272 1 "is_count" "is_count" ["value"] (aI 34) .none eQ (
 F 487 833 274 2 "page_at" "page_at" ["shelf","at","spot","left"] (aI 35) .none eQ (
 F 494 843 284 3 "kid_with" "kid_with" ["shelf","spot","left","kid","below","count"] (aI 36) .none eQ (
 F 501 855 294 1 "counts_of" "counts_of" ["found","counts","spot","node"] (aI 37) .none eQ (
 F 508 865 303 1 "is_parent" "is_parent" ["spot","parent"] (aI 38) .none eQ (
 F 515 873 308 1 "page_faults" "page_faults" ["shelf","found","counts","faults","spot","number"] (aI 39) .none eQ (z)))))))
noncomputable def PH (P:Params) (z:List Obj):List Obj:=
 F 522 885 321 1 "settle" "settle" ["shelf","found","counts","spot","changes"] (aI 40) .none eQ (
 F 529 896 332 3 "lay" "lay" ["shelf","reference","head"] (aI 41) .none eQ (
 E 536 905 334 2 "grouped" "grouped" (aI 42) .none eQ (
 E 541 911 337 3 "build_pages" "build_pages" (aI 43) .none eQ (
 E 546 917 352 2 "place_of" "place_of" (aI 44) .none eQ (
 E 551 923 362 3 "kid_index" "kid_index" (aI 45) .none eQ (
 F 556 929 364 3 "put_reference" "put_reference" ["shelf","at","reference","node","spot","kids"] (aI 46) .none eQ (
 F 563 941 369 3 "insert_page" "insert_page" ["shelf","at","page_dict","reference"] (aI 47) .none eQ (z))))))))
noncomputable def N3 (P:Params) (z:List Obj):List Obj:=
 E 570 953 375 1 "_law_pen" "_law_pen" (aI 49) .none nN (
 F 575 959 377 2 "_law_draw" "_law_draw" ["pen","many","digit","spot","cell","great","stirred"] (aI 50) .none nN (
 F 582 972 394 2 "_law_pick" "_law_pick" ["pen","some"] (aI 51) .none nN (
 F 589 980 396 2 "_law_page" "_law_page" ["pen","at","head"] (aI 52) .none nN (
 E 596 989 401 1 "_law_seen" "_law_seen" (aI 53) .none nN (
 F 601 995 406 2 "_law_refused" "_law_refused" ["shelf","at","before"] (aI 54) .none nN (
 E 608 1004 413 1 "law" "law" (aI 55) .none nN (z)))))))
noncomputable def tW (P:Params):List Obj:=hP P (boot_o_2 P) (boot_o_3 P) (dv []) []
noncomputable def C0 (P:Params):List Obj:=hP P (Ei P [e "type.__subclasses__.Exception.0" 232 (I 46),e "type.__subclasses__.Exception.n" 233 (I 1)] 2) (D P [e "__name__" 165 (S "paperhold.objects" 375),e "__doc__" 166 .none,e "__package__" 167 .none,e "__loader__" 168 (.builtin "__main__.__loader__#opaque"),e "__spec__" 169 .none,r "__annotations__" 170 6,r "__builtins__" 171 4,e "__file__" 173 (S "/claim/cut.py" 172),e "__cached__" 174 .none,r "_wall" 193 21,r "PaperError" 235 46,r "TreeFault" 251 59,r "Decimal" 367 155,r "sign_text" 374 166,e "MOST_HOPS" 378 (.int 30 377),r "Name" 407 183,r "String" 438 205,r "Stream" 469 226,r "Reference" 507 254,r "kind_of" 514 265,r "told_plain" 522 272,r "told" 528 277,r "told_objects" 529 277,r "copied" 535 282,r "Lookup" 587 314] 25) (dv (i0 0 [(1,20),(5,27),(14,55),(17,67),(62,165),(66,172),(70,193),(75,215),(80,236),(88,264),(110,271),(124,276),(134,281),(143,288)])) (eC P (ez P (hX P (m7 P (k8 P (nA P (pw P (W "Lookup" [.type "object"] [R 314,.type "object"] 313 [] [none,none,some (S "Lookup" 536),some (S "Lookup" 544),some (.builtin "object.__new__"),some (.bool true)]) [])))))))
noncomputable def oK (P:Params):List Obj:=hP P (Ei P [e "type.__subclasses__.Exception.0" 232 (I 46),e "type.__subclasses__.Exception.n" 233 (I 1)] 2) (D P [e "__name__" 165 (S "law_og0185_01" 951),e "__doc__" 166 .none,e "__package__" 167 .none,e "__loader__" 168 (.builtin "__main__.__loader__#opaque"),e "__spec__" 169 .none,r "__annotations__" 170 6,r "__builtins__" 171 4,e "__file__" 173 (S "/claim/cut.py" 172),e "__cached__" 174 .none,r "_wall" 193 21,r "PaperError" 235 46,r "TreeFault" 251 59,r "Decimal" 367 155,r "sign_text" 374 166,e "MOST_HOPS" 378 (.int 30 377),r "Name" 407 183,r "String" 438 205,r "Stream" 469 226,r "Reference" 507 254,r "kind_of" 514 265,r "told_plain" 522 272,r "told" 528 277,r "told_objects" 529 277,r "copied" 535 282,r "Lookup" 587 314,r "Shelf" 651 368,r "INHERITED" 658 371,r "Page" 689 388,r "Spot" 726 409,r "turned" 736 420,r "home_of" 748 427,r "is_node" 757 434,r "kids_of" 766 441,r "met" 780 448,r "spots" 795 455,r "fields_of" 805 462,r "page_spots" 811 467,r "pages" 817 472,r "page_count" 825 479,r "is_count" 832 486,r "page_at" 842 493,r "kid_with" 854 500,r "counts_of" 864 507,r "is_parent" 872 514,r "page_faults" 884 521,r "settle" 895 528,r "lay" 904 535,r "grouped" 910 540,r "build_pages" 916 545,r "place_of" 922 550,r "kid_index" 928 555,r "put_reference" 940 562,r "insert_page" 950 569,r "_law_pen" 958 574,r "_law_draw" 971 581,r "_law_pick" 979 588,r "_law_page" 988 595,r "_law_seen" 994 600,r "_law_refused" 1003 607,r "law" 1009 612] 60) (dv (i0 0 [(1,20),(5,27),(14,55),(17,67),(62,165),(66,172),(70,193),(75,215),(80,236),(88,264),(110,271),(124,276),(134,281),(143,288),(162,324),(189,377),(194,398),(202,419),(210,426),(222,433),(227,440),(232,447),(242,454),(257,461),(263,466),(265,471),(267,478),(272,485),(274,492),(284,499),(294,506),(303,513),(308,520),(321,527),(332,534),(334,539),(337,544),(352,549),(362,554),(364,561),(369,568),(375,573),(377,580),(394,587),(396,594),(401,599),(406,606),(413,611)])) (eC P (ez P (hX P (m7 P (k8 P (nA P (pw P (W "Lookup" [.type "object"] [R 314,.type "object"] 313 [R 368] [none,none,some (S "Lookup" 536),some (S "Lookup" 544),some (.builtin "object.__new__"),some (.bool true)]) (PU P (O9 P (U4 P (Q6 P (PH P (N3 P [])))))))))))))
noncomputable def Qr (l:List Obj):BT:=(l.foldl (fun(p:BT×Nat) o=>(p.1.ins p.2 o,p.2+1)) (.nil,0)).1
noncomputable def D6:Life:={}
noncomputable def tj:Env:={scope:=aw.main.scope,locals:=mainNs,globals:=mainNs,cells:=[],code:=.ref 13,frame:=some 14}
noncomputable def l2:Code:=.body aw.main.body tj
noncomputable def h0:List Stmt:=aw.main.body.take 19
noncomputable def jA:List Stmt:=aw.main.body.drop 19
theorem PE:aw.main.body=h0++(jA++[]):=by kernel_rfl
noncomputable abbrev m5 (l:Params->List Obj) (n tk:Nat) (w:World) (os:OsState):SharedT:=⟨Qr (l w.params),n,D6,#[],boot_drawn,tk,os⟩
noncomputable abbrev fg (w:World) (os:OsState):Shared:=⟨boot_heap w.params,Array.mk [],boot_drawn,boot_toks,os⟩
noncomputable def f5 (P:Params):Heap:=⟨⟨oK P⟩,D6⟩
noncomputable abbrev fT (w:World) (os:OsState):Shared:=⟨f5 w.params,#[],boot_drawn,1010,os⟩
noncomputable abbrev l5:Pos:=⟨0,0,0,0⟩
noncomputable abbrev nM:Nat:=11
noncomputable abbrev nX:Option Value:=some (.ref 6)
theorem Su (w:World) (os:OsState):topGo treeTable aw w nM nX 12 (fg w os) (topStub aw)=some ((m5 tW 15 187 w os).abs,⟨denote treeTable l2,l2,l5,[topFrame l5]⟩):=by kernel_rfl
theorem Qv (w:World) (os:OsState):segRun treeTable aw w nM nX 1 1 (m5 tW 15 187 w os).abs (blockOf aw.main.body tj l2 l5 [topFrame l5])=some (.next,(m5 tW 15 187 w os).abs,l2,l5):=by kernel_rfl
theorem RI (w:World) (os:OsState):segRunT treeTable aw w nM nX 1 2488 (m5 tW 15 187 w os) (piecesOf h0 tj l2 l5 [topFrame l5])=some (.next,m5 C0 319 588 w os,l2,⟨143,0,161,40⟩):=by kernel_rfl
theorem Uz (w:World) (os:OsState):segRunT treeTable aw w nM nX 1 1834 (m5 C0 319 588 w os) (piecesOf jA tj l2 ⟨143,0,161,40⟩ [topFrame l5])=some (.next,m5 oK 613 1010 w os,l2,⟨413,0,432,114⟩):=by kernel_rfl
theorem QV (w:World) (os:OsState):topRun treeTable aw w nM nX 2 (m5 oK 613 1010 w os).abs ⟨doneF .next,l2,⟨413,0,432,114⟩,[topFrame l5]⟩=some (fT w os):=by kernel_rfl
theorem O2 (w:World) (os:OsState):topRun treeTable aw w nM nX (12+(1+(2488+(1834+2)))) (fg w os) (topStub aw)=some (fT w os):=by
 refine go_top (Su w os) (piece_block (Qv w os) ?_)
 have h:=piece_app (rest:=jA++[]) (segRun_of (RI w os)) (piece_app (rest:=[]) (segRun_of (Uz w os)) (piece_nil (QV w os)))
 rw [<-PE] at h
 exact h
noncomputable def q:Program:=view aw [0,2,3,5,6,8,9,10,11,12,13,14,15,16,17,18,19,21,22,23,24,25,26,27,28,29,30,31,32,33,34,35,36,37,38,39,40,41,42,43,44,45,46,47,49,50,51,52,53,54,55]
noncomputable def loose:List Str:=[o "PaperError",o "told_objects"]
noncomputable abbrev Xt:Shared->Bool:=fun s=>xlAt q [] s&&recOk [] s
noncomputable def lz:Hook:=⟨Heap,fun s=>s.heap,fun w=>f5 w.params,fun w h=>∀a x,(f5 w.params).get? a=some x->h.get? a=some x,fun _ _ e a x k=>by rw [e];exact k,fun _ _ _ s k a x e=>k _ _ (s a x e)⟩
theorem Zr:importedModules aw.main.body=[]:=by kernel_rfl
theorem Mt:∀s,fenceModules? aw s=some s:=fun s=>by kernel_rfl
theorem J1:∀w:World,(fencedOpening treeTable aw w 8766).map (fun s=>(s.heap,s.gens,s.drawn,s.toks))=some (boot_heap w.params,Array.mk [],boot_drawn,boot_toks):=
 boot_open (by kernel_rfl) (by decide+kernel) Mt
theorem XC:∀w:World,((boot_heap w.params).isNs mainGlobals&&(Array.mk []:Array GenState).size==0,(boot_heap w.params).objs.size,(boot_heap w.params).nsMap mainGlobals "__annotations__")=(true,nM,nX):=fun w=>by kernel_rfl
theorem Wz (w:World) (os:OsState):(staticsOk (importedModules aw.main.body) (boot_heap w.params) (f5 w.params)&&namesBound aw (f5 w.params)&&gensDone (fT w os)&&laidKept (boot_heap w.params) (f5 w.params))=true:=by kernel_rfl
theorem mW {α:Type u} {d6:Type v} {a B6:α} {b iy:d6} (x:a=B6) (y:b=iy):(a,b)=(B6,iy):=by rw [x,y]
theorem IF (w:World) (os:OsState):seen ((recsOf q).map (·.name)) (ownsOf q) [] {fT w os with gens:= #[]}=expectedOf q:=by kernel_rfl
theorem RL (w:World) (os:OsState):(fT w os).heap.bltView=bltViewBooted:=by kernel_rfl
theorem XB (w:World) (os:OsState):((fT w os).heap.keysOk (looseW q loose) ((recsOf q).map (·.name)) ((litsOf q).map (·.1)) ((clssOf q (looseW q loose)).map (·.name))&&(fT w os).heap.accountedOkI (importedModules aw.main.body)&&(fT w os).heap.isNs mainGlobals&&(fT w os).heap.isNs builtinsNs&&tablesOk q (fT w os).heap&&Xt (fT w os)&&(if true then(fT w os).gens.size==0 else !leftWithCleanup (fT w os).gens))=true:=by kernel_rfl
theorem NI (w:World) (os:OsState):tabsOk q (fT w os)=true:=by kernel_rfl
theorem R7 (w:World) (os:OsState):pinSeenD q (drecsOf q) (fT w os)=pinGoodD (drecsOf q):=by kernel_rfl
theorem IP (w:World) (os:OsState):plainSeenE q (looseW q loose) (fT w os)=plainGoodE q (looseW q loose):=by kernel_rfl
theorem HG (w:World) (os:OsState):plainSeenD q loose (fT w os)=plainGoodD q loose:=by kernel_rfl
theorem TH (w:World) (os:OsState):wideSeen q (fT w os)=wideGood q:=by kernel_rfl
theorem M4 (w:World) (os:OsState):clsSeenW q loose (fT w os)=clsGoodW q loose:=by kernel_rfl
theorem MV (w:World) (os:OsState):openSeen q loose (importedModules aw.main.body) Xt true (fT w os)=openGood q loose:=mW (IF w os) (mW (RL w os) (mW (XB w os) (mW (NI w os) (mW (R7 w os) (mW (IP w os) (mW (HG w os) (mW (TH w os) (M4 w os))))))))
theorem left:LeftO aw q loose Xt lz.obs lz.val 8766:=
 LeftO.of_pieces J1 XC O2 (by decide+kernel) fun w=>funext fun os=>Prod.ext (Wz w os) (Prod.ext (MV w os) rfl)
end
end Mine.Hd
end
section
namespace Mine
theorem VU {a b:Nat}:a+1<=b->a<=b:=by grind
theorem gj {a b:Nat}:b+1<=a->a-b=a-(b+1)+1:=by grind
theorem gP {a:Nat}:¬63<(a:Int)->a<=63:=by omega
theorem kc {a:Nat}:0<= -1+((a+1:Nat):Int):=by grind
theorem oY {a:Nat}:(-1+((a+1:Nat):Int)).toNat=a:=by grind
theorem mw {a:Nat}:a<1000->a<=1048576:=by grind
theorem z7 {a b c:Nat}:c+(b+1)<1000->a<=c+1->a+b<1000:=by lia
theorem v4 {a b:Nat}:a+(b+1)<1000->a<1000:=by grind
theorem L1 {a b c d:Nat}:d<=b+1->a<=d+c->a<=b+(c+1):=by grind
theorem Iq {a b:Nat}:b+1<900->a<=0+1->a+b<1000:=by grind
theorem OH {a b:Nat}:b+1<900->a<=0+(b+1)->a<1000:=by grind
theorem V1 {a:Nat}:a+1<500->a<900:=by lia
theorem I4 {a:Nat}:a<=1->a<=1048576:=by lia
theorem Uv {a b:Nat}:b+1<=2->a<500->a+(b+1)<900:=by grind
theorem vD {a:Nat}:a<=a+1:=by grind
theorem IM {a b c:Nat}:a+(c+1)<=b->a<=b:=by grind
theorem O6 {a b c d:Nat}:d+(b+1)<=c->a<=d+1->a+b<=c:=by grind
theorem j9 {a:Nat}:a<900->a<=1048576:=by grind
theorem v6 {a:Nat}:a<400->a<=1048576:=by lia
theorem Sd {a b:Nat}:b<400->a<=b->a<=1048576:=by grind
theorem Od {a:Int}{b:Nat}:a<0\/(b:Int)<a->0<=a->¬a<=(b:Int):=by lia
theorem M1 {a b c:Nat}:c<b->(c:Int)+1=(a:Int)->1<=a/\a<=b:=by omega
theorem UQ {a b:Nat}:1<=a->a<=b->a-1<b:=by omega
theorem XJ {a:Nat}:1<=a->((a-1:Nat):Int)+1=(a:Int):=by lia
theorem Hf {a:Nat}:1<=a+1/\a+1<=a->False:=by grind
theorem UZ {a b:Nat}:a+0=b+1->a=b+1:=by omega
theorem NB {a b c:Nat}:a+(b+1)=c+1->a+1+b=c+1:=by grind
theorem Kh {a:Nat}:1<=a+1:=by grind
theorem X4 {a b:Nat}:a+1<b+1->a<b:=by grind
theorem Iy {a b c:Nat}:a+(c+1)=b+1->a<=b:=by grind
theorem Pe {a:Nat}:1+a=a+1:=by grind
theorem XU:(1:Nat)<=(1:Nat):=by decide
theorem Fa {a:Nat}:a<1000->a<1000000:=by grind
theorem HC {a:Nat}:a<=1048576->a<2^62:=by lia
theorem Rg {a b:Nat}:b<2^62->a<b->a<2^62:=by lia
theorem Ab {a:Nat}:¬(a:Int)<0:=by omega
theorem Xx {a:Nat}:a<800->a+(0+1)<900:=by grind
theorem NK {a b:Nat}:b<900->Min.min a b+(0+1)<=1048576:=by grind
theorem VE {a b:Nat}:b<900->Min.min a b+(0+1)+(b-a)<=1048576:=by grind
theorem Sk {a:Nat}:a<800->a+(0+1+1)<900:=by lia
theorem Te {a b:Nat}:a<=b+1->a+1<=b+1+1:=by lia
theorem Xq {a:Nat}:a<=0+1->a<=1048576:=by grind
theorem WN {a b:Nat}:b<=0+1->a<=b+1->a<=1048576:=by lia
theorem J9 {a b c:Nat}:b<=0+1->c<=b+1->a<=c+1->a<=1048576:=by lia
theorem tq {a:Nat}:a<1000->a<=1048575:=by grind
theorem I5 {a b:Nat}:a+(b+1)<1000->a+1+b<1000:=by lia
theorem Rx {a b:Nat}:a+b<999->a+b<1000:=by lia
theorem OR {a b:Nat}:a+b<999->a<=1048575:=by grind
theorem Fx {a b:Nat}:a<=a+b:=by grind
theorem SS {a b c:Nat}:a<=c->a<=b+c:=by grind
theorem On {a b c:Nat}:a<=c->1<=b->a+1<=b+c:=by grind
theorem Gx {a b:Nat}:b<a->a=a-1+1:=by grind
theorem Nb {a b c d e f g:Nat}:b+c<900->d=c->d=e+f->g<=f->a=g->a<=1048575:=by grind
theorem q5 {a b:Nat}:a+b<900->a<1000:=by grind
theorem L4 {a b c d e f g:Nat}:b+c<900->d=c->d=e+f->g<=f->a=g->a<1000:=by omega
theorem J3 {a b c d:Nat}:c=b->c=d+a->1<=d->a<b:=by grind
theorem Pd {a b c d e:Nat}:a+c<900->d=c->d=e+b->1<=e->a+1+b<900:=by grind
theorem XD {a b c d e f:Nat}:c+d<900->e=d->e=f+b->a<=c+1->1<=f->a+b<900:=by lia
theorem PN {a b c d e:Nat}:c<b+1->d=c->d=e+a->1<=e->a<b:=by grind
theorem Rj {a b c d e f g h i:Nat}:c+d<900->e=d->e=f+g->h<=g->a=h->b<=i->f=i+1->a+b<999:=by grind
theorem HL {a b c d:Nat}:a+c<900->c=d+1->b<=d->a+(0+1)+b<900:=by grind
theorem Io {a b c d e:Nat}:d=c->d=e+b->e=a+1->a+b<c:=by grind
theorem Q8 {a b c d e f:Nat}:a+d<900->e=d->e=f+c->f=b+1->a+(0+1)+(b+c)<900:=by lia
theorem VT {a b c d e f g:Nat}:d+e<900->f=e->f=g+c->a<=d+1->g=b+1->a+(b+c)<900:=by grind
theorem Jm {a b c d e f:Nat}:d<c+1->e=d->e=f+b->f=a+1->a+b<c:=by grind
theorem WU {a b:Nat}:b<900->b=a+1->a<900:=by lia
theorem P6 {a:Nat}:a<900->1+a<1000:=by lia
theorem JV {a b:Nat}:b+1<400->a<=b->a<900:=by grind
theorem Sz {a b:Nat}:b+1<400->a<=b->0+1+a<900:=by lia
theorem Oo {a:Nat}:a+1<400->0+a<900:=by grind
theorem LF {a:Nat}:a+1<400->0+1+a<900:=by grind
theorem T6 {a:Nat}:a+1<400->a<999999:=by lia
theorem XQ {a b:Nat}:a<=b->a+1<=b+1:=by grind
theorem Jx {a b:Nat}:a<=b->a<=b+1:=by grind
theorem OZ {a b:Nat}:a+(b+1)<1000->a<=1048576:=by grind
theorem XZ {a b:Nat}:a+b<900->a<=1048576:=by lia
theorem QP {a b c:Nat}:c+(b+1)<900->a<=c+1->a+b<1000:=by grind
theorem Ge {a b:Nat}:a+(b+1)<900->a<=1048576:=by grind
theorem LK {a b:Nat}:a<b->a<b:=by omega
theorem PC {a b c:Nat}:a<b->a<b+c:=by grind
theorem WK {a b c:Nat}:a<c->a<b+c:=by grind
theorem Nf {a:Nat}:a<900->a<=1048575:=by grind
theorem WV {a:Nat}:a<1000->a<2^64:=by lia
theorem Ll {a:Nat}:0<a->a<1000->¬a=0/\a<1073741824:=by lia
theorem P1 {a:Nat}:a<1000000->(a:Int)<=1048576:=by lia
theorem Jr {a b:Nat}:0<b->a<=b+a-1:=by omega
theorem CZ {a:Nat}:2<=a->0<a:=by grind
theorem Wa {a b:Nat}:a<900->b<100->a+b-1<1000:=by omega
theorem NL {a b:Nat}:2<=b->(a:Int)+(b:Int)-1=((a+b-1:Nat):Int):=by grind
theorem P5 {a:Nat}:a<100->a<1000:=by grind
theorem Eu {a b:Nat}:a<b->a<=b:=by lia
theorem zk {a b:Nat}:a<b->a+1<=b:=by grind
theorem N8 {a b:Nat}:b<1000->a<b->a<1000:=by omega
theorem TD {a b:Nat}:b<1000->a<b->a+1<1000:=by lia
theorem Ep {a b:Nat}:a+(b+1)<900->a+1+b<900:=by omega
theorem XM {a b:Nat}:a+(b+1)<900->a<900:=by omega
theorem ta {a b:Nat}:a+1+b=a+(b+1):=by grind
theorem LG {a b:Nat}:a+0=b->a=b:=by omega
theorem PZ {a b c:Nat}:a+(b+1)=c->a+1+b=c:=by grind
theorem Bd {a:Nat}:0+a=a:=by grind
theorem AV {a:Nat}:a<900->a<1000:=by lia
theorem vh {a b:Nat}:a<b->(a:Int)<(b:Int):=by omega
theorem wG {a b:Nat}:¬a<b->¬(a:Int)<(b:Int):=by omega
theorem PT {a b:Nat}:b+2*a<800->a<=1048576:=by lia
theorem Sy {a b c:Nat}:a=b->c<b->0<a:=by grind
theorem Ov {a b c:Nat}:b+2*c<800->a=c->a<900:=by lia
theorem JN {a:Nat}:a=2\/a=3\/a=4->2<=a:=by grind
theorem U7 {a:Nat}:a=2\/a=3\/a=4->a<100:=by lia
theorem TO {a b c:Nat}:a+2*c<800->0<b/\3*b<=2*c/\b<c->a+b<900:=by lia
theorem W6 {a b c:Nat}:a+2*c<800->0<b/\3*b<=2*c/\b<c->a+b+2*b<800:=by omega
theorem Tl {a b c:Nat}:c<b+1->0<a/\3*a<=2*c/\a<c->a<b:=by lia
theorem O7 {a b c d e:Nat}:0<e/\3*e<=2*d/\e<d->a+2*b<=c+e+2*e->a+2*b<=c+2*d:=by lia
theorem OB {a b c:Nat}:b+2*c<800->0<a/\3*a<=2*c/\a<c->a<=1048576:=by lia
theorem XY {a b c:Nat}:b=2\/b=3\/b=4->a=c->¬b<c->a<=4:=by lia
theorem QH {a b c:Nat}:b=c->a+2*b<=a+2*c:=by grind
theorem wL {a:Nat}:a<250->a+1<300:=by omega
theorem EE {a:Int}{b:Nat}:a<=(b:Int)->a=(b:Int)+1->False:=by lia
theorem Cp {a:Nat}:(a:Int)+1<=(a:Int)->False:=by grind
theorem zA {a:Int}{b:Nat}:a<=((b+1:Nat):Int)->¬a=(b:Int)+1->a<=(b:Int):=by grind
theorem Kv {a:Int}:1<=a->a<=(0:Int)->False:=by lia
theorem MZ {a:Nat}:a<=20->0+a<900:=by grind
theorem RA {a:Nat}:a<=20->a+2*a<800:=by grind
theorem WX {a:Nat}:a<=20->a<1000000:=by lia
theorem Mj {a b c:Nat}:b<=20->a+2*c<=b+2*b->a+1<250:=by lia
theorem JF {a b c:Nat}:a+2*c<=b+2*b->a+1+1<=3*b+6:=by grind
theorem TE {a b c:Nat}:b<=20->a+2*c<=b+2*b->a<1000:=by omega
theorem HJ {a b c:Nat}:b<=20->a+2*c<=b+2*b->a+1<1000:=by grind
theorem W2 {a:Nat}:a=2\/a=3\/a=4->¬(a:Int)<2:=by omega
theorem Ob {a:Nat}:a<=20->a<=1048576:=by grind
theorem Wi {a:Nat}:a<300->a<900:=by grind
theorem It {a b:Nat}:a<=b->0+a<=b:=by grind
theorem Wo {a b:Nat}:a<=b->b<300->a<=1000000:=by lia
theorem BZ:(10:Nat)<=(1048576:Nat):=by decide
theorem CB {a:Nat}:a<10->a<500:=by lia
theorem Cs {a b:Nat}:a<=b->b<300->a<900:=by grind
theorem Dv {a b c:Nat}:b<=c->c<300->a<b->a<500:=by lia
theorem Fj {a:Nat}:a<900->1+a<=1048576:=by lia
theorem HE {a b:Nat}:a<b->1<=(a:Int)+1/\(a:Int)+1<=(b:Int):=by lia
theorem Ss {a:Nat}{b:Int}:1<=b/\b<=(a:Int)->¬(a:Int)+1<b:=by lia
theorem A4 {a b c:Nat}:b<=c->c<300->a<=b->a<900:=by grind
theorem SD {a:Nat}{b:Int}:1<=b/\b<=(a:Int)->0<a:=by grind
theorem MH {a b:Nat}:b<64->a=b->a<=1048576:=by grind
theorem O4 {a:Nat}:a<64->a<=1048576:=by grind
theorem V7 {a b c:Nat}:b<=c->c<300->a<=b->0+a<900:=by grind
theorem vr {a b:Nat}:¬b<a->a<=b:=by omega
theorem QY {a b c:Nat}:¬a<b->a<b+c->a-b<c:=by lia
theorem R9 {a:Nat}:1<=a->a=a-1+1:=by omega
theorem T2 {a b:Nat}:b+1<=a->a=a-1+1:=by grind
theorem IY {a b c:Nat}:b<900->a+(c+1)<=b->a<900:=by grind
theorem WJ {a b c d:Nat}:a+(d+1)<=c->b<=d->a+1+b<=c:=by grind
theorem NE {a b c:Nat}:c+1<=b+1->a<=c->a<=b:=by lia
theorem Vt {a b c:Nat}:b<900->a+(c+1)<=b->a<=1048576:=by grind
theorem Ub {a b c:Nat}:b+(c+1)<=a->¬(a:Int)<(b:Int):=by grind
theorem Ti {a:Int}:0<a->0<=a:=by grind
theorem Uh {a:Int}:0<a->a≠0:=by grind
theorem Wl {a:Int}:0<a->¬a=0:=by grind
theorem UD {a:Int}:0<a->a<1000->¬a=0/\a.natAbs<1073741824:=by grind
theorem Rq {a:Int}:a.natAbs<1000000->a.natAbs<2^64:=by lia
theorem Di {a:Nat}:a<=40->a<=1048576:=by lia
theorem H7 {a:Nat}:((a+1:Nat):Int)>0:=by omega
theorem Ng {a b:Nat}{c:Int}:c<(b:Int)->c=(a:Int)->a<b:=by lia
theorem Sw {a:Int}{b:Nat}:0<=a/\a<(b:Int)->a.toNat<b:=by grind
theorem Nv {a:Int}{b:Nat}:0<=a/\a<(b:Int)->a=(↑a.toNat:Int):=by grind
theorem B7 {a:Nat}:0<a->0<(a:Int):=by omega
theorem NA {a b:Nat}{c:Int}:a<b/\10^18<=c->(a:Int)<(b:Int):=by omega
theorem BQ {a:Nat}:a<900->(a:Int)<1000:=by omega
theorem Jb:(0:Int)<(2147483587:Int):=by decide
theorem B9:(0:Int)<(2147483629:Int):=by decide
theorem QL {a:Int}:a<2147483629->a<=2147483629:=by lia
theorem NF {a:Nat}:a<900->2*(a:Int)+7207<=10000:=by lia
theorem Eh {a:Nat}:0<=2*(a:Int)+7207:=by grind
theorem Tv:(0:Int)<=(2147483629:Int):=by decide
theorem VM {a:Nat}:a<900->20947*(a:Int)<=20947000:=by lia
theorem Xy {a:Nat}:a<900->(a:Int)<=1000:=by lia
theorem xa {a:Nat}:0<=(a:Int):=by grind
theorem M9:(0:Int)<=(20947000:Int):=by decide
theorem Sf {a:Nat}:0<=20947*(a:Int):=by grind
theorem Vk:(0:Int)<=(5:Int):=by decide
theorem Hx:(5:Int)<(64:Int):=by decide
theorem Xm {a:Int}{b:Nat}:b<900->0<=a->a<2147483587->(a+20947*(b:Int)+3571).natAbs<2^64:=by omega
theorem Sb {a:Nat}:a<900->(2*(a:Int)+7207).natAbs<1000000:=by omega
theorem HO {a:Nat}:a<900->(a:Int).natAbs<1000000:=by omega
theorem Jf:(0:Int)<=(3:Int):=by decide
theorem XT:(3:Int)<(64:Int):=by decide
theorem SK {a b:Int}:a<=2147483629*10000->0<=a->b<=20947000*1000->0<=b->(a+b+31).natAbs<2^64:=by grind
theorem Re:(0:Int)<(2147483579:Int):=by decide
theorem wg {a:Nat}:a<100->a<=1048576:=by grind
theorem Jh {a:Nat}:Min.min 40 a<=1048576:=by lia
theorem T1 {a:Nat}:a<800->a<900:=by lia
theorem HI:(0:Nat)<(9:Nat):=by decide
theorem Mw:(9:Nat)<(900:Nat):=by decide
theorem R3 {a b:Nat}:b<800->a<=b+1->a<900:=by lia
theorem x9:(0:Nat)<(3:Nat):=by decide
theorem xG:(3:Nat)<(900:Nat):=by decide
theorem Wu {a b c:Nat}:c<=b+1->a<=c+1->a<=b+2:=by lia
theorem RT {a:Nat}:¬a=0->¬a=0:=by omega
theorem Wx {a b:Nat}:a+2*(b+1)<800->a<800:=by grind
theorem Ru {a b c:Nat}:c+2*(b+1)<800->a<=c+2->a+2*b<800:=by grind
theorem Nn {a b c d:Nat}:d<=b+2->a<=d+2*c->a<=b+2*(c+1):=by lia
theorem Ry {a b c:Nat}:b<=c->c<300->a<=b->a<300:=by omega
theorem y2 {a:Nat}:a<300->a<=1048576:=by grind
theorem TM {a:Nat}:a<300->a<1000000:=by lia
theorem XV {a:Nat}:a<700->a<800:=by lia
theorem Rc {a b:Nat}:b<700->a<=b+2->a<900:=by lia
theorem Xo {a:Nat}:0<a+1:=by grind
theorem RF {a:Nat}:a<100->a+1<900:=by lia
theorem yO {a b c:Nat}:a<c+1->b=c->a<=b:=by grind
theorem Pm {a b:Nat}:Min.min a b+(b-a+1)=b+1:=by grind
theorem MC {a:Nat}:a<100->a+1<=1048576:=by grind
theorem SM {a b c:Nat}:a<c+1->b=c->Min.min a b=a:=by lia
theorem Mf {a b:Nat}:a=b->a<=b:=by lia
theorem RM {a b c:Nat}:c<=b+2->a<=c+1->a<=b+3:=by lia
theorem Ye {a b c:Nat}:c<100->b=c->Min.min a b+(0+1)<=1048576:=by grind
theorem L9 {a b c:Nat}:c<100->b=c->Min.min a b+(0+1)+(b-a)<=1048576:=by grind
theorem OX {a b:Nat}:a+(b+1)<200->a<250:=by grind
theorem Xc {a b:Nat}:a+3*(b+1)<600->a<700:=by grind
theorem KU {a b:Nat}:a+(b+1)<90->a<100:=by grind
theorem Uj {a b:Nat}:a+(b+1)<200->a+1+b<200:=by omega
theorem Mk {a b c:Nat}:c+3*(b+1)<600->a<=c+3->a+3*b<600:=by grind
theorem Lp {a b c:Nat}:c+(b+1)<90->a=c+1->a+b<90:=by omega
theorem MI {a b c d:Nat}:d<=b+3->a<=d+3*c->a<=b+3*(c+1):=by grind
theorem QF {a:Nat}:Min.min 40 a<=40:=by lia
theorem HV:(0:Nat)<(900:Nat):=by decide
theorem Iv {a:Nat}:a<=0+1->a<900:=by grind
theorem ML:(0:Nat)<(5:Nat):=by decide
theorem ND:(5:Nat)<(900:Nat):=by decide
theorem HS {a b c:Nat}:c<=0+1->b<5->a<=c+1->a+2*b<800:=by grind
theorem B4 {a:Nat}:a<3->2+a=2\/2+a=3\/2+a=4:=by lia
theorem RS {a b:Nat}:b<5->a=b->a<=20:=by lia
theorem S0 {a b c d:Nat}:b<=0+1->c<5->d<=b+1->a<=d+2*c->a<900:=by grind
theorem VP:(0:Nat)<(7:Nat):=by decide
theorem Tx:(7:Nat)<(900:Nat):=by decide
theorem Xb {a b c d:Nat}:c<5->d=c->a<=3*d+6->b<7->a+b<200:=by lia
theorem Td {a b c d e f:Nat}:c<=0+1->d<5->e<=c+1->f<=e+2*d->b<7->a<=f+1->a+3*b<600:=by grind
theorem WE {a b c:Nat}:c<5->a=c->b<7->a+b<90:=by grind
theorem HT {a b c d:Nat}:b<5->c=b->d<7->a=c+d->a<=20:=by grind
theorem Vu {a b c d e f g:Nat}:b<=0+1->c<5->d<=b+1->e<=d+2*c->f<7->g<=e+1->a<=g+3*f->a<900:=by grind
theorem R1 {a b c d e f g h:Nat}:b<=0+1->c<5->d<=b+1->e<=d+2*c->f<7->g<=e+1->h<=g+3*f->a<=h+1->a<900:=by grind
theorem N5:(0:Nat)<(2:Nat):=by decide
theorem Ql:(2:Nat)<(900:Nat):=by decide
theorem AM {a b c d:Nat}:c<5->d=c->a<=3*d+6->b<7->a+b<64:=by omega
theorem VW {a:Nat}:-1-(a:Int)<0:=by omega
theorem OO {a b c:Nat}:a=b->(a:Int)<(b:Int)+1+(c:Int):=by grind
theorem LY {a b c d:Nat}:b<5->c=b->d<7->a=c+d->a<=1048576:=by grind
theorem Jv {a:Nat}:a<=63->a<100:=by lia
theorem Js {a:Nat}:a<5->a<1000000:=by lia
theorem Kr {a:Nat}:a<5->a<=1048576:=by grind
theorem HA {a:Nat}:a<7->a<1000000:=by lia
theorem RQ {a:Nat}:a=0+a:=by grind
theorem K6 {a b c:Nat}:a+(b+c)=a+b+c:=by grind
theorem N6 {a:Nat}:a+0=1*a:=by grind
theorem R5 {a:Nat}:0=0*a:=by grind
theorem RK {a:Int}{b:Nat}:a+1+(b:Int)=a+((b:Int)+1):=by grind
theorem KT {a:Int}{b c:Nat}:a+(b:Int)+(c:Int)=a+((b:Int)+(c:Int)):=by grind
theorem VA {a:Nat}{b:Int}:1<=b/\b<=(0:Int)->a<=0:=by lia
theorem K5 {a:Int}{b:Nat}:1<=a/\a<=((b+1:Nat):Int)->a≠(b:Int)+1->1<=a/\a<=(b:Int):=by grind
theorem JL {a:Int}{b c:Nat}:c<b->(c:Int)+1=a->1<=a/\a<=(b:Int):=by grind
theorem RU {a b:Nat}:a<=b->b<300->a<400:=by lia
theorem Xd {a b:Nat}:b<=a->a<300->a+b<=1048576:=by grind
theorem NQ {a b c:Nat}:a<b+c->¬a<b->a-b<c:=by grind
theorem RN {a b c d:Nat}:¬a<b->a-b=c+d->a=b+c+d:=by grind
theorem X8 {a b:Nat}:a<=b->b=0->a=0:=by grind
theorem T7 {a b c:Nat}:b<300->a<=c->c+1<=b->a<900:=by grind
theorem M2 {a b:Nat}:¬b=0->a=b->a-1+1=a:=by grind
theorem VO {a b:Nat}:¬b=0->a=b->a-1<b:=by lia
theorem AR {a b:Nat}:a<=b->¬a=b->a<b:=by omega
theorem Og {a b c d:Nat}:c<b/\(d=0/\a<b\/d=1/\a=b)->(a:Int)<=(b:Int):=by lia
theorem MT {a b c:Nat}:c<b/\(0=0/\a<b\/0=1/\a=b)->¬(a:Int)=(b:Int):=by grind
theorem Q7 {a b c:Nat}:c<b/\(1=0/\a<b\/1=1/\a=b)->(a:Int)=(b:Int):=by grind
theorem Ue {a b c:Nat}:c<a/\(0=0/\b<a\/0=1/\b=a)->¬(a:Int)-1<(b:Int):=by lia
theorem WL {a b:Nat}:b+0=a->(a:Int)=(b:Int):=by grind
theorem RY {a b c:Nat}:c<a/\(1=0/\b<a\/1=1/\b=a)->(a:Int)-1<(b:Int):=by omega
theorem U8 {a b c:Nat}:b+1=c->b<a/\(1=0/\c<a\/1=1/\c=a)->(a:Int)-1=(b:Int):=by grind
theorem R0 {a b c:Nat}:c+0=b->a=c->a=b:=by grind
theorem Wb {a b c:Nat}:c+1=b->a=c+1->a=b:=by grind
theorem Gs {a:Int}{b:Nat}:1<=a/\a<=(b:Int)->a=(b:Int)+1->False:=by omega
theorem UF {a:Int}{b:Nat}:a=(b:Int)+1->a<=(b:Int)->False:=by lia
theorem Jy {a:Nat}:a<250->a<1000:=by grind
theorem Ts {a:Nat}:a<10->a<800:=by lia
theorem HB {a b c:Nat}:b<250->c<=b->a<=c->a<900:=by lia
theorem Rl {a:Nat}:a<250->a+1<=1048576:=by lia
theorem XI {a b:Nat}:a<=b->a+(b-a)=b:=by grind
theorem Lf {a b:Nat}:b<a->0<(a:Int)-(b:Int):=by omega
theorem H9 {a b:Nat}:(a:Int)-((b:Int)+1)=(a:Int)-(b:Int)-1:=by grind
theorem VV {a:Nat}:(a:Int)-(a:Int)<=0:=by grind
theorem Ph {a b:Nat}:b<a->(a:Int)-1-(b:Int)=((a-1-b:Nat):Int):=by grind
theorem FN {a b:Nat}:(a:Int)-1-(b:Int)=((a-1-b:Nat):Int)->a-1-b<a:=by omega
theorem K1 {a:Nat}:(a:Int)-1-(a:Int)= -1:=by grind
theorem Nd {a b:Int}:a<b->a<=b:=by lia
theorem XG {a b c:Int}:a<c->c<=b->a<=b:=by lia
theorem I7 {a b:Int}:¬b<a->a<=b:=by lia
theorem Qk {a:Nat}:a<64->a<=16777216:=by lia
theorem Lw {a b:Nat}:b-a=0->a<=b->a=b:=by grind
theorem Sc {a b c:Nat}:b-a=c+1->a<b:=by omega
theorem Q3 {a b:Nat}:Min.min a b<=b:=by lia
theorem MN {a b c d:Nat}:c<=b->d<=c->a<=d->a<=b:=by lia
theorem OF {a b c:Nat}:a-b=c+1->a-(b+1)=c:=by omega
theorem Dp {a:Nat}:a<1000->a+(0+1)<=16777216+1:=by grind
theorem Qt {a b c:Nat}:c+(b+1)<1000->a=c+1->a+b<1000:=by grind
theorem Pu {a:Nat}:a<900->0+a<1000:=by omega
theorem Qa {a b:Nat}:a<b+(0+1)->¬a<b->a=b:=by grind
theorem W1 {a:Nat}:a=0->a<=a-1:=by lia
theorem Hz {a:Nat}:0<a->a-1<a:=by lia
theorem Vz {a:Nat}:0<a->a-1+1=a:=by lia
theorem J4 {a b c:Nat}:b<=1048576->c=b->a<c->(a:Int)<2^63-1:=by lia
theorem T8 {a b:Nat}:a+40<b->a+1+32<b:=by lia
theorem Pv {a b c:Nat}:a+16*c+400<b->a+40<b:=by grind
theorem NM {a:Int}:-1048576<=a-> -2^62<=a:=by lia
theorem Ni {a:Int}:a<=1048576->a<2^62:=by omega
theorem Wp {a b:Nat}:b<a->a-1-b<a:=by grind
theorem Tb {a b:Nat}:b<a->a-(b+1)+1<a-b+1:=by lia
theorem IC {a b c d e:Nat}:c<=d->a<=e->e<c->d<=b->a<=b:=by lia
theorem Tu {a b:Nat}:a<=b->a<=b:=by omega
theorem Lc {a b:Nat}:a<=b->¬a<b->a=b:=by lia
theorem CC {a b c d e f:Nat}:d+e<=f->a=d->b=e->f<=c->a+b<=c:=by lia
theorem Ut {a b:Nat}:b<a->a-(b+1)<a-b:=by omega
theorem Xk {a:Nat}:a=1->a<1000:=by lia
theorem Qz {a:Nat}:a%2=0->(a+1)%2=1:=by lia
theorem Xz {a b c:Nat}:a+2*(b+1)+8<c->a+2*b+8<c:=by lia
theorem Uf {a b c:Nat}:a+16*(b+1)+400<c->a+16*b+400<c:=by lia
theorem TL {a:Nat}:a%2=0->a%2=1->False:=by lia
theorem Jd {a:Nat}:a%2=1->(a+2)%2=1:=by grind
theorem JD {a b c:Nat}:a+2*(b+2)+8<c->a+1+2*b+8<c:=by lia
theorem Wg {a b c:Nat}:a+16*(b+2)+400<c->a+3+16*b+400<c:=by lia
theorem JQ {a:Int}:0<=a->¬a<0:=by omega
theorem Ih {a:Int}{b:Nat}:a.toNat<b->¬a<0->0<=a/\a<(b:Int):=by omega
theorem HW {a:Int}:¬0<=a->a<0:=by lia
theorem IA {a:Int}{b:Nat}:0<=a+(b:Int)->a<0->0<=a+(b:Int)/\a+(b:Int)<(b:Int):=by lia
theorem MS {a:Int}{b:Nat}:0<=a+(b:Int)->a<0->(a+(b:Int)).toNat<b:=by grind
theorem S9 {a:Int}:a.natAbs<2^62-> -2^63<=a:=by omega
theorem TR {a:Int}:a.natAbs<2^62->a<2^63:=by grind
theorem JI {a:Nat}{b:Int}:0<=b+(a:Int)-> -(a:Int)<=b:=by lia
theorem IW {a b:Nat}:a+b.succ=a+1+b:=by grind
theorem Pa {a b:Nat}:¬b<a->a<=b+1:=by grind
theorem I0 {a b:Nat}:a<=a+2*(b+2)+8:=by grind
end Mine
end
section
open PySem
namespace Mine
@[elab_as_elim] theorem B {α:Sort u} {a b:α} {p:α->Prop} (e:a=b) (h:p b):p a:=by cases e;exact h
@[elab_as_elim] theorem bu {α:Sort u} {a b:α} {p:α->Prop} (e:a=b) (h:p a):p b:=by cases e;exact h
theorem lr {G:Prop} (h:false=true):G:=Bool.noConfusion h
theorem Z {α:Type u} {a:α} {G:Prop} (h:none=some a):G:=nomatch h
theorem h3 {α:Type u} {a:α} {G:Prop} (h:some a=none):G:=nomatch h
theorem oD {α:Type u} {a b:α} {G:Prop} (h:some a=some b) (k:b=a->G):G:=k (Option.some.inj h).symm
theorem ym {α:Type u} {d6:Type v} {a c:α} {b d:d6} {G:Prop} (h:some (a,b)=some (c,d)) (k:c=a->d=b->G):G:=k (congrArg Prod.fst (Option.some.inj h)).symm (congrArg Prod.snd (Option.some.inj h)).symm
@[elab_as_elim] theorem cC {α:Type u} {a b:α} {G:α->Prop} (h:some a=some b) (k:G a):G b:=by cases h;exact k
@[elab_as_elim] theorem b6 {α:Type u} {d6:Type v} {a c:α} {b d:d6} {G:α->d6->Prop} (h:some (a,b)=some (c,d)) (k:G a b):G c d:=by cases h;exact k
theorem cH {b3:Type w} {c:Prop} [Decidable c] {a:Option b3} {z:b3} {G:Prop} (h:(if c then a else none)=some z) (k:c->a=some z->G) (k0:(none:Option b3)=some z->G):G:=by
 by_cases q:c
 ·exact k q ((if_pos q).symm.trans h)
 ·exact k0 ((if_neg q).symm.trans h)
theorem yQ {b3:Type w} {c:Prop} [Decidable c] {a:Option b3} {z:b3} {G:Prop} (h:(if c then none else a)=some z) (k:¬c->a=some z->G):G:=by
 by_cases q:c
 ·exact Z ((if_pos q).symm.trans h)
 ·exact k q ((if_neg q).symm.trans h)
theorem g2 {b3:Type w} {c:Prop} [Decidable c] {a b:Option b3} {z:b3} {G:Prop} (h:(if c then a else b)=some z) (k:c->a=some z->G) (cY:¬c->b=some z->G):G:=by
 by_cases q:c
 ·exact k q ((if_pos q).symm.trans h)
 ·exact cY q ((if_neg q).symm.trans h)
noncomputable def ob {α:Type u} {d6:Type v} {b3:Type w} (x:Option (α×d6)) (f:α->d6->Option b3):Option b3:=match x with
 |some (a,b)=>f a b
 |none=>none
noncomputable def br {α:Type u} {b3:Type w} (x:Option α) (f:α->Option b3):Option b3:=match x with
 |some a=>f a
 |none=>none
theorem bp {α:Type u} {b3:Type w} {x:Option α} {f:α->Option b3} {a:α} {o:Option b3} (h:x=some a) (k:f a=o):br x f=o:=by refine B h ?_;exact k
theorem b5 {α:Type u} {d6:Type v} {b3:Type w} {x:Option (α×d6)} {f:α->d6->Option b3} {z:b3} {G:Prop} (h:ob x f=some z) (k:∀a b,x=some (a,b)->f a b=some z->G) (k0:(none:Option b3)=some z->G):G:=by
 cases x with
 |none=>exact k0 h
 |some p=>exact k p.1 p.2 rfl h
theorem bG {α:Type u} {b3:Type w} {x:Option α} {f:α->Option b3} {z:b3} {G:Prop} (h:br x f=some z) (k:∀a,x=some a->f a=some z->G) (k0:(none:Option b3)=some z->G):G:=by
 cases x with
 |none=>exact k0 h
 |some a=>exact k a rfl h
noncomputable def fj {α:Type u} {d6:Type v} {b3:Type w} (x:Option α) (y:Option d6) (f:α->d6->Option b3):Option b3:=br x fun a=>br y fun b=>f a b
theorem hC {α:Type u} {d6:Type v} {b3:Type w} {x:Option α} {y:Option d6} {f:α->d6->Option b3} {z:b3} {G:Prop} (h:fj x y f=some z) (k:∀a b,x=some a->y=some b->f a b=some z->G) (k0:(none:Option b3)=some z->G):G:=
 bG h (fun a bz q=>bG q (fun b ah q=>k a b bz ah q) k0) k0
theorem lb {α:Type u} {d6:Type v} {b3:Type w} {a:α} {b:d6} {f:α->d6->Option b3}:fj (some a) (some b) f=f a b:=rfl
theorem kA {α:Type u} {d6:Type v} {b3:Type w} {a:α} {b:d6} {f:α->d6->Option b3}:ob (some (a,b)) f=f a b:=rfl
theorem la {α:Type u} {b3:Type w} {a:α} {f:α->Option b3}:br (some a) f=f a:=rfl
theorem cl {A ap:Prop} {G:Prop} (h:A/\ap) (k:A->ap->G):G:=k h.1 h.2
theorem ef {A ap C:Prop} {G:Prop} (h:A/\ap/\C) (k:A->ap->C->G):G:=k h.1 h.2.1 h.2.2
theorem oF {A ap C D:Prop} {G:Prop} (h:A/\ap/\C/\D) (k:A->ap->C->D->G):G:=k h.1 h.2.1 h.2.2.1 h.2.2.2
theorem jY {A ap C D E:Prop} {G:Prop} (h:A/\ap/\C/\D/\E) (k:A->ap->C->D->E->G):G:=k h.1 h.2.1 h.2.2.1 h.2.2.2.1 h.2.2.2.2
theorem Ml {A ap C D E F:Prop} {G:Prop} (h:A/\ap/\C/\D/\E/\F) (k:A->ap->C->D->E->F->G):G:=k h.1 h.2.1 h.2.2.1 h.2.2.2.1 h.2.2.2.2.1 h.2.2.2.2.2
theorem bT {cM:Sort _} {A:cM->Prop} {G:Prop} (h:∃x0,A x0) (k:∀x0,A x0->G):G:=h.elim k
theorem bb {cM:Sort _} {A ap:cM->Prop} {G:Prop} (h:∃x0,A x0/\ap x0) (k:∀x0,A x0->ap x0->G):G:=h.elim fun x h=>cl h (k x)
theorem et {cM:Sort _} {A ap C:cM->Prop} {G:Prop} (h:∃x0,A x0/\ap x0/\C x0) (k:∀x0,A x0->ap x0->C x0->G):G:=h.elim fun x h=>ef h (k x)
theorem gn {cM:Sort _} {A ap C D:cM->Prop} {G:Prop} (h:∃x0,A x0/\ap x0/\C x0/\D x0) (k:∀x0,A x0->ap x0->C x0->D x0->G):G:=h.elim fun x h=>oF h (k x)
theorem Ea {cM:Sort _} {A ap C D E:cM->Prop} {G:Prop} (h:∃x0,A x0/\ap x0/\C x0/\D x0/\E x0) (k:∀x0,A x0->ap x0->C x0->D x0->E x0->G):G:=h.elim fun x h=>jY h (k x)
theorem U9 {cM:Sort _} {A ap C D E F:cM->Prop} {G:Prop} (h:∃x0,A x0/\ap x0/\C x0/\D x0/\E x0/\F x0) (k:∀x0,A x0->ap x0->C x0->D x0->E x0->F x0->G):G:=h.elim fun x h=>Ml h (k x)
theorem jf {cM:Sort _} {dp:Sort _} {A:cM->dp->Prop} {G:Prop} (h:∃x0,∃aM,A x0 aM) (k:∀x0 aM,A x0 aM->G):G:=h.elim fun x h=>bT h (k x)
theorem hw {cM:Sort _} {dp:Sort _} {A ap:cM->dp->Prop} {G:Prop} (h:∃x0,∃aM,A x0 aM/\ap x0 aM) (k:∀x0 aM,A x0 aM->ap x0 aM->G):G:=h.elim fun x h=>bb h (k x)
theorem dP {cM:Sort _} {dp:Sort _} {A ap C:cM->dp->Prop} {G:Prop} (h:∃x0,∃aM,A x0 aM/\ap x0 aM/\C x0 aM) (k:∀x0 aM,A x0 aM->ap x0 aM->C x0 aM->G):G:=h.elim fun x h=>et h (k x)
theorem gr {cM:Sort _} {dp:Sort _} {A ap C D:cM->dp->Prop} {G:Prop} (h:∃x0,∃aM,A x0 aM/\ap x0 aM/\C x0 aM/\D x0 aM) (k:∀x0 aM,A x0 aM->ap x0 aM->C x0 aM->D x0 aM->G):G:=h.elim fun x h=>gn h (k x)
theorem qu {cM:Sort _} {dp:Sort _} {A ap C D E:cM->dp->Prop} {G:Prop} (h:∃x0,∃aM,A x0 aM/\ap x0 aM/\C x0 aM/\D x0 aM/\E x0 aM) (k:∀x0 aM,A x0 aM->ap x0 aM->C x0 aM->D x0 aM->E x0 aM->G):G:=h.elim fun x h=>Ea h (k x)
theorem uc {cM:Sort _} {dp:Sort _} {A ap C D E F:cM->dp->Prop} {G:Prop} (h:∃x0,∃aM,A x0 aM/\ap x0 aM/\C x0 aM/\D x0 aM/\E x0 aM/\F x0 aM) (k:∀x0 aM,A x0 aM->ap x0 aM->C x0 aM->D x0 aM->E x0 aM->F x0 aM->G):G:=h.elim fun x h=>U9 h (k x)
theorem p3 {cM:Sort _} {dp:Sort _} {en:Sort _} {A:cM->dp->en->Prop} {G:Prop} (h:∃x0,∃aM,∃a2,A x0 aM a2) (k:∀x0 aM a2,A x0 aM a2->G):G:=h.elim fun x h=>jf h (k x)
theorem vd {cM:Sort _} {dp:Sort _} {en:Sort _} {A ap:cM->dp->en->Prop} {G:Prop} (h:∃x0,∃aM,∃a2,A x0 aM a2/\ap x0 aM a2) (k:∀x0 aM a2,A x0 aM a2->ap x0 aM a2->G):G:=h.elim fun x h=>hw h (k x)
theorem dz {cM:Sort _} {dp:Sort _} {en:Sort _} {A ap C:cM->dp->en->Prop} {G:Prop} (h:∃x0,∃aM,∃a2,A x0 aM a2/\ap x0 aM a2/\C x0 aM a2) (k:∀x0 aM a2,A x0 aM a2->ap x0 aM a2->C x0 aM a2->G):G:=h.elim fun x h=>dP h (k x)
theorem ou {cM:Sort _} {dp:Sort _} {en:Sort _} {A ap C D:cM->dp->en->Prop} {G:Prop} (h:∃x0,∃aM,∃a2,A x0 aM a2/\ap x0 aM a2/\C x0 aM a2/\D x0 aM a2) (k:∀x0 aM a2,A x0 aM a2->ap x0 aM a2->C x0 aM a2->D x0 aM a2->G):G:=h.elim fun x h=>gr h (k x)
theorem uV {cM:Sort _} {dp:Sort _} {en:Sort _} {A ap C D E:cM->dp->en->Prop} {G:Prop} (h:∃x0,∃aM,∃a2,A x0 aM a2/\ap x0 aM a2/\C x0 aM a2/\D x0 aM a2/\E x0 aM a2) (k:∀x0 aM a2,A x0 aM a2->ap x0 aM a2->C x0 aM a2->D x0 aM a2->E x0 aM a2->G):G:=h.elim fun x h=>qu h (k x)
theorem p0 {cM:Sort _} {dp:Sort _} {en:Sort _} {A ap C D E F:cM->dp->en->Prop} {G:Prop} (h:∃x0,∃aM,∃a2,A x0 aM a2/\ap x0 aM a2/\C x0 aM a2/\D x0 aM a2/\E x0 aM a2/\F x0 aM a2) (k:∀x0 aM a2,A x0 aM a2->ap x0 aM a2->C x0 aM a2->D x0 aM a2->E x0 aM a2->F x0 aM a2->G):G:=h.elim fun x h=>uc h (k x)
theorem jn {cM:Sort _} {dp:Sort _} {en:Sort _} {f7:Sort _} {A:cM->dp->en->f7->Prop} {G:Prop} (h:∃x0,∃aM,∃a2,∃b0,A x0 aM a2 b0) (k:∀x0 aM a2 b0,A x0 aM a2 b0->G):G:=h.elim fun x h=>p3 h (k x)
theorem pH {cM:Sort _} {dp:Sort _} {en:Sort _} {f7:Sort _} {A ap:cM->dp->en->f7->Prop} {G:Prop} (h:∃x0,∃aM,∃a2,∃b0,A x0 aM a2 b0/\ap x0 aM a2 b0) (k:∀x0 aM a2 b0,A x0 aM a2 b0->ap x0 aM a2 b0->G):G:=h.elim fun x h=>vd h (k x)
theorem sH {cM:Sort _} {dp:Sort _} {en:Sort _} {f7:Sort _} {A ap C:cM->dp->en->f7->Prop} {G:Prop} (h:∃x0,∃aM,∃a2,∃b0,A x0 aM a2 b0/\ap x0 aM a2 b0/\C x0 aM a2 b0) (k:∀x0 aM a2 b0,A x0 aM a2 b0->ap x0 aM a2 b0->C x0 aM a2 b0->G):G:=h.elim fun x h=>dz h (k x)
theorem xe {cM:Sort _} {dp:Sort _} {en:Sort _} {f7:Sort _} {A ap C D:cM->dp->en->f7->Prop} {G:Prop} (h:∃x0,∃aM,∃a2,∃b0,A x0 aM a2 b0/\ap x0 aM a2 b0/\C x0 aM a2 b0/\D x0 aM a2 b0) (k:∀x0 aM a2 b0,A x0 aM a2 b0->ap x0 aM a2 b0->C x0 aM a2 b0->D x0 aM a2 b0->G):G:=h.elim fun x h=>ou h (k x)
theorem BO {cM:Sort _} {dp:Sort _} {en:Sort _} {f7:Sort _} {A ap C D E:cM->dp->en->f7->Prop} {G:Prop} (h:∃x0,∃aM,∃a2,∃b0,A x0 aM a2 b0/\ap x0 aM a2 b0/\C x0 aM a2 b0/\D x0 aM a2 b0/\E x0 aM a2 b0) (k:∀x0 aM a2 b0,A x0 aM a2 b0->ap x0 aM a2 b0->C x0 aM a2 b0->D x0 aM a2 b0->E x0 aM a2 b0->G):G:=h.elim fun x h=>uV h (k x)
theorem Aq {cM:Sort _} {dp:Sort _} {en:Sort _} {f7:Sort _} {A ap C D E F:cM->dp->en->f7->Prop} {G:Prop} (h:∃x0,∃aM,∃a2,∃b0,A x0 aM a2 b0/\ap x0 aM a2 b0/\C x0 aM a2 b0/\D x0 aM a2 b0/\E x0 aM a2 b0/\F x0 aM a2 b0) (k:∀x0 aM a2 b0,A x0 aM a2 b0->ap x0 aM a2 b0->C x0 aM a2 b0->D x0 aM a2 b0->E x0 aM a2 b0->F x0 aM a2 b0->G):G:=h.elim fun x h=>p0 h (k x)
theorem sJ {cM:Sort _} {dp:Sort _} {en:Sort _} {f7:Sort _} {mj:Sort _} {A:cM->dp->en->f7->mj->Prop} {G:Prop} (h:∃x0,∃aM,∃a2,∃b0,∃ev,A x0 aM a2 b0 ev) (k:∀x0 aM a2 b0 ev,A x0 aM a2 b0 ev->G):G:=h.elim fun x h=>jn h (k x)
theorem xE {cM:Sort _} {dp:Sort _} {en:Sort _} {f7:Sort _} {mj:Sort _} {A ap:cM->dp->en->f7->mj->Prop} {G:Prop} (h:∃x0,∃aM,∃a2,∃b0,∃ev,A x0 aM a2 b0 ev/\ap x0 aM a2 b0 ev) (k:∀x0 aM a2 b0 ev,A x0 aM a2 b0 ev->ap x0 aM a2 b0 ev->G):G:=h.elim fun x h=>pH h (k x)
theorem Zh {cM:Sort _} {dp:Sort _} {en:Sort _} {f7:Sort _} {mj:Sort _} {A ap C D:cM->dp->en->f7->mj->Prop} {G:Prop} (h:∃x0,∃aM,∃a2,∃b0,∃ev,A x0 aM a2 b0 ev/\ap x0 aM a2 b0 ev/\C x0 aM a2 b0 ev/\D x0 aM a2 b0 ev) (k:∀x0 aM a2 b0 ev,A x0 aM a2 b0 ev->ap x0 aM a2 b0 ev->C x0 aM a2 b0 ev->D x0 aM a2 b0 ev->G):G:=h.elim fun x h=>xe h (k x)
theorem uy {cM:Sort _} {dp:Sort _} {en:Sort _} {f7:Sort _} {mj:Sort _} {xC:Sort _} {A:cM->dp->en->f7->mj->xC->Prop} {G:Prop} (h:∃x0,∃aM,∃a2,∃b0,∃ev,∃mh,A x0 aM a2 b0 ev mh) (k:∀x0 aM a2 b0 ev mh,A x0 aM a2 b0 ev mh->G):G:=h.elim fun x h=>sJ h (k x)
theorem Jl {cM:Sort _} {dp:Sort _} {en:Sort _} {f7:Sort _} {mj:Sort _} {xC:Sort _} {A ap:cM->dp->en->f7->mj->xC->Prop} {G:Prop} (h:∃x0,∃aM,∃a2,∃b0,∃ev,∃mh,A x0 aM a2 b0 ev mh/\ap x0 aM a2 b0 ev mh) (k:∀x0 aM a2 b0 ev mh,A x0 aM a2 b0 ev mh->ap x0 aM a2 b0 ev mh->G):G:=h.elim fun x h=>xE h (k x)
noncomputable abbrev aw:Program:=PySem.Challenge.pw_og0185_01
noncomputable abbrev o (s:String):Str:=Str.ofString s
noncomputable def aI (i:Nat):Stmt:=(aw.main.body[i]?).getD default
noncomputable def cG (i j:Nat):Stmt:=match aI i with
 |.ClassDef _ _ _ b _ _ _ _ _ _ _=>(b[j]?).getD default
 |s=>s
noncomputable def u7:Stmt->Arguments
 |.FunctionDef _ a _ _ _ _ _ _ _ _=>a
 |_=>default
noncomputable def g5:Stmt->List Stmt
 |.FunctionDef _ _ b _ _ _ _ _ _ _=>b
 |_=>[]
noncomputable def bO:Stmt->Scope
 |.FunctionDef _ _ _ _ _ _ J _ _ _=>J
 |_=>default
inductive al where
 |int (i:Int)|str (s:Str)
 deriving DecidableEq
inductive H where
 |none|bool (b:Bool)|int (i:Int)|str (s:Str)
 |aF (l:List H)|am (l:List H)|V (l:List (al×H))
 |dT (c:Str) (fs:List (Str×H))|per (k:Nat)
inductive cf where
 |U (v:H)|aD (v:H)
inductive aU where
 |U (v:H)|own (v:H)|var (x:Str)
structure X where
 loc:List (Str×cf)
 per:List H
inductive bE where
 |next|brk|ret (r:aU)|dA
noncomputable def getL (x:Str):List (Str×cf)->Option cf
 |[]=>none
 |(y,v)::r=>if x=y then some v else getL x r
noncomputable def bX (x:Str) (v:cf):List (Str×cf)->List (Str×cf)
 |[]=>[(x,v)]
 |(y,w)::r=>if x=y then(y,v)::r else(y,w)::bX x v r
noncomputable def jT (x:Str):List (Str×cf)->List (Str×cf)
 |[]=>[]
 |(y,w)::r=>if x=y then jT x r else(y,w)::jT x r
noncomputable def iC (x:Str):List (Str×H)->Option H
 |[]=>none
 |(y,v)::r=>if x=y then some v else iC x r
noncomputable def ba (k:al):List (al×H)->Option H
 |[]=>none
 |(y,v)::r=>if k=y then some v else ba k r
noncomputable def cU (k:al) (v:H):List (al×H)->List (al×H)
 |[]=>[(k,v)]
 |(y,w)::r=>if k=y then(y,v)::r else(y,w)::cU k v r
noncomputable def ib (k:al):List (al×H)->List (al×H)
 |[]=>[]
 |(y,w)::r=>if k=y then r else(y,w)::ib k r
noncomputable def H6 (v:cf):Option H:=match v with
 |.aD v=>some v
 |.U _=>none
noncomputable def mU (x:Str) (fs:X):Option H:=br (getL x fs.loc) H6
theorem ol {x:Str} {fs:X} {v:H} (h:mU x fs=some v):getL x fs.loc=some (.aD v):=
 bG h (fun bh e h=>by
  cases bh with
  |aD u=>refine B e ?_;exact cC (show some u=some v from h) rfl
  |U _=>exact Z h) Z
noncomputable def X.val (fs:X) (r:aU):Option H:=match r with
 |.U v=>some v
 |.own v=>some v
 |.var x=>mU x fs
noncomputable def X.nf (fs:X) (v:H):Option H:=match v with
 |.per k=>fs.per[k]?
 |v=>some v
noncomputable def X.cF (fs:X) (r:aU):Option H:=br (fs.val r) fs.nf
noncomputable def X.oC (fs:X) (r:aU):Option (H×X):=match r with
 |.U v=>some (v,fs)
 |.own v=>some (v,fs)
 |.var x=>br (mU x fs) fun v=>some (v,{fs with loc:=bX x (.U v) fs.loc})
noncomputable def X.take (fs:X) (r:aU):Option (aU×X):=match r with
 |.U v=>some (.U v,fs)
 |.own v=>some (.own v,fs)
 |.var x=>br (mU x fs) fun v=>some (.own v,{fs with loc:=jT x fs.loc})
noncomputable def fX (v:H):Option Int:=match v with
 |.int b=>some b
 |_=>none
noncomputable def ti (v:H):Option Str:=match v with
 |.str b=>some b
 |_=>none
noncomputable def so (v:H):Option (List H):=match v with
 |.aF b=>some b
 |_=>none
noncomputable def p1 (v:H):Option (List H):=match v with
 |.am b=>some b
 |_=>none
noncomputable def t3 (v:H):Option (List (al×H)):=match v with
 |.V b=>some b
 |_=>none
theorem jy {v:H} {i:Int} (h:fX v=some i):v=.int i:=by cases v<;>first|exact Z h|exact cC h rfl
theorem zP {v:H} {i:Str} (h:ti v=some i):v=.str i:=by cases v<;>first|exact Z h|exact cC h rfl
theorem xX {v:H} {i:List H} (h:so v=some i):v=.aF i:=by cases v<;>first|exact Z h|exact cC h rfl
theorem sC {v:H} {i:List H} (h:p1 v=some i):v=.am i:=by cases v<;>first|exact Z h|exact cC h rfl
theorem yC {v:H} {i:List (al×H)} (h:t3 v=some i):v=.V i:=by cases v<;>first|exact Z h|exact cC h rfl
noncomputable def fE:H->Bool
 |.none=>true
 |_=>false
theorem zf {v:H} (h:fE v=true):v=.none:=by cases v<;>first|rfl|exact lr h
noncomputable def l1 (f:H->H->Option Bool):List H->List H->Option Bool
 |[],ck=>some ck.isEmpty
 |x::r,ck=>match ck with
  |[]=>some false
  |y::t=>fj (f x y) (l1 f r t) fun a b=>some (a&&b)
noncomputable def Tf:H->Option Bool
 |.none=>some true
 |.int _=>some false
 |_=>none
noncomputable def QZ (a:Int):H->Option Bool
 |.none=>some false
 |.int b=>some (a==b)
 |_=>none
noncomputable def eR:Nat->H->H->Option Bool
 |0,_,_=>none
 |n+1,x,y=>match x with
  |.none=>Tf y
  |.int a=>QZ a y
  |.str a=>br (ti y) fun b=>some (a==b)
  |.aF a=>br (so y) fun b=>l1 (eR n) a b
  |.am a=>br (p1 y) fun b=>if a.length=b.length then l1 (eR n) a b else some false
  |_=>none
@[elab_as_elim] theorem xy {n:Nat} {P:H->H->Bool->Prop} {x y:H} {b:Bool} (h:eR (n+1) x y=some b) (V4:P .none .none true) (Th:∀i,P .none (.int i) false) (Yo:∀i,P (.int i) .none false) (V9:∀i j,P (.int i) (.int j) (i==j)) (KH:∀i j,P (.str i) (.str j) (i==j))
  (AQ:∀i j b,l1 (eR n) i j=some b->P (.aF i) (.aF j) b) (V0:∀i j b,i.length=j.length->l1 (eR n) i j=some b->P (.am i) (.am j) b) (SV:∀i j,¬i.length=j.length->P (.am i) (.am j) false):P x y b:=by
 cases x with
 |none=>cases y with
  |none=>exact cC h V4
  |int i=>exact cC h (Th i)
  |_=>exact Z h
 |int i=>cases y with
  |none=>exact cC h (Yo i)
  |int j=>exact cC h (V9 i j)
  |_=>exact Z h
 |str i=>exact bG h (fun j e q=>by refine B (zP e) ?_;exact cC q (KH i j)) Z
 |aF i=>exact bG h (fun j e q=>by refine B (xX e) ?_;exact AQ i j b q) Z
 |am i=>
  refine bG h (fun j e q=> ?_) Z
  refine B (sC e) ?_
  by_cases aq:i.length=j.length
  ·exact V0 i j b aq ((if_pos aq).symm.trans q)
  ·exact cC ((if_neg aq).symm.trans q) (SV i j aq)
 |_=>exact Z h
noncomputable def eF:Nat:=32
noncomputable def yl (a b:List (al×H)):Option Bool:=if(a.isEmpty||b.isEmpty)=true then some (a.isEmpty&&b.isEmpty) else none
noncomputable def vy (x y:H):Option Bool:=match x with
 |.V a=>br (t3 y) fun b=>yl a b
 |_=>eR eF x y
theorem Ic {x y:H} {b:Bool} {G:Prop} (h:vy x y=some b) (k1:∀i j,x=.V i->y=.V j->yl i j=some b->G) (k2:eR eF x y=some b->G):G:=by
 cases x with
 |V i=>exact bG h (fun j e q=>k1 i j rfl (yC e) q) Z
 |_=>exact k2 h
noncomputable def gc:H->Option al
 |.int i=>some (.int i)
 |.str s=>some (.str s)
 |_=>none
noncomputable def p8:al->H
 |.int i=>.int i
 |.str s=>.str s
noncomputable def a4:Nat:=1048576
noncomputable def qE (a:Int):Bool:=decide (a.natAbs<2^64)
noncomputable def Dt (bW:Operator) (x y:Int):Option Int:=match bW with
 |.Add=>some (x+y)
 |.Sub=>some (x-y)
 |.Mult=>if qE x||qE y then some (x*y) else none
 |.FloorDiv=>if y=0||1073741824<=y.natAbs then none else some (x.fdiv y)
 |.Mod=>if y=0 then none else some (x.fmod y)
 |.Pow=>if 0<=y&&y<64&&x.natAbs<2^1024 then some (x^y.toNat) else none
 |_=>none
noncomputable def xR:Operator->Bool
 |.Add=>true
 |_=>false
theorem DG {bW:Operator} (h:xR bW=true):bW=.Add:=by cases bW<;>first|rfl|exact Bool.noConfusion h
noncomputable def j3 (bW:Operator) (a b:H):Option aU:=match a with
 |.int x=>br (fX b) fun y=>br (Dt bW x y) fun z=>some (.U (.int z))
 |.aF x=>br (so b) fun y=>if(xR bW&&decide (x.length+y.length<=a4))=true then some (.U (.aF (x++y))) else none
 |.am x=>br (p1 b) fun y=>if(xR bW&&decide (x.length+y.length<=a4))=true then some (.own (.am (x++y))) else none
 |_=>none
noncomputable def ya (s:Str):List H->Option Bool
 |[]=>some false
 |v::r=>br (ti v) fun t=>(ya s r).map fun b=>decide (t=s)||b
noncomputable def Vy (a b:H):Option Bool:=match b with
 |.V l=>(gc a).map fun k=>(ba k l).isSome
 |.aF l=>br (ti a) fun s=>ya s l
 |_=>none
noncomputable def eI (bW:CmpOp) (a b:H):Option Bool:=
 match bW with
 |.Lt=>fj (fX a) (fX b) fun x y=>some (decide (x<y))
 |.LtE=>fj (fX a) (fX b) fun x y=>some (decide (x<=y))
 |.Gt=>fj (fX a) (fX b) fun x y=>some (decide (y<x))
 |.GtE=>fj (fX a) (fX b) fun x y=>some (decide (y<=x))
 |.Eq=>vy a b
 |.NotEq=>(vy a b).map (!·)
 |.Is=>if fE b=true then some (fE a) else none
 |.IsNot=>if fE b=true then some (!fE a) else none
 |.In=>Vy a b
 |.NotIn=>br (t3 b) fun l=>(gc a).map fun k=> !(ba k l).isSome
noncomputable def CU:H->Option Bool
 |.bool b=>some b
 |.am l=>if l.length<=a4 then some (!l.isEmpty) else none
 |_=>none
noncomputable def hJ:List Str:=["Name","Reference","Page","Spot","Decimal","String","Stream"]
noncomputable def rn:List Str:=["bool","int","list","dict"]
noncomputable def gF (v:H) (c:Str):Option Bool:=
 if rn.contains c||hJ.contains c then match v with
  |.per _=>none
  |.dT d _=>if d=("Shelf":Str)||hJ.contains d then some (decide (c=d)) else none
  |.bool _=>some (decide (c=("bool":Str))||decide (c=("int":Str)))
  |.int _=>some (decide (c=("int":Str)))
  |.am _=>some (decide (c=("list":Str)))
  |.V _=>some (decide (c=("dict":Str)))
  |_=>some false
 else none
noncomputable def jz (c:Str):Option (List Str):=
 if c=("Name":Str) then some ["text"]
 else if c=("Reference":Str) then some ["number","generation"]
 else if c=("Page":Str) then some ["reference","fields"]
 else if c=("Spot":Str) then some ["reference","head","above","inherited","is_page"]
 else none
noncomputable def pW (c a:Str):Bool:=match jz c with
 |some l=>l.contains a
 |none=>c=("Shelf":Str)&&(a=("table":Str)||a=("trailer":Str))
noncomputable def pU (c m:Str):Option Str:=
 if c=("Reference":Str) then(if m=("pair":Str) then some "Reference.pair" else none)
 else if c=("Shelf":Str) then
  (if m=("fetch":Str) then some "Lookup.fetch"
  else if m=("get":Str) then some "Lookup.get"
  else if m=("put":Str) then some "Shelf.put"
  else if m=("add":Str) then some "Shelf.add"
  else if m=("numbers":Str) then some "Shelf.numbers"
  else if m=("root":Str) then some "Shelf.root"
  else if m=("told":Str) then some "Shelf.told"
  else none)
 else none
noncomputable def rU:List (Str×(Nat×Option Nat)):=[
 (o "Reference.pair",12,some 1),(o "kind_of",13,none),(o "told_plain",14,none),(o "told",15,none),(o "told_objects",15,none),(o "copied",17,none),
 (o "Lookup.fetch",18,some 1),(o "Lookup.get",18,some 2),(o "Shelf.put",19,some 0),(o "Shelf.add",19,some 1),(o "Shelf.numbers",19,some 3),(o "Shelf.root",19,some 4),(o "Shelf.told",19,some 5),
 (o "turned",24,none),(o "home_of",25,none),(o "is_node",26,none),(o "kids_of",27,none),(o "met",28,none),(o "spots",29,none),(o "fields_of",30,none),(o "page_spots",31,none),(o "pages",32,none),
 (o "page_count",33,none),(o "is_count",34,none),(o "page_at",35,none),(o "kid_with",36,none),(o "counts_of",37,none),(o "is_parent",38,none),(o "page_faults",39,none),(o "settle",40,none),(o "lay",41,none),
 (o "grouped",42,none),(o "build_pages",43,none),(o "place_of",44,none),(o "kid_index",45,none),(o "put_reference",46,none),(o "insert_page",47,none),
 (o "_law_pen",49,none),(o "_law_draw",50,none),(o "_law_page",52,none),(o "_law_seen",53,none),(o "_law_refused",54,none),(o "law",55,none)]
noncomputable def du (x:Str):Option Stmt:=(rU.lookup x).map fun p=>match p.2 with|none=>aI p.1|some j=>cG p.1 j
noncomputable def j0 (f:Str):Bool:=match rU.lookup f with
 |some (_,none)=>true
 |_=>false
noncomputable def kS:Expr->Bool
 |.Call (.Name id _) [] [] _=>id !=("super":Str)
 |_=>true
noncomputable def n4 (J aX:Scope):Bool:=
 aX.kind==.function&&aX.names.all fun(n,k)=>k !=.cell&&(k !=.local||aX.names.lookup n==some .local)&&(k !=.free||J.names.lookup n==some .cell)
noncomputable def DK (x:Str):Option H:=
 if x=("INHERITED":Str) then some (.aF [.str "Resources",.str "MediaBox",.str "CropBox",.str "Rotate"])
 else if x=("MOST_HOPS":Str) then some (.int 30)
 else none
noncomputable def g0:Expr->Option Str
 |.Name x _=>some x
 |_=>none
theorem oo {e:Expr} {x:Str} (h:g0 e=some x):∃p,e=.Name x p:=by cases e<;>first|exact Z h|(cases h;exact⟨_,rfl⟩)
noncomputable def zX:Expr->Option (Expr×List Expr)
 |.Call f args [] _=>some (f,args)
 |_=>none
theorem Fb {e f:Expr} {args:List Expr} (h:zX e=some (f,args)):∃p,e=.Call f args [] p:=by
 cases e with
 |Call N0 Zf lj p=>cases lj with
  |nil=>cases h;exact⟨_,rfl⟩
  |cons _ _=>exact Z h
 |_=>exact Z h
noncomputable def r2 (l:List Expr):Option Expr:=match l with
 |[a]=>some a
 |_=>none
theorem uk {l:List Expr} {a:Expr} (h:r2 l=some a):l=[a]:=by
 cases l with
 |nil=>exact Z h
 |cons b r=>cases r with
  |nil=>cases h;rfl
  |cons _ _=>exact Z h
noncomputable def isStr:Expr->Bool
 |.Constant (.str _) _ _=>true
 |_=>false
theorem Oj {e:Expr} (h:isStr e=true):∃s k p,e=.Constant (.str s) k p:=by
 cases e with
 |Constant c k p=>cases c<;>first|exact⟨_,_,_,rfl⟩|(exact Bool.noConfusion h)
 |_=>exact Bool.noConfusion h
noncomputable def Fv (e:Option Expr):Option Str:=br e fun e=>match e with
 |.Constant c _ _=>match c with
  |.str s=>some s
  |_=>none
 |_=>none
theorem SI {e:Option Expr} {n:Str} (h:Fv e=some n):∃k p,e=some (.Constant (.str n) k p):=by
 cases e with
 |none=>exact Z h
 |some e=>cases e with
  |Constant c k p=>cases c with
   |str s=>exact cC h ⟨k,p,rfl⟩
   |_=>exact Z h
  |_=>exact Z h
noncomputable def Ez (hs:List ExceptHandler) (gO cI:List Stmt):Option (Str×List Stmt):=match hs with
 |[.ExceptHandler (some t) none ah _]=>match gO with
  |[]=>match cI with
   |[]=>(g0 t).map fun c=>(c,ah)
   |_=>none
  |_=>none
 |_=>none
theorem NJ {hs:List ExceptHandler} {gO cI:List Stmt} {c:Str} {ah:List Stmt} (h:Ez hs gO cI=some (c,ah)):∃m3 an,hs=[.ExceptHandler (some (.Name c m3)) none ah an]/\gO=[]/\cI=[]:=by
 cases hs with
 |nil=>exact Z h
 |cons a l=>
  obtain⟨wr,nm,b,an⟩:=a
  cases wr with
  |none=>exact Z h
  |some t=>cases nm with
   |some _=>exact Z h
   |none=>cases l with
    |cons _ _=>exact Z h
    |nil=>cases gO with
     |cons _ _=>exact Z h
     |nil=>cases cI with
      |cons _ _=>exact Z h
      |nil=>
       have h:(g0 t).map (fun c=>(c,b))=some (c,ah):=h
       obtain⟨x,ae,e⟩:=Option.map_eq_some_iff.mp h
       cases e
       obtain⟨p,e⟩:=oo ae
       subst e
       exact⟨_,_,rfl,rfl,rfl⟩
noncomputable abbrev cs:=Str->List H->List H->Option (bE×List H)
structure bk where
 a9:Expr->X->Option (aU×X)
 dH:Expr->X->Option (Bool×X)
 dg:Stmt->X->Option (bE×X)
section
variable(C:cs) (R:bk)
end
noncomputable def vH (r:aU):Option H:=match r with
 |.U v=>some v
 |_=>none
noncomputable def oE {b3:Type w} (x:Option (aU×X)) (f:H->X->Option b3):Option b3:=ob x fun r fs=>br (vH r) fun v=>f v fs
noncomputable def LC (v:H):Option Bool:=match v with
 |.bool b=>some b
 |_=>none
noncomputable def Ym (f:bE):Option aU:=match f with
 |.ret r=>some r
 |_=>none
noncomputable def tZ {b3:Type w} (x:Option (aU×X)) (f:Bool->X->Option b3):Option b3:=oE x fun v fs=>br (LC v) fun b=>f b fs
noncomputable def pV {b3:Type w} (x:Option (aU×X)) (f:Int->X->Option b3):Option b3:=oE x fun v fs=>br (fX v) fun b=>f b fs
noncomputable def zN {b3:Type w} (x:Option (aU×X)) (f:List H->X->Option b3):Option b3:=oE x fun v fs=>br (so v) fun b=>f b fs
noncomputable def r0 {no:Type u} {b3:Type w} (x:Option (bE×no)) (f:aU->no->Option b3):Option b3:=ob x fun v fs=>br (Ym v) fun b=>f b fs
section
variable{b3:Type w} {x:Option (aU×X)} {z:b3} {G:Prop}
theorem DH {r:aU} {v:H} (h:vH r=some v):r=.U v:=by cases r<;>cases h;rfl
theorem si {f:H->X->Option b3} (h:oE x f=some z) (k:∀a b,x=some (.U a,b)->f a b=some z->G) (k0:(none:Option b3)=some z->G):G:=
 b5 h (fun r b e q=>bG q (fun v O q=>k v b (e.trans (by(refine B (DH O) ?_;rfl))) q) k0) k0
theorem AU {f:Bool->X->Option b3} (h:tZ x f=some z) (k:∀a b,x=some (.U (.bool a),b)->f a b=some z->G) (k0:(none:Option b3)=some z->G):G:=
 si h (fun r b e q=>bG q (fun v O q=>k v b (e.trans (by cases r<;>cases O;rfl)) q) k0) k0
theorem Hh {f:Int->X->Option b3} (h:pV x f=some z) (k:∀a b,x=some (.U (.int a),b)->f a b=some z->G) (k0:(none:Option b3)=some z->G):G:=
 si h (fun r b e q=>bG q (fun v O q=>k v b (e.trans (by cases r<;>cases O;rfl)) q) k0) k0
theorem UH {f:List H->X->Option b3} (h:zN x f=some z) (k:∀a b,x=some (.U (.aF a),b)->f a b=some z->G) (k0:(none:Option b3)=some z->G):G:=
 si h (fun r b e q=>bG q (fun v O q=>k v b (e.trans (by cases r<;>cases O;rfl)) q) k0) k0
theorem wU {no:Type u} {x:Option (bE×no)} {f:aU->no->Option b3} (h:r0 x f=some z) (k:∀a b,x=some (.ret a,b)->f a b=some z->G) (k0:(none:Option b3)=some z->G):G:=
 b5 h (fun r b e q=>bG q (fun v O q=>k v b (e.trans (by cases r<;>cases O;rfl)) q) k0) k0
theorem lf {v:H} {fs:X} {f:H->X->Option b3}:oE (some (.U v,fs)) f=f v fs:=rfl
theorem kX {v:Bool} {fs:X} {f:Bool->X->Option b3}:tZ (some (.U (.bool v),fs)) f=f v fs:=rfl
theorem kN {v:Int} {fs:X} {f:Int->X->Option b3}:pV (some (.U (.int v),fs)) f=f v fs:=rfl
theorem kM {v:List H} {fs:X} {f:List H->X->Option b3}:zN (some (.U (.aF v),fs)) f=f v fs:=rfl
theorem kV {no:Type u} {v:aU} {fs:no} {f:aU->no->Option b3}:r0 (some (.ret v,fs)) f=f v fs:=rfl
end
section
variable(C:cs) (R:bk)
noncomputable def d0 (e:Expr) (fs:X):Option (H×X):=ob (R.a9 e fs) fun r fs'=>fs'.oC r
noncomputable def x5 (x:Str):cf->aU
 |.U v=>.U v
 |.aD _=>.var x
noncomputable def dk:List Expr->X->Option (List H×X)
 |[],fs=>some ([],fs)
 |e::t,fs=>ob (d0 R e fs) fun v fs₁=>ob (dk t fs₁) fun vs fs₂=>some (v::vs,fs₂)
noncomputable def ow:List (Option Expr)->List Expr->X->Option (List (al×H)×X)
 |[],es,fs=>if es.isEmpty=true then some ([],fs) else none
 |k::ks,es,fs=>match es with
  |[]=>none
  |e::t=>br (Fv k) fun n=>ob (d0 R e fs) fun v fs₁=>ob (ow ks t fs₁) fun vs fs₂=>some ((.str n,v)::vs,fs₂)
noncomputable def oa:List Expr->X->Option (Bool×X)
 |[],_=>none
 |e::t,fs=>tZ (R.a9 e fs) fun b fs₁=>if(b&& !t.isEmpty)=true then oa t fs₁ else some (b,fs₁)
noncomputable def zK:BoolOp->Bool
 |.Or=>true
 |.And=>false
noncomputable def zv (bW:BoolOp):List Expr->X->Option (Bool×X)
 |[],fs=>some (!zK bW,fs)
 |e::t,fs=>ob (R.dH e fs) fun b fs₁=>if(b==zK bW)=true then some (b,fs₁) else zv bW t fs₁
noncomputable def fin2 (e7:List CmpOp) (es:List Expr):Option Bool:=match e7 with
 |[]=>if es.isEmpty=true then some true else none
 |_::_=>if es.isEmpty=true then none else some false
noncomputable def q3 (left:aU):List CmpOp->List Expr->X->Option (Bool×X)
 |[],_,_=>none
 |bW::e7,es,fs=>match es with
  |[]=>none
  |e::es=>ob (R.a9 e fs) fun r fs₁=>fj (fs₁.cF left) (fs₁.cF r) fun a b=>br (eI bW a b) fun c=>br (fin2 e7 es) fun z=>
    if z=true then some (c,fs₁) else br (vH r) fun v=>if c=true then q3 (.U v) e7 es fs₁ else some (false,fs₁)
noncomputable def jj (i:Int) (n:Nat):Nat:=if i<0 then(i+n).toNat else min i.toNat n
noncomputable def vN (n:Nat):Option Int->Nat
 |none=>0
 |some i=>jj i n
noncomputable def t9 (n:Nat):Option Int->Nat
 |none=>n
 |some i=>jj i n
noncomputable def iT (l:List H) (cZ aR:Option Int):List H:=(l.take (t9 l.length aR)).drop (vN l.length cZ)
noncomputable def kb (i:Int) (n:Nat):Option Nat:=if 0<=i then(if i.toNat<n then some i.toNat else none) else(if 0<=i+n then some (i+n).toNat else none)
noncomputable def qb (v:H):Option (List H):=match v with
 |.am l=>some l
 |.aF l=>some l
 |.V l=>some (l.map fun p=>p8 p.1)
 |_=>none
noncomputable def To (v:H):Option (List H):=br (fX v) fun n=>if(decide (-1048576<=n)&&decide (n<=1048576))=true then some ((List.range n.toNat).map fun(i:Nat)=>H.int i) else none
noncomputable def yk (e:Expr):Option (Str×Expr):=ob (zX e) fun f args=>fj (g0 f) (r2 args) fun f a=>some (f,a)
theorem DP {e a:Expr} {f:Str} (h:yk e=some (f,a)):∃p q,e=.Call (.Name f p) [a] [] q:=
 b5 h (fun g args M h=>hC h (fun N0 jB O Y h=>b6 h ((Fb M).elim fun q ak=>(oo O).elim fun p ar=>⟨p,q,by(refine B ak ?_;refine B ar ?_;refine B (uk Y) ?_;rfl)⟩)) Z) Z
noncomputable def nG (g:H->Option (List H)) (e:Expr) (fs:X):Option (List H×X):=ob (d0 R e fs) fun v fs₁=>br (g v) fun l=>some (l,fs₁)
noncomputable def Ls (v:H):Option (List H):=br (p1 v) fun l=>some l.reverse
noncomputable def Jq (f:Str) (a e:Expr) (fs:X):Option (List H×X):=if f=("range":Str) then nG R To a fs else if f=("reversed":Str) then nG R Ls a fs else nG R qb e fs
noncomputable def hG (J:Scope) (e:Expr) (fs:X):Option (List H×X):=match yk e with
 |some p=>if J.names.lookup p.1=some .globalImplicit then Jq R p.1 p.2 e fs else none
 |none=>nG R qb e fs
noncomputable def Eg:al->Option Int
 |.int i=>some i
 |.str _=>none
noncomputable def Ps:al->Option Str
 |.str s=>some s
 |.int _=>none
noncomputable def oB:List (al×H)->Option (List Int)
 |[]=>some []
 |p::r=>fj (Eg p.1) (oB r) fun i t=>some (i::t)
noncomputable def uH:List (al×H)->Option (List Str)
 |[]=>some []
 |p::r=>fj (Ps p.1) (uH r) fun i t=>some (i::t)
noncomputable def za (a b:Str):Bool:=decide (a.cps.toList<b.cps.toList)
noncomputable def jM (a:Int):List Int->List Int
 |[]=>[a]
 |b::r=>if a<b then a::b::r else b::jM a r
noncomputable def kT (a:Str):List Str->List Str
 |[]=>[a]
 |b::r=>if za a b then a::b::r else b::kT a r
noncomputable def qx (l:List Int):List Int:=l.foldl (fun cm a=>jM a cm) []
noncomputable def yP (l:List Str):List Str:=l.foldl (fun cm a=>kT a cm) []
noncomputable def xQ (v:H):Option (H×H):=br (so v) fun l=>match l with
 |[]=>none
 |k::t=>match t with
  |[]=>none
  |v::u=>if u.isEmpty=true then some (k,v) else none
theorem G9 {v k x:H} (h:xQ v=some (k,x)):v=.aF [k,x]:=bG h (fun l e q=>by
 refine B (xX e) ?_
 cases l with
 |nil=>exact Z q
 |cons a t=>cases t with
  |nil=>exact Z q
  |cons b u=>cases u with
   |nil=>exact b6 (show some (a,b)=some (k,x) from q) rfl
   |cons _ _=>exact Z q) Z
noncomputable def mH (v:H):Bool:=(ob (xQ v) fun k w=>fj (fX k) (fX w) fun _ _=>some ()).isSome
theorem CE {v:H} (h:mH v=true):∃i j,v=.aF [.int i,.int j]:=
 (Option.isSome_iff_exists.mp h).elim fun u q=>b5 q (fun k w e q=>hC q (fun i j M O _=>⟨i,j,by(refine B (G9 e) ?_;refine B (jy M) ?_;refine B (jy O) ?_;rfl)⟩) Z) Z
noncomputable def pairsOf:List H->Option (List (al×H))
 |[]=>some []
 |x::r=>ob (xQ x) fun k v=>fj (gc k) (pairsOf r) fun k t=>some ((k,v)::t)
noncomputable def ur:List H->Option (List Int)
 |[]=>some []
 |x::r=>fj (fX x) (ur r) fun i t=>some (i::t)
noncomputable def m9 (x:H):List H->Option Nat
 |[]=>none
 |y::r=>br (eR eF y x) fun b=>if b=true then some 0 else br (m9 x r) fun n=>some (n+1)
noncomputable def qo:List Str->List H->Option (List (Str×H))
 |[],vs=>if vs.isEmpty=true then some [] else none
 |x::r,vs=>match vs with
  |[]=>none
  |v::t=>br (qo r t) fun l=>some ((x,v)::l)
noncomputable def xv (v:H):Option Nat:=match v with
 |.am l=>some l.length
 |.aF l=>some l.length
 |.V l=>some l.length
 |_=>none
noncomputable def Cz (v:H):Option aU:=match v with
 |.int i=>some (.U (.int i))
 |.bool b=>some (.U (.int (if b then 1 else 0)))
 |_=>none
noncomputable def ry (l:List (al×H)):Option aU:=match oB l with
 |some ns=>some (.own (.am ((qx ns).map .int)))
 |none=>br (uH l) fun ns=>some (.own (.am ((yP ns).map .str)))
@[elab_as_elim] theorem Rs {l:List (al×H)} {r:aU} {G:aU->Prop} (h:ry l=some r) (k1:∀ns,oB l=some ns->G (.own (.am ((qx ns).map .int)))) (k2:∀ns,uH l=some ns->G (.own (.am ((yP ns).map .str)))):G r:=by
 unfold ry at h
 cases q:oB l with
 |some ns=>replace h:=q▸h;exact cC h (k1 ns q)
 |none=>replace h:=q▸h;exact bG h (fun ns e h=>cC h (k2 ns e)) Z
noncomputable def Py (v:H):Option aU:=match v with
 |.V l=>if l.length<=a4 then some (.own (.V l)) else none
 |.am l=>if l.length<=a4 then br (pairsOf l) fun ps=>some (.own (.V (ps.foldl (fun d p=>cU p.1 p.2 d) []))) else none
 |_=>none
noncomputable def QM (v:H):Option aU:=br (xv v) fun n=>if n<=a4 then some (.U (.int n)) else none
noncomputable def Je (v:H):Option aU:=br (fX v) fun i=>some (.U (.int (if i<0 then-i else i)))
noncomputable def MM (v:H):Option aU:=br (p1 v) fun l=>br (ur l) fun ns=>some (.U (.int ns.sum))
noncomputable def N2 (v:H):Option aU:=br (t3 v) fun l=>if l.length<64 then ry l else none
noncomputable def Ho (v:H):Option aU:=br (p1 v) fun l=>if l.length<=a4 then some (.U (.aF l)) else none
noncomputable def VB (f:Str) (v:H):Option aU:=if f=("dict":Str) then Py v else none
noncomputable def Ky (f:Str) (v:H):Option aU:=if f=("tuple":Str) then Ho v else VB f v
noncomputable def UY (f:Str) (v:H):Option aU:=if f=("sorted":Str) then N2 v else Ky f v
noncomputable def JC (f:Str) (v:H):Option aU:=if f=("sum":Str) then MM v else UY f v
noncomputable def RX (f:Str) (v:H):Option aU:=if f=("abs":Str) then Je v else JC f v
noncomputable def gH (f:Str) (v:H):Option aU:=if f=("len":Str) then QM v else if f=("int":Str) then Cz v else RX f v
noncomputable def lM:List Str:=["len","int","abs","sum","sorted","tuple","dict"]
noncomputable def tw (vs:List H):Option H:=match vs with
 |[]=>none
 |v::t=>if t.isEmpty=true then some v else none
theorem wh {vs:List H} {v:H} (h:tw vs=some v):vs=[v]:=by
 cases vs with
 |nil=>exact Z h
 |cons a t=>cases t with
  |nil=>exact cC (show some a=some v from h) rfl
  |cons _ _=>exact Z h
noncomputable def Dz (l:List Expr):Option (Expr×Str):=match l with
 |[]=>none
 |e::t=>br (r2 t) fun n=>br (g0 n) fun c=>some (e,c)
theorem TW {l:List Expr} {e:Expr} {c:Str} (h:Dz l=some (e,c)):∃p,l=[e,.Name c p]:=by
 cases l with
 |nil=>exact Z h
 |cons a t=>exact bG h (fun n M h=>bG h (fun d O h=>b6 h ((oo O).elim fun p ak=>⟨p,by(refine B (uk M) ?_;refine B ak ?_;rfl)⟩)) Z) Z
noncomputable def EK (l:List H):Option (Int×Int):=match l with
 |[]=>none
 |a::t=>br (tw t) fun b=>fj (fX a) (fX b) fun i j=>some (i,j)
theorem XR {l:List H} {i j:Int} (h:EK l=some (i,j)):l=[.int i,.int j]:=by
 cases l with
 |nil=>exact Z h
 |cons a t=>exact bG h (fun b M h=>hC h (fun x y O Y h=>b6 h (by(refine B (wh M) ?_;refine B (jy O) ?_;refine B (jy Y) ?_;rfl))) Z) Z
noncomputable def Kw (J:Scope) (args:List Expr) (fs:X):Option (aU×X):=ob (Dz args) fun e c=>ob (R.a9 e fs) fun r fs₁=>br (fs₁.cF r) fun v=>br (gF v c) fun b=>if J.names.lookup c=some .globalImplicit then some (.U (.bool b),fs₁) else none
noncomputable def T0 (args:List Expr) (fs:X):Option (aU×X):=ob (dk R args fs) fun vs fs₁=>ob (EK vs) fun a b=>some (.U (.int (if b<a then b else a)),fs₁)
noncomputable def Nj (f:Str) (args:List Expr) (fs:X):Option (aU×X):=br (r2 args) fun e=>ob (R.a9 e fs) fun r fs₁=>br (fs₁.cF r) fun v=>br (gH f v) fun r'=>some (r',fs₁)
noncomputable def NS (args:List Expr) (fs:X):Option (aU×X):=if args.isEmpty=true then some (.U (.dT "Shelf" [("table",.per fs.per.length),("trailer",.per (fs.per.length+1))]),{fs with per:=fs.per++[.V [],.V []]}) else none
noncomputable def E1 (f:Str) (names:List Str) (args:List Expr) (fs:X):Option (aU×X):=ob (dk R args fs) fun vs fs₁=>br (qo names vs) fun l=>some (.U (.dT f l),fs₁)
noncomputable def D4 (f:Str) (args:List Expr) (fs:X):Option (aU×X):=if j0 f=true then ob (dk R args fs) fun vs fs₁=>r0 (C f vs fs₁.per) fun r per=>some (r,{fs₁ with per:=per}) else none
noncomputable def rP (f:Str) (args:List Expr) (fs:X):Option (aU×X):=match jz f with
 |some names=>E1 R f names args fs
 |none=>D4 C R f args fs
noncomputable def KZ (f:Str) (args:List Expr) (fs:X):Option (aU×X):=if f=("Shelf":Str) then NS args fs else rP C R f args fs
noncomputable def At (f:Str) (args:List Expr) (fs:X):Option (aU×X):=if lM.contains f=true then Nj R f args fs else KZ C R f args fs
noncomputable def UJ (f:Str) (args:List Expr) (fs:X):Option (aU×X):=if f=("min":Str) then T0 R args fs else At C R f args fs
noncomputable def KG (J:Scope) (f:Str) (args:List Expr) (fs:X):Option (aU×X):=if f=("isinstance":Str) then Kw R J args fs else UJ C R f args fs
noncomputable def qB (J:Scope) (f:Str) (args:List Expr) (fs:X):Option (aU×X):=if J.names.lookup f=some .globalImplicit then KG C R J f args fs else none
noncomputable def pL (d:Option H):Option (List (al×H)):=match d with
 |some (.V l)=>some l
 |_=>none
noncomputable def lC (d:Option H):Option (List H):=match d with
 |some (.am l)=>some l
 |_=>none
noncomputable def vI (r:aU):Option Str:=match r with
 |.var x=>some x
 |_=>none
theorem Cm {d:Option H} {l:List (al×H)} (h:pL d=some l):d=some (.V l):=by
 cases d with
 |none=>cases h
 |some d=>cases d<;>cases h;rfl
theorem vz {d:Option H} {l:List H} (h:lC d=some l):d=some (.am l):=by
 cases d with
 |none=>cases h
 |some d=>cases d<;>cases h;rfl
theorem vS {r:aU} {x:Str} (h:vI r=some x):r=.var x:=by cases r<;>cases h;rfl
noncomputable def Ix (c:Str) (l:List (Str×H)) (m:Str) (r:aU) (args:List Expr) (fs:X):Option (aU×X):=
 if(iC m l).isNone=true then br (pU c m) fun f=>ob (fs.oC r) fun self j8=>ob (dk R args j8) fun vs fs₁=>r0 (C f (self::vs) fs₁.per) fun r per=>some (r,{fs₁ with per:=per}) else none
noncomputable def yr (vs:List H):Option (H×Option H):=match vs with
 |[]=>none
 |v::t=>match t with
  |[]=>some (v,none)
  |d::u=>if u.isEmpty=true then some (v,some d) else none
theorem An {vs:List H} {v:H} {d:Option H} (h:yr vs=some (v,d)):vs=v::d.toList:=by
 cases vs with
 |nil=>exact Z h
 |cons a t=>cases t with
  |nil=>exact b6 (show some (a,none)=some (v,d) from h) rfl
  |cons b u=>cases u with
   |nil=>exact b6 (show some (a,some b)=some (v,d) from h) rfl
   |cons _ _=>exact Z h
noncomputable def Bs (d:Option H):Bool:=match d with
 |some v=>fE v
 |none=>false
theorem OT {d:Option H} (h:Bs d=true):d=some .none:=by
 cases d with
 |none=>exact lr h
 |some v=>(refine B (zf h) ?_;rfl)
noncomputable def Bw (r:aU) (args:List Expr) (fs:X):Option (aU×X):=ob (dk R args fs) fun vs fs₁=>ob (yr vs) fun k d=>fj (pL (fs₁.cF r)) (gc k) fun l k=>some (.U ((ba k l).getD (d.getD .none)),fs₁)
noncomputable def FW (r:aU) (args:List Expr) (fs:X):Option (aU×X):=br (vI r) fun x=>ob (dk R args fs) fun vs fs₁=>ob (yr vs) fun k d=>fj (pL (mU x fs₁)) (gc k) fun l k=>
 if(Bs d&&decide (l.length<=a4))=true then some (.U ((ba k l).getD .none),{fs₁ with loc:=bX x (.aD (.V (ib k l))) fs₁.loc}) else none
noncomputable def Fe (r:aU) (args:List Expr) (fs:X):Option (aU×X):=br (vI r) fun x=>ob (dk R args fs) fun vs fs₁=>fj (tw vs) (lC (mU x fs₁)) fun v l=>if l.length<=a4 then some (.U .none,{fs₁ with loc:=bX x (.aD (.am (l++[v]))) fs₁.loc}) else none
noncomputable def BC (r:aU) (args:List Expr) (fs:X):Option (aU×X):=br (vI r) fun x=>br (lC (mU x fs)) fun l=>br l.getLast? fun v=>if(args.isEmpty&&decide (l.length<=a4))=true then some (.U v,{fs with loc:=bX x (.aD (.am l.dropLast)) fs.loc}) else none
noncomputable def E6 (r:aU) (args:List Expr) (fs:X):Option (aU×X):=ob (dk R args fs) fun vs fs₁=>fj (tw vs) (lC (fs₁.cF r)) fun v l=>if(decide (l.length<=a4)&&l.all (fun y=>mH y&&(eR eF y v).isSome))=true then br (m9 v l) fun(i:Nat)=>some (aU.U (.int (i:Int)),fs₁) else none
noncomputable def Tn (m:Str) (r:aU) (args:List Expr) (fs:X):Option (aU×X):=if m=("get":Str) then Bw R r args fs else if m=("pop":Str) then FW R r args fs else none
noncomputable def WZ (m:Str) (r:aU) (args:List Expr) (fs:X):Option (aU×X):=if m=("append":Str) then Fe R r args fs else if m=("pop":Str) then BC r args fs else if m=("index":Str) then E6 R r args fs else none
noncomputable def HN (m:Str) (r:aU) (args:List Expr) (fs:X) (d:Option H):Option (aU×X):=br d fun d=>match d with
 |.dT c l=>Ix C R c l m r args fs
 |.V _=>Tn R m r args fs
 |.am _=>WZ R m r args fs
 |_=>none
noncomputable def iD (m:Str) (r:aU) (args:List Expr) (fs:X):Option (aU×X):=HN C R m r args fs (fs.cF r)
noncomputable def mB (e:Option Expr) (fs:X):Option (Option Int×X):=match e with
 |none=>some (none,fs)
 |some e=>pV (R.a9 e fs) fun i fs₁=>some (some i,fs₁)
noncomputable def rs (l:List H) (k:H):Option H:=br (fX k) fun i=>if i.natAbs<2^62 then br (kb i l.length) fun j=>l[j]? else none
noncomputable def oh (v:H) (i:H):Option H:=match v with
 |.am l=>rs l i
 |.aF l=>rs l i
 |.V l=>br (gc i) fun k=>ba k l
 |_=>none
theorem Cr {l:List H} {k y:H} {G:Prop} (h:rs l k=some y) (g:∀i j,k=.int i->i.natAbs<2^62->kb i l.length=some j->l[j]? =some y->G):G:=
 bG h (fun i e q=>cH q (fun M q=>bG q (fun j ar q=>g i j (jy e) M ar q) Z) Z) Z
noncomputable def RB (ifs:List Expr) (fs:X):Option (Bool×X):=match ifs with
 |[]=>some (true,fs)
 |c::t=>if t.isEmpty=true then R.dH c fs else none
noncomputable def ga (x:Str) (ifs:List Expr) (elt:Expr):List H->X->Option (List H×X)
 |[],fs=>some ([],fs)
 |v::t,fs=>ob (RB R ifs {fs with loc:=bX x (.U v) fs.loc}) fun b fs₁=>if b=true then ob (d0 R elt fs₁) fun y fs₂=>ob (ga x ifs elt t fs₂) fun ck fs₃=>some (y::ck,fs₃) else ga x ifs elt t fs₁
noncomputable def mg (aX:Scope) (loc:List (Str×cf)):List (Str×cf):=loc.filterMap fun p=>if aX.names.lookup p.1=some .free then(match getL p.1 loc with
 |some (.U v)=>some (p.1,.U v)
 |_=>none) else none
noncomputable def DS (J:Scope) (x:Str) (fs:X):Option (aU×X):=br (J.names.lookup x) fun k=>
 if k=.globalImplicit then br (DK x) fun v=>some (.U v,fs) else if(x==("__debug__":Str))=true then none else br (getL x fs.loc) fun bh=>some (x5 x bh,fs)
noncomputable def Aj (gens:List Comprehension):Option (Str×Expr×List Expr):=match gens with
 |[]=>none
 |g::t=>br (g0 g.target) fun x=>if(t.isEmpty&&decide (g.is_async=0))=true then some (x,g.iter,g.ifs) else none
theorem E7 {gens:List Comprehension} {x:Str} {iter:Expr} {ifs:List Expr} (h:Aj gens=some (x,iter,ifs)):∃p,gens=[⟨.Name x p,iter,ifs,0⟩]:=by
 cases gens with
 |nil=>exact Z h
 |cons g t=>
  obtain⟨a,b,c,d⟩:=g
  refine bG h (fun y M h=>cH h (fun O h=> ?_) Z) Z
  cases h
  exact(oo M).elim fun p e=>⟨p,by(refine B (show a=_ from e) ?_;refine B (List.isEmpty_iff.mp (Bool.and_eq_true_iff.mp O).1) ?_;refine B (show d=0 from of_decide_eq_true (Bool.and_eq_true_iff.mp O).2) ?_;rfl)⟩
noncomputable def J5 (b9:Scope->bk) (J:Scope) (elt:Expr) (x:Str) (iter:Expr) (ifs:List Expr) (aX:Scope) (fs:X):Option (aU×X):=ob (hG (b9 J) J iter fs) fun items fs₁=>if(decide (items.length<=a4)&&(aX.names.lookup x==some .local&&n4 J aX))=true then
    ob (ga (b9 aX) x ifs elt items {fs₁ with loc:=mg aX fs₁.loc}) fun ck fs₂=>some (.own (.am ck),{fs₁ with per:=fs₂.per})
   else none
noncomputable def zt (b9:Scope->bk) (J:Scope) (elt:Expr) (gens:List Comprehension) (aX:Scope) (fs:X):Option (aU×X):=br (Aj gens) fun g=>J5 b9 J elt g.1 g.2.1 g.2.2 aX fs
noncomputable def Bc (d:Option H):Option (Str×List (Str×H)):=br d fun v=>match v with
 |.dT c l=>some (c,l)
 |_=>none
theorem PY {d:Option H} {c:Str} {l:List (Str×H)} (h:Bc d=some (c,l)):d=some (.dT c l):=
 bG h (fun v e h=>by
  cases v with
  |dT c' c8=>refine B e ?_;exact b6 (show some (c',c8)=some (c,l) from h) rfl
  |_=>exact Z h) Z
noncomputable def Ca (c:Const) (fs:X):Option (aU×X):=match c with
 |.none=>some (.U .none,fs)
 |.bool b=>some (.U (.bool b),fs)
 |.int i=>some (.U (.int i),fs)
 |.str s=>some (.U (.str s),fs)
 |_=>none
noncomputable def So (bW:BoolOp) (vs:List Expr) (fs:X):Option (aU×X):=if zK bW=true then none else ob (oa R vs fs) fun b fs₁=>some (.U (.bool b),fs₁)
noncomputable def Yc (l:Expr) (bW:Operator) (r:Expr) (fs:X):Option (aU×X):=ob (R.a9 l fs) fun a fs₁=>ob (R.a9 r fs₁) fun b fs₂=>fj (fs₂.cF a) (fs₂.cF b) fun a b=>br (j3 bW a b) fun c=>some (c,fs₂)
noncomputable def E9 (bW:UnaryOp) (x:Expr) (fs:X):Option (aU×X):=match bW with
 |.Not=>tZ (R.a9 x fs) fun b fs₁=>some (.U (.bool (!b)),fs₁)
 |.USub=>pV (R.a9 x fs) fun i fs₁=>some (.U (.int (-i)),fs₁)
 |.Invert=>none
 |.UAdd=>none
noncomputable def Vq (c a b:Expr) (fs:X):Option (aU×X):=ob (R.dH c fs) fun t fs₁=>if t=true then R.a9 a fs₁ else R.a9 b fs₁
noncomputable def QD (ks:List (Option Expr)) (vs:List Expr) (fs:X):Option (aU×X):=ob (ow R ks vs fs) fun l fs₁=>if ks.length<=15 then some (.own (.V (l.foldl (fun d p=>cU p.1 p.2 d) [])),fs₁) else none
noncomputable def Xv (es:List Expr) (fs:X):Option (aU×X):=ob (dk R es fs) fun vs fs₁=>if vs.length<=a4 then some (.own (.am vs),fs₁) else none
noncomputable def Ks (es:List Expr) (fs:X):Option (aU×X):=ob (dk R es fs) fun vs fs₁=>if vs.length<=a4 then some (.U (.aF vs),fs₁) else none
noncomputable def NW (l:Expr) (e7:List CmpOp) (mm:List Expr) (fs:X):Option (aU×X):=ob (R.a9 l fs) fun a fs₁=>ob (q3 R a e7 mm fs₁) fun b fs₂=>some (.U (.bool b),fs₂)
noncomputable def UM (e:Expr) (m:Str) (hp pos:Pos) (args:List Expr) (fs:X):Option (aU×X):=if(kS e&&hp.endLine==pos.line&&args.length<30)=true then ob (R.a9 e fs) fun r fs₁=>iD C R m r args fs₁ else none
noncomputable def IL (e:Expr) (a:Str) (fs:X):Option (aU×X):=ob (R.a9 e fs) fun r fs₁=>ob (Bc (fs₁.cF r)) fun c l=>if(pW c a&&kS e)=true then br (iC a l) fun v=>some (.U v,fs₁) else none
noncomputable def Aa (e:Expr) (cZ aR:Option Expr) (fs:X):Option (aU×X):=ob (R.a9 e fs) fun r fs₁=>ob (mB R cZ fs₁) fun a fs₂=>ob (mB R aR fs₂) fun b fs₃=>br (lC (fs₃.cF r)) fun l=>if l.length<=a4 then some (.own (.am (iT l a b)),fs₃) else none
noncomputable def Cj (e i:Expr) (fs:X):Option (aU×X):=ob (R.a9 e fs) fun r fs₁=>oE (R.a9 i fs₁) fun k fs₂=>br (fs₂.cF r) fun v=>br (oh v k) fun w=>some (.U w,fs₂)
noncomputable def nF (i:Expr):Option (Option Expr×Option Expr):=match i with
 |.Slice cZ aR ao _=>if ao.isNone=true then some (cZ,aR) else none
 |_=>none
theorem Xf {i:Expr} {cZ aR:Option Expr} (h:nF i=some (cZ,aR)):∃p,i=.Slice cZ aR none p:=by
 cases i with
 |Slice a b ao p=>cases ao with
  |none=>exact b6 (show some (a,b)=some (cZ,aR) from h) ⟨p,rfl⟩
  |some _=>exact Z h
 |_=>exact Z h
theorem IV {i:Expr} (h:nF i=none) (l u:Option Expr) (p:Pos):i≠.Slice l u none p:=fun e=>h3 ((congrArg nF e).symm.trans h)
noncomputable def vZ (e i:Expr) (fs:X):Option (aU×X):=match nF i with
 |some s=>Aa R e s.1 s.2 fs
 |none=>Cj R e i fs
noncomputable def Ok (J:Scope) (f:Expr) (args:List Expr) (pos:Pos) (fs:X):Option (aU×X):=match f with
 |.Attribute e m hY=>UM C R e m hY pos args fs
 |.Name f _=>qB C R J f args fs
 |_=>none
noncomputable def i1 (b9:Scope->bk) (J:Scope) (e:Expr) (fs:X):Option (aU×X):=match e with
 |.Constant c _ _=>Ca c fs
 |.Name x _=>DS J x fs
 |.BoolOp bW vs _=>So (b9 J) bW vs fs
 |.BinOp l bW r _=>Yc (b9 J) l bW r fs
 |.UnaryOp bW x _=>E9 (b9 J) bW x fs
 |.IfExp c a b _=>Vq (b9 J) c a b fs
 |.Dict ks vs _=>QD (b9 J) ks vs fs
 |.List es _=>Xv (b9 J) es fs
 |.Tuple es _ _=>Ks (b9 J) es fs
 |.ListComp elt gens aX _=>zt b9 J elt gens aX fs
 |.Compare l e7 mm _=>NW (b9 J) l e7 mm fs
 |.Call f args lj pos=>if lj.isEmpty=true then Ok C (b9 J) J f args pos fs else none
 |.Attribute e a _=>IL (b9 J) e a fs
 |.Subscript e i _=>vZ (b9 J) e i fs
 |_=>none
noncomputable def vM (R:bk) (e:Expr) (fs:X):Option (Bool×X):=ob (R.a9 e fs) fun r fs₁=>br (fs₁.cF r) fun v=>br (CU v) fun b=>some (b,fs₁)
noncomputable def Nl (R:bk) (bW:UnaryOp) (x e:Expr) (fs:X):Option (Bool×X):=match bW with
 |.Not=>ob (R.dH x fs) fun b fs₁=>some (!b,fs₁)
 |_=>vM R e fs
noncomputable def sz (b9:Scope->bk) (J:Scope) (e:Expr) (fs:X):Option (Bool×X):=match e with
 |.UnaryOp bW x _=>Nl (b9 J) bW x e fs
 |.BoolOp bW vs _=>zv (b9 J) bW vs fs
 |.Compare l e7 mm _=>ob ((b9 J).a9 l fs) fun a fs₁=>q3 (b9 J) a e7 mm fs₁
 |.IfExp ..=>none
 |e=>vM (b9 J) e fs
noncomputable def CY (k:NameKind):Option Bool:=match k with
 |.local=>some false
 |.cell=>some true
 |_=>none
theorem M3 {k:NameKind} {c:Bool} (h:CY k=some c):k=(if c=true then .cell else .local):=by cases k<;>first|exact Z h|exact cC h rfl
noncomputable def xp (c:Bool) (x:Str) (r:aU) (fs:X):Option X:=match r with
 |.U v=>some {fs with loc:=bX x (.U v) fs.loc}
 |.own v=>if c=true then some {loc:=bX x (.U (.per fs.per.length)) fs.loc,per:=fs.per++[v]} else some {fs with loc:=bX x (.aD v) fs.loc}
 |.var _=>none
noncomputable def eL (J:Scope) (x:Str) (r:aU) (fs:X):Option X:=br (J.names.lookup x) fun k=>br (CY k) fun c=>xp c x r fs
theorem zj {J:Scope} {x:Str} {r:aU} {fs fs':X} {G:Prop} (h:eL J x r fs=some fs') (k1:J.names.lookup x=some .local->xp false x r fs=some fs'->G) (k2:J.names.lookup x=some .cell->xp true x r fs=some fs'->G):G:=
 bG h (fun k ag h=>bG h (fun c hc h=>by
  replace ag:=(M3 hc)▸ag
  cases c with
  |true=>exact k2 ag h
  |false=>exact k1 ag h) Z) Z
noncomputable def hL (J:Scope):List Expr->List H->X->Option X
 |[],vs,fs=>if vs.isEmpty=true then some fs else none
 |e::r,vs,fs=>match vs with
  |[]=>none
  |v::t=>br (g0 e) fun x=>br (eL J x (.U v) fs) fun fs₁=>hL J r t fs₁
noncomputable def vn:Expr->Bool
 |.Tuple vs _ _=> !vs.all (constantsAlone 8)
 |_=>true
noncomputable def tU (ts:List Expr):Bool:=ts.all (fun t=>(g0 t).isSome)&&decide (ts.filterMap g0).Nodup
noncomputable def Ej (v:H):Option Nat:=match v with
 |.per k=>some k
 |_=>none
theorem Wh {v:H} {k:Nat} (h:Ej v=some k):v=.per k:=by cases v<;>first|exact Z h|exact cC h rfl
noncomputable def EF (base:aU) (fs:X):Option (H×(H->X)):=match base with
 |.var x=>br (mU x fs) fun v=>some (v,fun w=>{fs with loc:=bX x (.aD w) fs.loc})
 |.U v=>br (Ej v) fun k=>br fs.per[k]? fun v=>some (v,fun w=>{fs with per:=fs.per.set k w})
 |.own _=>none
noncomputable def SP (l:List (al×H)) (k v:H) (jl:H->X):Option X:=br (gc k) fun k=>if l.length<=a4 then some (jl (.V (cU k v l))) else none
noncomputable def Hp (l:List H) (k v:H) (jl:H->X):Option X:=br (fX k) fun i=>if(decide (0<=i)&&(decide (i<1048576)&&decide (i.toNat<l.length)))=true then some (jl (.am (l.set i.toNat v))) else none
noncomputable def p9 (base:aU) (k:H) (v:H) (fs:X):Option X:=ob (EF base fs) fun c jl=>match c with
 |.V l=>SP l k v jl
 |.am l=>Hp l k v jl
 |_=>none
noncomputable def cO:List Stmt->X->Option (bE×X)
 |[],fs=>some (.next,fs)
 |s::r,fs=>ob (R.dg s fs) fun ai fs₁=>match ai with
  |.next=>cO r fs₁
  |.brk=>some (.brk,fs₁)
  |.ret v=>some (.ret v,fs₁)
  |.dA=>some (.dA,fs₁)
noncomputable def qj (ai:bE) (fs:X) (k:X->Option (bE×X)):Option (bE×X):=match ai with
 |.next=>k fs
 |.brk=>some (.next,fs)
 |.ret r=>some (.ret r,fs)
 |.dA=>none
noncomputable def gK (DW:Expr) (body:List Stmt):Nat->X->Option (bE×X)
 |0,_=>none
 |n+1,fs=>ob (R.dH DW fs) fun t fs₁=>if t=true then ob (cO R body fs₁) fun ai fs₂=>qj ai fs₂ (gK DW body n) else some (.next,fs₁)
noncomputable def f1 (J:Scope) (x:Str) (body:List Stmt):List H->X->Option (bE×X)
 |[],fs=>some (.next,fs)
 |v::t,fs=>br (eL J x (.U v) fs) fun j8=>ob (cO R body j8) fun ai fs₁=>qj ai fs₁ (f1 J x body t)
noncomputable def ml:Nat:=1000000
noncomputable def qw (x:Option X):Option (bE×X):=br x fun fs=>some (.next,fs)
@[elab_as_elim] theorem ql {x:Option X} {ai:bE} {fs:X} {G:bE->Prop} (h:qw x=some (ai,fs)) (k:x=some fs->G .next):G ai:=bG h (fun f e h=>by cases h;exact k e) Z
noncomputable def Hb (J:Scope) (x:Str) (r:aU) (fs:X):Option (bE×X):=match r with
 |.U v=>qw (eL J x (.U v) fs)
 |.own v=>qw (eL J x (.own v) fs)
 |.var y=>ob (fs.oC (.var y)) fun v fs₂=>qw (eL J x (.U v) fs₂)
noncomputable def M0 (J:Scope) (ts:List Expr) (e:Expr) (fs:X):Option (bE×X):=if(vn e&&tU ts)=true then zN (R.a9 e fs) fun vs fs₁=>if vs.length<=a4 then qw (hL J ts vs fs₁) else none else none
noncomputable def UO (b i e:Expr) (fs:X):Option (bE×X):=ob (d0 R e fs) fun v fs₁=>ob (R.a9 b fs₁) fun r fs₂=>oE (R.a9 i fs₂) fun k fs₃=>qw (p9 r k v fs₃)
noncomputable def LS (J:Scope) (t e:Expr) (fs:X):Option (bE×X):=match t with
 |.Name x _=>ob (R.a9 e fs) fun r fs₁=>Hb J x r fs₁
 |.Tuple ts _ _=>M0 R J ts e fs
 |.Subscript b i _=>UO R b i e fs
 |_=>none
noncomputable def DR {α:Type u} (l:List α):Option α:=match l with
 |[]=>none
 |a::t=>if t.isEmpty=true then some a else none
theorem TY {α:Type u} {l:List α} {a:α} (h:DR l=some a):l=[a]:=by
 cases l with
 |nil=>exact Z h
 |cons b t=>cases t with
  |nil=>exact cC (show some b=some a from h) rfl
  |cons _ _=>exact Z h
noncomputable def CI (ai:bE) (fs:X):Option (bE×X):=match ai with
 |.ret _=>some (.next,fs)
 |.dA=>some (.dA,fs)
 |.next=>none
 |.brk=>none
noncomputable def Nc (J:Scope) (f:Str) (args:List Expr) (fs:X):Option (bE×X):=if(decide (J.names.lookup f=some .globalImplicit)&&j0 f)=true then ob (dk R args fs) fun vs fs₁=>ob (C f vs fs₁.per) fun ai per=>CI ai {fs₁ with per:=per} else none
noncomputable def PB (J:Scope) (f:Expr) (args:List Expr) (p:Pos) (fs:X):Option (bE×X):=match f with
 |.Name f _=>Nc C R J f args fs
 |.Attribute o m hp=>ob (R.a9 (.Call (.Attribute o m hp) args [] p) fs) fun _ fs₁=>some (.next,fs₁)
 |_=>none
noncomputable def Kk (J:Scope) (e:Expr) (fs:X):Option (bE×X):=match e with
 |.Call f args lj p=>if lj.isEmpty=true then PB C R J f args p fs else none
 |_=>none
noncomputable def HZ (b:Bool) (J:Scope) (e d:Option Expr) (fs:X):Option (bE×X):=br e fun e=>ob (zX e) fun f args=>br (g0 f) fun c=>br (r2 args) fun a=>
 if(isStr a&&(d.isNone&&(b&&(decide (c=("TreeFault":Str))&&J.names.lookup c==some .globalImplicit))))=true then some (.dA,fs) else none
noncomputable def Gk (ai:bE) (fs:X) (h:X->Option (bE×X)):Option (bE×X):=match ai with
 |.dA=>r0 (h fs) fun r fs₂=>some (.ret r,fs₂)
 |.next=>some (.next,fs)
 |.brk=>some (.brk,fs)
 |.ret r=>some (.ret r,fs)
noncomputable def Yd (Rh:Option (Scope->bk)) (J:Scope) (body:List Stmt) (hs:List ExceptHandler) (gO cI:List Stmt) (fs:X):Option (bE×X):=br Rh fun Rh=>ob (Ez hs gO cI) fun c ah=>
 if(decide (c=("TreeFault":Str))&&(J.names.lookup c==some .globalImplicit&&(J.names.all (fun p=>p.2 !=.free)&& !ah.isEmpty)))=true then ob (cO R body fs) fun ai fs₁=>Gk ai fs₁ (cO (Rh J) ah) else none
noncomputable def JR (e:Option Expr) (fs:X):Option (bE×X):=br e fun e=>ob (R.a9 e fs) fun r fs₁=>ob (fs₁.take r) fun r fs₂=>some (.ret r,fs₂)
noncomputable def Vh (c:Expr) (a b:List Stmt) (fs:X):Option (bE×X):=ob (R.dH c fs) fun t fs₁=>if t=true then cO R a fs₁ else cO R b fs₁
noncomputable def Mn (J:Scope) (t iter:Expr) (body gO:List Stmt) (fs:X):Option (bE×X):=br (g0 t) fun x=>if gO.isEmpty=true then ob (hG R J iter fs) fun items fs₁=>f1 R J x body items fs₁ else none
noncomputable def pO (b9:Scope->bk) (Rh:Option (Scope->bk)) (J:Scope) (s:Stmt) (fs:X):Option (bE×X):=match s with
 |.Return e _=>JR (b9 J) e fs
 |.Break _=>some (.brk,fs)
 |.If c a b _=>Vh (b9 J) c a b fs
 |.While c body gO _=>if gO.isEmpty=true then gK (b9 J) c body ml fs else none
 |.For t iter body gO _=>Mn (b9 J) J t iter body gO fs
 |.Assign ts e _=>br (DR ts) fun t=>LS (b9 J) J t e fs
 |.Expr e _=>Kk C (b9 J) J e fs
 |.Raise e d _=>HZ Rh.isSome J e d fs
 |.Try body hs gO cI _=>Yd (b9 J) Rh J body hs gO cI fs
 |_=>none
end
noncomputable def aJ:Bool->cs->cs->Nat->Scope->bk
 |_,_,_,0,_=>⟨fun _ _=>none,fun _ _=>none,fun _ _=>none⟩
 |b,C,CQ,n+1,J=>⟨i1 C (aJ b C CQ n) J,sz (aJ b C CQ n) J,pO C (aJ b C CQ n) (if b then some (aJ false CQ CQ n) else none) J⟩
noncomputable def params (ao:Stmt):List Str:=(u7 ao).args.map (·.arg)
noncomputable def jo:List Str->List H->Option (List (Str×cf))
 |[],vs=>if vs.isEmpty=true then some [] else none
 |x::r,vs=>match vs with
  |[]=>none
  |v::t=>br (jo r t) fun l=>some ((x,.U v)::l)
noncomputable def Vi (ai:bE) (fs:X):Option (bE×List H):=match ai with
 |.ret r=>some (.ret r,fs.per)
 |.next=>some (.ret (.U .none),fs.per)
 |.dA=>some (.dA,fs.per)
 |.brk=>none
noncomputable def lA:Nat:=40
noncomputable def jm (b:Bool) (C CQ:cs) (ao:Stmt) (args per:List H):Option (bE×List H):=
 br (jo (params ao) args) fun loc=>ob (cO (aJ b C CQ lA (bO ao)) (g5 ao) ⟨loc,per⟩) Vi
noncomputable def aH (b:Bool):Nat->cs
 |0=>fun _ _ _=>none
 |k+1=>fun f args per=>br (du f) fun ao=>jm b (aH b k) (aH false k) ao args per
end Mine
end
section
open PySem PySem.W PySem.Calls PyProof.Rows
namespace Mine
noncomputable def iq:al->Value->Bool
 |.int i,v=>Value.isInt i v
 |.str s,v=>Value.isStrOf s v
noncomputable def keyHash (w:World):al->Int
 |.int i=>hashInt i
 |.str s=>hashStr w s
theorem jp {i:Int} {v:Value} (h:iq (.int i) v=true):∃t,v=.int i t:=Value.isInt_shape h
theorem jG {x:Str} {v:Value} (h:iq (.str x) v=true):∃t,v=.str x t:=Value.isStrOf_shape h
theorem Ma (i:Int) (t:Tok):iq (.int i) (.int i t)=true:=by simp [iq,Value.isInt]
theorem Gw (x:Str) (t:Tok):iq (.str x) (.str x t)=true:=by simp [iq,Value.isStrOf]
section
variable{prog:Program} {w:World} {A:Around} {E:Value->Shared->Prop} {s:Shared}
theorem JY {a:Int} {b:Str} {t u:Tok} {Q:Bool->Shared->Prop} (h:Q false s):wpAny (model prog w) A (eqBool (.int a t) (.str b u)) Q E s:=by
 unfold eqBool
 refine wpAny_holding ?_
 refine B (if_neg (show¬((Value.int a t==Value.str b u)=true) from by simp)) ?_
 exact wpAny_bind (EqMixed.eq_int_str (wpAny_truthy_bool h))
theorem XX {a:Str} {b:Int} {t u:Tok} {Q:Bool->Shared->Prop} (h:Q false s):wpAny (model prog w) A (eqBool (.str a t) (.int b u)) Q E s:=by
 unfold eqBool
 refine wpAny_holding ?_
 refine B (if_neg (show¬((Value.str a t==Value.int b u)=true) from by simp)) ?_
 exact wpAny_bind (EqMixed.eq_str_int (wpAny_truthy_bool h))
end
noncomputable def Lk (prog:Program) (w:World):KeyKind prog w al where
 is:=iq
 hash:=keyHash w
 inj:=fun v a b bz ah=>by
  cases a with
  |int i=>
   refine bT (jp bz) ?_;intro t u;subst u
   cases b with
   |int j=>obtain⟨u,b2⟩:=jp ah;injection b2 with h;(refine B h ?_;rfl)
   |str y=>obtain⟨u,b2⟩:=jG ah;cases b2
  |str x=>
   refine bT (jG bz) ?_;intro t u;subst u
   cases b with
   |int j=>obtain⟨u,b2⟩:=jp ah;cases b2
   |str y=>obtain⟨u,b2⟩:=jG ah;injection b2 with h;(refine B h ?_;rfl)
 byValue:=fun k v h=>by
  cases k with
  |int i=>obtain⟨t,rfl⟩:=jp h;rfl
  |str x=>obtain⟨t,rfl⟩:=jG h;rfl
 pyHash:=fun{A E s k v Q} ay h=>by
  cases k with
  |int i=>obtain⟨t,rfl⟩:=jp ay;exact wpAny_pyHash_int h
  |str x=>obtain⟨t,rfl⟩:=jG ay;exact wpAny_pyHash_str h
 eqBool:=fun{A E s a b u v Q} b2 ay h=>by
  cases a with
  |int i=>
   refine bT (jp b2) ?_;intro t u;subst u
   cases b with
   |int j=>obtain⟨dR,rfl⟩:=jp ay;exact wpAny_eqBool_int (by refine B (show(i==j)=decide (al.int i=al.int j) from by(by_cases zV:i=j<;>simp [zV])) ?_;exact h)
   |str y=>obtain⟨dR,rfl⟩:=jG ay;refine JY ?_;simpa using h
  |str x=>
   refine bT (jG b2) ?_;intro t u;subst u
   cases b with
   |int j=>obtain⟨dR,rfl⟩:=jp ay;refine XX ?_;simpa using h
   |str y=>obtain⟨dR,rfl⟩:=jG ay;exact wpAny_eqBool_str (by refine B (show decide (x=y)=decide (al.str x=al.str y) from by(by_cases zV:x=y<;>simp [zV])) ?_;exact h)
 «strs»:=fun k x t v h=>by
  cases k with
  |int i=>obtain⟨u,b2⟩:=jp h;cases b2
  |str y=>
   refine bT (jG h) ?_;intro u b2
   injection b2 with ae
   subst ae
   cases v<;>rfl
inductive cT where
 |free|aV|bf (ob:Obj)|per (k:Nat)|aD (x:Str)|frame|cell|stack
noncomputable abbrev a5:=Addr->cT
noncomputable def cT.k6:cT->Nat
 |.free=>0
 |.aV=>1
 |.bf _=>2
 |.per _=>3
 |.aD _=>4
 |.frame=>5
 |.cell=>6
 |.stack=>7
theorem bI {x r r':cT} (e:x=r) (h:(r.k6==r'.k6)=false:=by rfl):x≠r':=fun q=>by
 (replace h:=(Eq.symm e)▸h;replace h:=q▸h;rw [beq_self_eq_true] at h);exact Bool.noConfusion h
theorem d7 {ρ:a5} {a b:Addr} {r r':cT} (e:ρ b=r) (hd:ρ a=r') (h:(r.k6==r'.k6)=false:=by rfl):b≠a:=fun q=>by
 (replace e:=q▸e;replace e:=hd▸e);(replace h:=e▸h;rw [beq_self_eq_true] at h);exact Bool.noConfusion h
noncomputable abbrev kk (w:World):KeyKind aw w al:=Lk aw w
noncomputable abbrev mN (vs:List Value) (n:Nat):Obj:={cls:=.type "list",dict:=none,data:=.seq (Array.mk vs) n,slots:= #[]}
noncomputable abbrev qC (vs:List Value) (n:Nat):Obj:={cls:=.type "tuple",dict:=none,data:=.seq (Array.mk vs) n,slots:= #[]}
noncomputable abbrev cn:=Str->Option Addr
section
variable(w:World) (CM:cn) (ρ:a5)
mutual
noncomputable def bY:H->Value->Prop
 |.none,v=>v=.none
 |.bool b,v=>v=.bool b
 |.int i,v=>∃t,v=.int i t
 |.str x,v=>∃t,v=.str x t
 |.aF l,v=>∃a vs n,v=.ref a/\ρ a=.bf (qC vs n)/\a8 l vs
 |.am l,v=>∃a vs n,v=.ref a/\ρ a=.bf (mN vs n)/\a8 l vs
 |.V l,v=>∃a ob es cq aS,v=.ref a/\(a==sysModules)=false/\ρ a=.bf ob/\ob.ExactDict/\ob.data=.dict es cq/\KeysOf (kk w) es/\Pairs (kk w) es.toList aS/\(aS.map (·.1)).Nodup/\dV l aS
 |.dT c fs,v=>∃a d gV C,v=.ref a/\CM c=some C/\ρ a=.bf (instObj C d)/\ρ d=.bf gV/\(∀n,iC n fs=none->lookIn n gV=some none)/\kr fs (fun n=>(lookIn n gV).join)
 |.per k,v=>∃a,v=.ref a/\ρ a=.per k
noncomputable def a8:List H->List Value->Prop
 |[],vs=>vs=[]
 |x::r,vs=>∃v t,vs=v::t/\bY x v/\a8 r t
noncomputable def dV:List (al×H)->List (al×Value)->Prop
 |[],aS=>aS=[]
 |(k,x)::r,aS=>∃v t,aS=(k,v)::t/\bY x v/\dV r t
noncomputable def kr:List (Str×H)->(Str->Option Value)->Prop
 |[],_=>True
 |(n,x)::r,m=>(∃v,m n=some v/\bY x v)/\kr r m
end
end
mutual
theorem bY.bt {w:World} {CM:cn} {ρ ρ':a5} (aB:∀a ob,ρ a=.bf ob->ρ' a=.bf ob) (an:∀a k,ρ a=.per k->ρ' a=.per k):∀{x:H} {v:Value},bY w CM ρ x v->bY w CM ρ' x v
 |.none,_,h=>h
 |.bool _,_,h=>h
 |.int _,_,h=>h
 |.str _,_,h=>h
 |.aF _,_,⟨a,vs,n,M,O,Y⟩=>⟨a,vs,n,M,aB _ _ O,a8.bt aB an Y⟩
 |.am _,_,⟨a,vs,n,M,O,Y⟩=>⟨a,vs,n,M,aB _ _ O,a8.bt aB an Y⟩
 |.V _,_,⟨a,ob,es,cq,aS,M,aL,O,Y,aC,bR,dK,f6,o6⟩=>⟨a,ob,es,cq,aS,M,aL,aB _ _ O,Y,aC,bR,dK,f6,dV.bt aB an o6⟩
 |.dT _ _,_,⟨a,d,gV,C,M,O,Y,aC,bR,dK⟩=>⟨a,d,gV,C,M,O,aB _ _ Y,aB _ _ aC,bR,kr.bt aB an dK⟩
 |.per _,_,⟨a,M,O⟩=>⟨a,M,an _ _ O⟩
theorem a8.bt {w:World} {CM:cn} {ρ ρ':a5} (aB:∀a ob,ρ a=.bf ob->ρ' a=.bf ob) (an:∀a k,ρ a=.per k->ρ' a=.per k):∀{l:List H} {vs:List Value},a8 w CM ρ l vs->a8 w CM ρ' l vs
 |[],_,h=>h
 |_::_,_,⟨v,t,M,O,Y⟩=>⟨v,t,M,bY.bt aB an O,a8.bt aB an Y⟩
theorem dV.bt {w:World} {CM:cn} {ρ ρ':a5} (aB:∀a ob,ρ a=.bf ob->ρ' a=.bf ob) (an:∀a k,ρ a=.per k->ρ' a=.per k):∀{l:List (al×H)} {vs:List (al×Value)},dV w CM ρ l vs->dV w CM ρ' l vs
 |[],_,h=>h
 |(_,_)::_,_,⟨v,t,M,O,Y⟩=>⟨v,t,M,bY.bt aB an O,dV.bt aB an Y⟩
theorem kr.bt {w:World} {CM:cn} {ρ ρ':a5} (aB:∀a ob,ρ a=.bf ob->ρ' a=.bf ob) (an:∀a k,ρ a=.per k->ρ' a=.per k):∀{l:List (Str×H)} {m:Str->Option Value},kr w CM ρ l m->kr w CM ρ' l m
 |[],_,_=>trivial
 |(_,_)::_,_,⟨⟨v,M,O⟩,Y⟩=>⟨⟨v,M,bY.bt aB an O⟩,kr.bt aB an Y⟩
end
end Mine
end
section
open PySem PySem.W PySem.Calls PyProof.Rows
namespace Mine
section
variable(w:World) (CM:cn)
noncomputable def dN (ρ:a5) (h:Heap) (a:Addr):H->Prop
 |.am l=>∃vs n,h.get? a=some (mN vs n)/\a8 w CM ρ l vs
 |.V l=>∃ob es cq aS,(a==sysModules)=false/\h.get? a=some ob/\ob.ExactDict/\ob.data=.dict es cq/\KeysOf (kk w) es/\Pairs (kk w) es.toList aS/\(aS.map (·.1)).Nodup/\dV w CM ρ l aS
 |_=>False
structure Top where
 f:Frag
 eH:Option (Addr×Obj)
 frames:List Addr
noncomputable def e0:cT->Prop
 |.frame=>True
 |.stack=>True
 |_=>False
noncomputable def Cx (o:Obj):Prop:=∀vs,o.data≠.fields vs
structure cK (K:Top) (ρ:a5) (s:Shared) (per:List H):Prop where
 fW:∀a x,K.f.lookup a=some x->ρ a=.bf x
 ft:∀a x,K.eH=some (a,x)->ρ a=.bf x
 fi:∀a,a∈K.frames->e0 (ρ a)/\∃o,s.heap.get? a=some o/\Cx o
 bK:∀a ob,ρ a=.bf ob->s.heap.get? a=some ob
 c2:∀a,ρ a=.free↔s.heap.get? a=none
 gx:∀k,k<per.length->∃a,ρ a=.per k
 fU:∀a k,ρ a=.per k->∃x,per[k]? =some x/\dN w CM ρ s.heap a x
 inj:∀a b k,ρ a=.per k->ρ b=.per k->a=b
noncomputable def iJ (ρ:a5):Prop:=∀a,(∀x,ρ a≠.aD x)/\ρ a≠.frame/\ρ a≠.cell
noncomputable def uB (ρ:a5) (x:Str):cf->Value->Prop
 |.U v,val=>bY w CM ρ v val
 |.aD _,val=>∃a,val=.ref a/\ρ a=.aD x
noncomputable def e4 (env:Env) (J:Scope) (h:Heap) (x:Str) (v:Value):Prop:=
 (J.names.lookup x=some .local/\env.kindOf x=some .local/\∃m,h.Ns env.locals m/\m x=some v)\/
 ((J.names.lookup x=some .cell\/J.names.lookup x=some .free)/\env.kindOf x=some .cell/\∃c,env.cells.lookup x=some c/\h.IsCell c (some v))
structure nY (env:Env) (J:Scope):Prop where
 kind:env.scope.kind=.function
 tB:env.globals=mainGlobals
 l6:env.builtins=builtinsNs
 loc:∀x,J.names.lookup x=some .local->env.kindOf x=some .local
 fb:∀x,J.names.lookup x=some .cell->env.kindOf x=some .cell
 c2:∀x,J.names.lookup x=some .free->env.kindOf x=some .cell
 imp:∀x,J.names.lookup x=some .globalImplicit->env.kindOf x=some .globalImplicit
structure aK (K:Top) (env:Env) (J:Scope) (ρ:a5) (s:Shared) (fs:X):Prop where
 base:cK w CM K ρ s fs.per
 c0:nY env J
 cJ:ρ env.locals=.frame
 fx:∃m,s.heap.Ns env.locals m
 eW:∀x bh,getL x fs.loc=some bh->∃v,e4 env J s.heap x v/\uB w CM ρ x bh v
 cells:∀x,J.names.lookup x=some .cell->∃c v,env.cells.lookup x=some c/\ρ c=.cell/\c≠env.locals/\s.heap.IsCell c v
 frees:∀x c,J.names.lookup x=some .free->env.cells.lookup x=some c->ρ c=.aV
 apart:∀x y c,env.cells.lookup x=some c->env.cells.lookup y=some c->x=y
 e1:∀a x,ρ a=.aD x->J.names.lookup x=some .local/\∃c,getL x fs.loc=some (.aD c)/\dN w CM ρ s.heap a c
 fk:∀a b x,ρ a=.aD x->ρ b=.aD x->a=b
end
structure a1 (ρ:a5) (s:Shared) (ρ':a5) (az:Shared):Prop where
 bK:∀a ob,ρ a=.bf ob->ρ' a=.bf ob
 aV:∀a,ρ a=.aV->ρ' a=.aV
 per:∀a k,ρ a=.per k->ρ' a=.per k
 cJ:∀a,ρ a=.frame->ρ' a=.frame
 fb:∀a,ρ a=.cell->ρ' a=.cell
 stk:∀a,ρ a=.stack->ρ' a=.stack
 aD:∀a x,ρ a=.aD x->ρ' a=.aD x\/ρ' a=.aV\/∃ob,ρ' a=.bf ob
 keep:∀a ob,ρ a=.aV->s.heap.get? a=some ob->az.heap.get? a=some ob
 hW:∀a ob,ρ a=.stack->s.heap.get? a=some ob->∃f0,az.heap.get? a=some {ob with slots:=f0}
 ao:∃h tk,az={s with heap:=h,toks:=tk}
structure cb (ρ:a5) (loc:List (Str×cf)) (ρ':a5) (Fk:List (Str×cf)):Prop where
 U:∀x v,getL x loc=some (.U v)->getL x Fk=some (.U v)
 aD:∀a x,ρ a=.aD x->ρ' a=.aD x\/∃v,getL x Fk=some (.U v)
 gv:∀a x,ρ' a=.aD x->ρ a=.aD x
theorem a1.refl (ρ:a5) (s:Shared):a1 ρ s ρ s:=
 ⟨fun _ _ h=>h,fun _ h=>h,fun _ _ h=>h,fun _ h=>h,fun _ h=>h,fun _ h=>h,fun _ _ h=>.inl h,fun _ _ _ h=>h,fun _ _ _ h=>⟨_,h⟩,⟨_,_,rfl⟩⟩
theorem a1.trans {ρ aN b8:a5} {s aj ct:Shared} (x:a1 ρ s aN aj) (y:a1 aN aj b8 ct):a1 ρ s b8 ct where
 bK:=fun a ob h=>y.bK a ob (x.bK a ob h)
 aV:=fun a h=>y.aV a (x.aV a h)
 per:=fun a k h=>y.per a k (x.per a k h)
 cJ:=fun a h=>y.cJ a (x.cJ a h)
 fb:=fun a h=>y.fb a (x.fb a h)
 stk:=fun a h=>y.stk a (x.stk a h)
 aD:=fun a n h=>by
  rcases x.aD a n h with h|h|⟨ob,h⟩
  ·exact y.aD a n h
  ·exact .inr (.inl (y.aV a h))
  ·exact .inr (.inr ⟨ob,y.bK a ob h⟩)
 keep:=fun a ob h e=>y.keep a ob (x.aV a h) (x.keep a ob h e)
 hW:=fun a ob h e=>let⟨_,JM⟩:=x.hW a ob h e;let⟨f0,JZ⟩:=y.hW a _ (x.stk a h) JM;⟨f0,JZ⟩
 ao:=by
  refine jf x.ao ?_;intro h tk u;subst u
  refine jf y.ao ?_;intro h' lv u;subst u
  exact⟨h',lv,rfl⟩
theorem cb.refl (ρ:a5) (l:List (Str×cf)):cb ρ l ρ l:=⟨fun _ _ h=>h,fun _ _ h=>.inl h,fun _ _ h=>h⟩
theorem cb.trans {ρ aN b8:a5} {l l₁ l₂:List (Str×cf)} (x:cb ρ l aN l₁) (y:cb aN l₁ b8 l₂):cb ρ l b8 l₂ where
 U:=fun n v h=>y.U n v (x.U n v h)
 aD:=fun a n h=>by
  rcases x.aD a n h with h|⟨v,h⟩
  ·exact y.aD a n h
  ·exact .inr ⟨v,y.U n v h⟩
 gv:=fun a n h=>x.gv a n (y.gv a n h)
section
variable{w:World} {CM:cn} {K:Top} {env:Env} {J:Scope} {ρ ρ₀ ρ':a5} {s c9 az:Shared} {fs:X} {h h':Heap}
theorem dN.bt {a:Addr} {x:H} (aB:∀a ob,ρ a=.bf ob->ρ' a=.bf ob) (an:∀a k,ρ a=.per k->ρ' a=.per k) (ag:∀ob,h.get? a=some ob->h'.get? a=some ob) (q:dN w CM ρ h a x):dN w CM ρ' h' a x:=by
 cases x with
 |am l=>obtain⟨vs,n,M,O⟩:=q;exact⟨vs,n,ag _ M,O.bt aB an⟩
 |V l=>obtain⟨ob,es,cq,aS,aL,M,O,Y,aC,bR,dK,f6⟩:=q;exact⟨ob,es,cq,aS,aL,ag _ M,O,Y,aC,bR,dK,f6.bt aB an⟩
 |_=>exact q.elim
theorem dN.e5 {a:Addr} {x:H} (q:dN w CM ρ h a x):∃ob,h.get? a=some ob:=by
 cases x with
 |am l=>obtain⟨vs,n,M,_⟩:=q;exact⟨_,M⟩
 |V l=>obtain⟨ob,es,cq,aS,aL,M,_⟩:=q;exact⟨ob,M⟩
 |_=>exact q.elim
theorem dN.gg {a:Addr} {x:H} {ob:Obj} (q:dN w CM ρ h a x) (e:h.get? a=some ob) (aB:∀a ob,ρ a=.bf ob->ρ' a=.bf ob) (an:∀a k,ρ a=.per k->ρ' a=.per k) (bz:ρ' a=.bf ob):bY w CM ρ' x (.ref a):=by
 cases x with
 |am l=>obtain⟨vs,n,M,O⟩:=q;replace e:=M▸e;cases e;exact⟨a,vs,n,rfl,bz,O.bt aB an⟩
 |V l=>obtain⟨hu,es,cq,aS,aL,M,O,Y,aC,bR,dK,f6⟩:=q;replace e:=M▸e;cases e;exact⟨a,ob,es,cq,aS,rfl,aL,bz,O,Y,aC,bR,dK,f6.bt aB an⟩
 |_=>exact q.elim
theorem e4.bt {x:Str} {v:Value} (q:e4 env J h x v) (ag:∀a ob,h.get? a=some ob->h'.get? a=some ob):e4 env J h' x v:=by
 rcases q with⟨M,O,m,Y,aC⟩|⟨M,O,c,Y,aC⟩
 ·exact .inl ⟨M,O,m,Y.keeps ag,aC⟩
 ·exact .inr ⟨M,O,c,Y,aC.keeps ag⟩
theorem uB.bt {x:Str} {bh:cf} {v:Value} (q:uB w CM ρ x bh v) (aB:∀a ob,ρ a=.bf ob->ρ' a=.bf ob) (an:∀a k,ρ a=.per k->ρ' a=.per k) (bx:∀a x,ρ a=.aD x->ρ' a=.aD x):uB w CM ρ' x bh v:=by
 cases bh with
 |U y=>exact bY.bt aB an q
 |aD y=>obtain⟨a,M,O⟩:=q;exact⟨a,M,bx _ _ O⟩
open Classical in
noncomputable def bQ (ρ:a5) (h':Heap):a5:=fun a=>if ρ a=.free/\h'.get? a≠none then .aV else ρ a
theorem lY {a:Addr} (aE:ρ a≠.free):bQ ρ h' a=ρ a:=if_neg fun q=>aE q.1
theorem gR {a:Addr} {o:Obj} (aL:ρ a=.free) (h:h'.get? a=some o):bQ ρ h' a=.aV:=if_pos ⟨aL,fun q=>h3 (h.symm.trans q)⟩
theorem mE {a:Addr} {r:cT} (M:(r.k6==0)=false:=by rfl) (O:(r.k6==1)=false:=by rfl):bQ ρ h' a=r↔ρ a=r:=by
 unfold bQ
 by_cases q:ρ a=.free/\h'.get? a≠none
 ·refine B (if_pos q) ?_
  exact⟨fun e=>lr (O.symm.trans (by refine bu e ?_;rfl)),fun e=>lr (M.symm.trans (by(refine bu e ?_;refine B q.1 ?_);rfl))⟩
 ·(refine B (if_neg q) ?_;rfl)
theorem h9 {a:Addr} {ob:Obj}:bQ ρ h' a=.bf ob↔ρ a=.bf ob:=mE
theorem gT {a:Addr} {k:Nat}:bQ ρ h' a=.per k↔ρ a=.per k:=mE
theorem f8 {a:Addr} {x:Str}:bQ ρ h' a=.aD x↔ρ a=.aD x:=mE
theorem o9 {a:Addr}:bQ ρ h' a=.cell↔ρ a=.cell:=mE
theorem BS {a:Addr}:bQ ρ h' a=.stack↔ρ a=.stack:=mE
theorem nZ {a:Addr}:bQ ρ h' a=.frame↔ρ a=.frame:=mE
theorem D9 {a:Addr} (h:e0 (ρ a)):e0 (bQ ρ h' a):=by
 refine B (lY (fun q=>by rw [q] at h;exact h)) ?_;exact h
theorem ms {a:Addr} (h:ρ a=.aV):bQ ρ h' a=.aV:=(lY (fun q=>cT.noConfusion (h.symm.trans q))).trans h
theorem Ba {a:Addr} {h:Heap} (aB:ρ a=.free↔h.get? a=none) (ag:h'.get? a=none->h.get? a=none):bQ ρ h' a=.free↔h'.get? a=none:=by
 unfold bQ
 by_cases q:ρ a=.free/\h'.get? a≠none
 ·refine B (if_pos q) ?_;exact⟨fun e=>cT.noConfusion e,fun e=>absurd e q.2⟩
 ·refine B (if_neg q) ?_;exact⟨fun e=>Classical.byContradiction fun n=>q ⟨e,n⟩,fun e=>aB.mpr (ag e)⟩
theorem xu {a:Addr} {h:Heap} (aB:ρ a=.free↔h.get? a=none) (ag:∀ob,h.get? a=some ob->h'.get? a=some ob):bQ ρ h' a=.free↔h'.get? a=none:=Ba aB fun e=>by
 cases bx:h.get? a with
 |none=>rfl
 |some ob=>exact h3 ((ag _ bx).symm.trans e)
theorem cK.dD {per:List H} {h':Heap} {tk:Nat} (ap:cK w CM K ρ s per) (ag:∀a ob,s.heap.get? a=some ob->h'.get? a=some ob):cK w CM K (bQ ρ h') {s with heap:=h',toks:=tk} per where
 fW:=fun a x e=>h9.mpr (ap.fW a x e)
 ft:=fun a x e=>h9.mpr (ap.ft a x e)
 fi:=fun a e=>let⟨M,o,O,Y⟩:=ap.fi a e;⟨D9 M,o,ag _ _ O,Y⟩
 bK:=fun a ob e=>ag _ _ (ap.bK a ob (h9.mp e))
 c2:=fun a=>xu (ap.c2 a) (ag a)
 gx:=fun k cy=>let⟨a,e⟩:=ap.gx k cy;⟨a,gT.mpr e⟩
 fU:=fun a k e=>let⟨x,M,O⟩:=ap.fU a k (gT.mp e);⟨x,M,O.bt (fun _ _ q=>h9.mpr q) (fun _ _ q=>gT.mpr q) (fun ob=>ag a ob)⟩
 inj:=fun a b k ak ar=>ap.inj a b k (gT.mp ak) (gT.mp ar)
theorem aK.dD {h':Heap} {tk:Nat} (I:aK w CM K env J ρ s fs) (ag:∀a ob,s.heap.get? a=some ob->h'.get? a=some ob):aK w CM K env J (bQ ρ h') {s with heap:=h',toks:=tk} fs where
 base:=I.base.dD ag
 c0:=I.c0
 cJ:=nZ.mpr I.cJ
 fx:=let⟨m,e⟩:=I.fx;⟨m,e.keeps ag⟩
 eW:=fun x bh e=>let⟨v,M,O⟩:=I.eW x bh e;⟨v,M.bt ag,O.bt (fun _ _ q=>h9.mpr q) (fun _ _ q=>gT.mpr q) (fun _ _ q=>f8.mpr q)⟩
 cells:=fun x e=>let⟨c,v,M,O,Y,aC⟩:=I.cells x e;⟨c,v,M,o9.mpr O,Y,aC.keeps ag⟩
 frees:=fun x c ak ar=>ms (I.frees x c ak ar)
 apart:=I.apart
 e1:=fun a x e=>let⟨aL,c,M,O⟩:=I.e1 a x (f8.mp e);⟨aL,c,M,O.bt (fun _ _ q=>h9.mpr q) (fun _ _ q=>gT.mpr q) (fun ob=>ag a ob)⟩
 fk:=fun a b x ak ar=>I.fk a b x (f8.mp ak) (f8.mp ar)
theorem a1.dD {h':Heap} {tk:Nat} (ag:∀a ob,s.heap.get? a=some ob->h'.get? a=some ob):a1 ρ s (bQ ρ h') {s with heap:=h',toks:=tk} where
 bK:=fun a ob e=>h9.mpr e
 aV:=fun a e=>ms e
 per:=fun a k e=>gT.mpr e
 cJ:=fun a e=>nZ.mpr e
 fb:=fun a e=>o9.mpr e
 stk:=fun a e=>BS.mpr e
 aD:=fun a x e=>.inl (f8.mpr e)
 keep:=fun a ob _ e=>ag _ _ e
 hW:=fun a ob _ e=>⟨_,ag _ _ e⟩
 ao:=⟨_,_,rfl⟩
theorem cb.dD {h':Heap} {l:List (Str×cf)}:cb ρ l (bQ ρ h') l:=⟨fun _ _ e=>e,fun _ _ e=>.inl (f8.mpr e),fun _ _ e=>f8.mp e⟩
noncomputable def cx (ρ:a5) (a:Addr) (r:cT):a5:=fun b=>if b=a then r else ρ b
theorem dJ {a:Addr} {r:cT}:cx ρ a r a=r:=if_pos rfl
theorem bq {a b:Addr} {r:cT} (aE:b≠a):cx ρ a r b=ρ b:=if_neg aE
noncomputable def eP (w:World) (CM:cn) (ρ₀ ρ:a5) (s:Shared) (fs:X):aU->Value->Prop
 |.U x,v=>bY w CM ρ x v
 |.own x,v=>∃a,v=.ref a/\ρ₀ a=.free/\ρ a=.aV/\dN w CM ρ s.heap a x
 |.var x,v=>∃a,v=.ref a/\(ρ a=.aD x\/∃y,getL x fs.loc=some (.U y))
theorem eP.bt {aN:a5} {aj:Shared} {fs₁:X} {r:aU} {v:Value} (q:eP w CM ρ₀ ρ s fs r v) (x:a1 ρ s aN aj) (y:cb ρ fs.loc aN fs₁.loc):eP w CM ρ₀ aN aj fs₁ r v:=by
 cases r with
 |U z=>exact bY.bt x.bK x.per q
 |own z=>obtain⟨a,M,O,Y,aC⟩:=q;exact⟨a,M,O,x.aV a Y,aC.bt x.bK x.per (fun ob=>x.keep a ob Y)⟩
 |var n=>
  refine bb q ?_;clear q;intro a M O
  refine⟨a,M,?_⟩
  rcases O with O|⟨hm,O⟩
  ·rcases y.aD a n O with Y|⟨eY,Y⟩
   ·exact .inl Y
   ·exact .inr ⟨eY,Y⟩
  ·exact .inr ⟨hm,y.U n hm O⟩
theorem eP.gX {aN:a5} {r:aU} {v:Value} (q:eP w CM aN ρ s fs r v) (ah:∀a,aN a=.free->ρ₀ a=.free):eP w CM ρ₀ ρ s fs r v:=by
 cases r with
 |U z=>exact q
 |own z=>obtain⟨a,M,O,Y⟩:=q;exact⟨a,M,ah a O,Y⟩
 |var n=>exact q
theorem a1.ic (x:a1 ρ s ρ' az):∀a,ρ' a=.free->ρ a=.free:=fun a h=>by
 cases e:ρ a with
 |free=>rfl
 |aV=>replace h:=(x.aV a e)▸h;cases h
 |bf ob=>replace h:=(x.bK a ob e)▸h;cases h
 |per k=>replace h:=(x.per a k e)▸h;cases h
 |frame=>replace h:=(x.cJ a e)▸h;cases h
 |cell=>replace h:=(x.fb a e)▸h;cases h
 |stack=>replace h:=(x.stk a e)▸h;cases h
 |aD n=>rcases x.aD a n e with q|q|⟨ob,q⟩<;>replace h:=q▸h<;>cases h
inductive cv (w:World) (CM:cn) (ρ:a5) (s:Shared) (x:H) (v:Value):Prop where
 |gg (h:bY w CM ρ x v)
 |at(a:Addr) (ay:v=.ref a) (h:dN w CM ρ s.heap a x)
end
end Mine
end
section
open PySem PySem.W PySem.Calls PyProof.Rows
namespace Mine
theorem j2 {x:Str} {v:cf}:∀{l:List (Str×cf)},getL x (bX x v l)=some v
 |[]=>by simp [bX,getL]
 |(y,u)::r=>by
  unfold bX
  split
  ·rename_i h;simp [getL,h]
  ·rename_i h;simp only [getL,if_neg h];exact j2
theorem iG {x y:Str} {v:cf} (aE:y≠x):∀{l:List (Str×cf)},getL y (bX x v l)=getL y l
 |[]=>by simp [bX,getL,aE]
 |(z,u)::r=>by
  unfold bX
  split
  ·rename_i h;subst h;simp [getL,aE]
  ·rename_i h
   simp only [getL]
   split
   ·rfl
   ·exact iG aE
theorem qW {x:Str}:∀{l:List (Str×cf)},getL x (jT x l)=none
 |[]=>rfl
 |(y,u)::r=>by
  unfold jT
  split
  ·exact qW
  ·rename_i h;simp only [getL,if_neg h];exact qW
theorem rQ {x y:Str} (aE:y≠x):∀{l:List (Str×cf)},getL y (jT x l)=getL y l
 |[]=>rfl
 |(z,u)::r=>by
  unfold jT
  split
  ·rename_i h;subst h;simp only [getL,if_neg aE];exact rQ aE
  ·rename_i h
   simp only [getL]
   split
   ·rfl
   ·exact rQ aE
section
variable{w:World} {CM:cn} {K:Top} {env:Env} {J:Scope} {ρ ρ₀ ρ':a5} {s c9 az:Shared} {fs fs':X} {h h':Heap}
theorem a8.length:∀{l:List H} {vs:List Value},a8 w CM ρ l vs->vs.length=l.length
 |[],_,h=>by refine B (show _=_ from h) ?_;rfl
 |_::_,_,⟨v,t,M,_,Y⟩=>by(refine B M ?_;refine B List.length_cons ?_;refine B List.length_cons ?_;refine B (a8.length Y) ?_;rfl)
theorem a8.gh:∀{l:List H} {vs:List Value} {i:Nat} {x:H},a8 w CM ρ l vs->l[i]? =some x->∃v,vs[i]? =some v/\bY w CM ρ x v
 |[],_,_,_,_,e=>by simp at e
 |y::r,_,0,x,⟨v,t,M,O,Y⟩,e=>by simp at e;subst e;exact⟨v,by refine B M ?_;rfl,O⟩
 |y::r,_,i+1,x,⟨v,t,M,O,Y⟩,e=>by
  simp at e
  refine bb (a8.gh Y e) ?_;intro u aC bR
  exact⟨u,by refine B M ?_;simpa using aC,bR⟩
theorem a8.nil:a8 w CM ρ [] []:=rfl
theorem a8.cons {x:H} {v:Value} {l:List H} {vs:List Value} (M:bY w CM ρ x v) (O:a8 w CM ρ l vs):a8 w CM ρ (x::l) (v::vs):=⟨v,vs,rfl,M,O⟩
theorem a8.append:∀{l k:List H} {vs c1:List Value},a8 w CM ρ l vs->a8 w CM ρ k c1->a8 w CM ρ (l++k) (vs++c1)
 |[],_,_,_,M,O=>by refine B (show _=_ from M) ?_;exact O
 |_::_,_,_,_,⟨v,t,M,O,Y⟩,aC=>by refine B M ?_;exact⟨v,t++_,rfl,O,a8.append Y aC⟩
theorem a8.take:∀{l:List H} {vs:List Value} (n:Nat),a8 w CM ρ l vs->a8 w CM ρ (l.take n) (vs.take n)
 |[],_,n,h=>by refine B (show _=_ from h) ?_;simp [a8]
 |_::_,_,0,_=>by simp [a8]
 |_::_,_,n+1,⟨v,t,M,O,Y⟩=>by refine B M ?_;exact⟨v,t.take n,rfl,O,a8.take n Y⟩
theorem a8.drop:∀{l:List H} {vs:List Value} (n:Nat),a8 w CM ρ l vs->a8 w CM ρ (l.drop n) (vs.drop n)
 |[],_,n,h=>by refine B (show _=_ from h) ?_;simp [a8]
 |_::_,_,0,h=>by simpa using h
 |_::_,_,n+1,⟨v,t,M,O,Y⟩=>by refine B M ?_;simpa using a8.drop n Y
theorem a8.set:∀{l:List H} {vs:List Value} {x:H} {v:Value} (i:Nat),a8 w CM ρ l vs->bY w CM ρ x v->a8 w CM ρ (l.set i x) (vs.set i v)
 |[],_,_,_,i,h,_=>by refine B (show _=_ from h) ?_;simp [a8]
 |_::_,_,_,_,0,⟨v,t,M,O,Y⟩,aC=>by refine B M ?_;exact⟨_,t,rfl,aC,Y⟩
 |_::_,_,_,_,i+1,⟨v,t,M,O,Y⟩,aC=>by refine B M ?_;exact⟨v,t.set i _,rfl,O,a8.set i Y aC⟩
theorem dV.length:∀{l:List (al×H)} {aS:List (al×Value)},dV w CM ρ l aS->aS.length=l.length
 |[],_,h=>by refine B (show _=_ from h) ?_;rfl
 |(_,_)::_,_,⟨v,t,M,_,Y⟩=>by(refine B M ?_;refine B List.length_cons ?_;refine B List.length_cons ?_;refine B (dV.length Y) ?_;rfl)
theorem dV.wu:∀{l:List (al×H)} {aS:List (al×Value)},dV w CM ρ l aS->aS.map (·.1)=l.map (·.1)
 |[],_,h=>by refine B (show _=_ from h) ?_;rfl
 |(_,_)::_,_,⟨v,t,M,_,Y⟩=>by(refine B M ?_;refine B List.map_cons ?_;refine B List.map_cons ?_;refine B (dV.wu Y) ?_;rfl)
theorem KC {K:Type} [DecidableEq K] {k cY:K} {v:Value} {t:List (K×Value)}:valueAt ((cY,v)::t) k=if k=cY then some v else valueAt t k:=by
 unfold valueAt
 refine B List.find?_cons ?_
 by_cases h:cY=k
 ·subst h;simp
 ·have h':¬k=cY:=fun e=>h e.symm
  rw [if_neg h',decide_eq_false h]
theorem dV.gh:∀{l:List (al×H)} {aS:List (al×Value)} {k:al},dV w CM ρ l aS->match ba k l with
  |some x=>∃v,valueAt aS k=some v/\bY w CM ρ x v
  |none=>valueAt aS k=none
 |[],_,k,h=>by refine B (show _=_ from h) ?_;rfl
 |(cY,x)::r,_,k,⟨v,t,M,O,Y⟩=>by
  (refine B M ?_;refine B KC ?_)
  unfold ba
  by_cases e:k=cY
  ·(refine B (if_pos e) ?_;refine B (if_pos e) ?_);exact⟨v,rfl,O⟩
  ·(refine B (if_neg e) ?_;refine B (if_neg e) ?_);exact dV.gh Y
theorem dV.isSome {l:List (al×H)} {aS:List (al×Value)} {k:al} (h:dV w CM ρ l aS):(valueAt aS k).isSome=(ba k l).isSome:=by
 have:=h.gh (k:=k)
 cases e:ba k l with
 |none=>replace this:=e▸this;refine B this ?_;rfl
 |some x=>replace this:=e▸this;obtain⟨v,M,_⟩:=this;refine B M ?_;rfl
theorem ys {K:Type} [DecidableEq K] {k cY:K} {v u:Value} {t:List (K×Value)} (aE:((cY,u)::t).map (·.1)|>.Nodup):stored ((cY,u)::t) k v=if k=cY then(cY,v)::t else(cY,u)::stored t k v:=by
 unfold stored
 by_cases h:cY=k
 ·subst h
  simp only [List.any_cons,decide_true,Bool.true_or,if_true,List.map_cons]
  (refine B (map_store_of_not_mem t cY v (by simpa using (List.nodup_cons.mp aE).1)) ?_;rfl)
 ·have h':¬k=cY:=fun e=>h e.symm
  simp only [List.any_cons,h,decide_false,Bool.false_or,List.map_cons,if_false,h']
  split<;>simp
theorem dV.set:∀{l:List (al×H)} {aS:List (al×Value)} {k:al} {x:H} {v:Value},dV w CM ρ l aS->(aS.map (·.1)).Nodup->bY w CM ρ x v->dV w CM ρ (cU k x l) (stored aS k v)
 |[],_,k,x,v,h,_,ae=>by refine B (show _=_ from h) ?_;exact⟨v,[],rfl,ae,rfl⟩
 |(cY,y)::r,_,k,x,v,⟨u,t,M,O,Y⟩,aE,ae=>by
  subst M
  refine B (ys aE) ?_
  unfold cU
  by_cases e:k=cY
  ·(refine B (if_pos e) ?_;refine B (if_pos e) ?_);exact⟨v,t,rfl,ae,Y⟩
  ·(refine B (if_neg e) ?_;refine B (if_neg e) ?_);exact⟨u,_,rfl,O,dV.set Y (List.nodup_cons.mp aE).2 ae⟩
theorem kr.gh:∀{l:List (Str×H)} {m:Str->Option Value} {n:Str} {x:H},kr w CM ρ l m->iC n l=some x->∃v,m n=some v/\bY w CM ρ x v
 |[],_,_,_,_,e=>by simp [iC] at e
 |(i5,y)::r,m,n,x,⟨⟨v,M,O⟩,Y⟩,e=>by
  unfold iC at e
  by_cases q:n=i5
  ·replace e:=(if_pos q)▸e;cases e;subst q;exact⟨v,M,O⟩
  ·replace e:=(if_neg q)▸e;exact kr.gh Y e
theorem a1.fO {a:Addr} {ob:Obj} (av:a1 ρ₀ c9 ρ s) (aL:ρ₀ a=.free):a1 ρ₀ c9 (cx ρ a (.bf ob)) s where
 bK:=fun b o e=>by
  by_cases q:b=a
  ·subst q;replace e:=aL▸e;cases e
  ·refine B (bq q) ?_;exact av.bK b o e
 aV:=fun b e=>by
  by_cases q:b=a
  ·subst q;replace e:=aL▸e;cases e
  ·refine B (bq q) ?_;exact av.aV b e
 per:=fun b k e=>by
  by_cases q:b=a
  ·subst q;replace e:=aL▸e;cases e
  ·refine B (bq q) ?_;exact av.per b k e
 cJ:=fun b e=>by
  by_cases q:b=a
  ·subst q;replace e:=aL▸e;cases e
  ·refine B (bq q) ?_;exact av.cJ b e
 fb:=fun b e=>by
  by_cases q:b=a
  ·subst q;replace e:=aL▸e;cases e
  ·refine B (bq q) ?_;exact av.fb b e
 stk:=fun b e=>by
  by_cases q:b=a
  ·subst q;replace e:=aL▸e;cases e
  ·refine B (bq q) ?_;exact av.stk b e
 aD:=fun b x e=>by
  by_cases q:b=a
  ·subst q;replace e:=aL▸e;cases e
  ·refine B (bq q) ?_;exact av.aD b x e
 keep:=av.keep
 hW:=av.hW
 ao:=av.ao
theorem cb.fO {a:Addr} {ob:Obj} {l c8:List (Str×cf)} (av:cb ρ₀ l ρ c8) (aL:ρ₀ a=.free):cb ρ₀ l (cx ρ a (.bf ob)) c8 where
 U:=av.U
 aD:=fun b x e=>by
  by_cases q:b=a
  ·subst q;replace e:=aL▸e;cases e
  ·refine B (bq q) ?_;exact av.aD b x e
 gv:=fun b x e=>by
  by_cases q:b=a
  ·subst q;replace e:=dJ▸e;cases e
  ·replace e:=(bq q)▸e;exact av.gv b x e
theorem cK.fO {per:List H} {a:Addr} {ob:Obj} (ap:cK w CM K ρ s per) (hd:ρ a=.aV\/∃x,ρ a=.aD x) (cr:s.heap.get? a=some ob):cK w CM K (cx ρ a (.bf ob)) s per:=by
 have Vg:∀k,ρ a≠.per k:=fun k e=>by rcases hd with q|⟨x,q⟩<;>replace e:=q▸e<;>cases e
 have d8:∀o,ρ a≠.bf o:=fun k e=>by rcases hd with q|⟨x,q⟩<;>replace e:=q▸e<;>cases e
 have aB:∀b o,ρ b=.bf o->cx ρ a (.bf ob) b=.bf o:=fun b o e=>by
  refine B (bq (fun q:b=a=>d8 o (by rw [<-q];exact e))) ?_;exact e
 have an:∀b k,ρ b=.per k->cx ρ a (.bf ob) b=.per k:=fun b k e=>by
  refine B (bq (fun q:b=a=>Vg k (by rw [<-q];exact e))) ?_;exact e
 have rp:∀b k,cx ρ a (.bf ob) b=.per k->ρ b=.per k:=fun b k e=>by
  by_cases q:b=a
  ·(replace e:=q▸e;replace e:=dJ▸e);cases e
  ·rwa [bq q] at e
 refine⟨fun b x e=>aB _ _ (ap.fW b x e),fun b x e=>aB _ _ (ap.ft b x e),fun b e=>let⟨M,O⟩:=ap.fi b e;⟨by refine B (bq (fun q:b=a=>by rcases hd with cL|⟨x,cL⟩<;>rw [q,cL] at M<;>exact M)) ?_;exact M,O⟩,fun b o e=> ?_,fun b=> ?_,fun k ag=>let⟨b,e⟩:=ap.gx k ag;⟨b,an _ _ e⟩,fun b k e=> ?_,fun b c k ak ar=>ap.inj b c k (rp _ _ ak) (rp _ _ ar)⟩
 ·by_cases q:b=a
  ·subst q;replace e:=dJ▸e;cases e;exact cr
  ·replace e:=(bq q)▸e;exact ap.bK b o e
 ·by_cases q:b=a
  ·subst q;(refine B dJ ?_;refine B cr ?_);exact⟨fun e=>(nomatch e),fun e=>(nomatch e)⟩
  ·refine B (bq q) ?_;exact ap.c2 b
 ·refine bb (ap.fU b k (rp _ _ e)) ?_;intro x M O
  exact⟨x,M,O.bt aB an fun _ e=>e⟩
theorem aK.fO {a:Addr} {ob:Obj} (I:aK w CM K env J ρ s fs) (hd:ρ a=.aV) (eG:∀x c,J.names.lookup x=some .free->env.cells.lookup x=some c->c≠a) (cr:s.heap.get? a=some ob):aK w CM K env J (cx ρ a (.bf ob)) s fs:=by
 have aB:∀b o,ρ b=.bf o->cx ρ a (.bf ob) b=.bf o:=fun b o e=>by
  refine B (bq (d7 e hd)) ?_;exact e
 have an:∀b k,ρ b=.per k->cx ρ a (.bf ob) b=.per k:=fun b o e=>by
  refine B (bq (d7 e hd)) ?_;exact e
 have bx:∀b k,ρ b=.aD k->cx ρ a (.bf ob) b=.aD k:=fun b o e=>by
  refine B (bq (d7 e hd)) ?_;exact e
 have aY:∀b,ρ b=.frame->cx ρ a (.bf ob) b=.frame:=fun b e=>by
  refine B (bq (d7 e hd)) ?_;exact e
 have qD:∀b,ρ b=.cell->cx ρ a (.bf ob) b=.cell:=fun b e=>by
  refine B (bq (d7 e hd)) ?_;exact e
 have iA:∀b x,cx ρ a (.bf ob) b=.aD x->ρ b=.aD x:=fun b x e=>by
  by_cases q:b=a
  ·(replace e:=q▸e;replace e:=dJ▸e);cases e
  ·rwa [bq q] at e
 exact⟨I.base.fO (.inl hd) cr,I.c0,aY _ I.cJ,I.fx,fun x bh e=>let⟨v,M,O⟩:=I.eW x bh e;⟨v,M,O.bt aB an bx⟩,
  fun x e=>let⟨c,v,M,O,Y⟩:=I.cells x e;⟨c,v,M,qD _ O,Y⟩,
  fun x c ak ar=>(bq (eG x c ak ar)).trans (I.frees x c ak ar),I.apart,
  fun b x e=>let⟨aL,c,M,O⟩:=I.e1 b x (iA _ _ e);⟨aL,c,M,O.bt aB an fun _ e=>e⟩,fun b c x ak ar=>I.fk b c x (iA _ _ ak) (iA _ _ ar)⟩
theorem h5 {a:Addr} (w7:aK w CM K env J ρ₀ c9 fs) (aL:ρ₀ a=.free):∀x c,J.names.lookup x=some .free->env.cells.lookup x=some c->c≠a:=fun x c ak ar q=>by
 have:=w7.frees x c ak ar;(replace this:=q▸this;replace this:=aL▸this);cases this
theorem aK.Ua {a:Addr} {ob:Obj} {x:Str} {c:H} (I:aK w CM K env J ρ s fs) (hd:ρ a=.aD x) (ae:getL x fs.loc=some (.aD c)) (hc:dN w CM ρ s.heap a c) (cr:s.heap.get? a=some ob):
  aK w CM K env J (cx ρ a (.bf ob)) s {fs with loc:=bX x (.U c) fs.loc}/\bY w CM (cx ρ a (.bf ob)) c (.ref a)/\a1 ρ s (cx ρ a (.bf ob)) s/\cb ρ fs.loc (cx ρ a (.bf ob)) (bX x (.U c) fs.loc):=by
 have aB:∀b o,ρ b=.bf o->cx ρ a (.bf ob) b=.bf o:=fun b o e=>by
  refine B (bq (d7 e hd)) ?_;exact e
 have an:∀b k,ρ b=.per k->cx ρ a (.bf ob) b=.per k:=fun b o e=>by
  refine B (bq (d7 e hd)) ?_;exact e
 have km:∀b,ρ b=.aV->cx ρ a (.bf ob) b=.aV:=fun b e=>by
  refine B (bq (d7 e hd)) ?_;exact e
 have aY:∀b,ρ b=.frame->cx ρ a (.bf ob) b=.frame:=fun b e=>by
  refine B (bq (d7 e hd)) ?_;exact e
 have qD:∀b,ρ b=.cell->cx ρ a (.bf ob) b=.cell:=fun b e=>by
  refine B (bq (d7 e hd)) ?_;exact e
 have eO:∀b,ρ b=.stack->cx ρ a (.bf ob) b=.stack:=fun b e=>by
  refine B (bq (d7 e hd)) ?_;exact e
 have iA:∀b y,cx ρ a (.bf ob) b=.aD y->ρ b=.aD y/\b≠a:=fun b y e=>by
  by_cases q:b=a
  ·(replace e:=q▸e;replace e:=dJ▸e);cases e
  ·replace e:=(bq q)▸e;exact⟨e,q⟩
 have f9:bY w CM (cx ρ a (.bf ob)) c (.ref a):=hc.gg cr aB an dJ
 refine⟨⟨I.base.fO (.inr ⟨x,hd⟩) cr,I.c0,aY _ I.cJ,I.fx,fun y bh e=> ?_,
  fun y e=>let⟨c,v,M,O,Y⟩:=I.cells y e;⟨c,v,M,qD _ O,Y⟩,fun y c ak ar=>km _ (I.frees y c ak ar),I.apart,fun b y e=> ?_,
  fun b c y ak ar=>I.fk b c y (iA _ _ ak).1 (iA _ _ ar).1⟩,f9,⟨aB,km,an,aY,qD,eO,fun b y e=> ?_,fun _ _ _ e=>e,fun _ _ _ e=>⟨_,e⟩,⟨_,_,rfl⟩⟩,⟨fun y v e=> ?_,fun b y e=> ?_,fun b y e=>(iA b y e).1⟩⟩
 ·by_cases q:y=x
  ·subst q
   replace e:=j2▸e;cases e
   obtain⟨v,M,b,rfl,O⟩:=I.eW _ _ ae
   replace M:=(I.fk b a _ O hd)▸M
   exact⟨.ref a,M,f9⟩
  ·replace e:=(iG q)▸e
   refine bb (I.eW _ _ e) ?_;intro v M O
   refine⟨v,M,?_⟩
   cases bh with
   |U z=>exact bY.bt aB an O
   |aD z=>
    refine bb O ?_;clear O;intro b Y aC
    refine⟨b,Y,?_⟩
    refine B (bq (fun cL=>by subst cL;rw [hd] at aC;cases aC;exact q rfl)) ?_;exact aC
 ·refine cl (iA _ _ e) ?_;intro M O
  obtain⟨aL,c',Y,aC⟩:=I.e1 b y M
  have q:y≠x:=fun q=>O (I.fk b a x (q▸M) hd)
  exact⟨aL,c',by refine B (iG q) ?_;exact Y,aC.bt aB an fun _ e=>e⟩
 ·by_cases q:b=a
  ·subst q;exact .inr (.inr ⟨ob,dJ⟩)
  ·refine B (bq q) ?_;exact .inl e
 ·by_cases q:y=x
  ·subst q;replace e:=ae▸e;cases e
  ·refine B (iG q) ?_;exact e
 ·by_cases q:b=a
  ·subst q
   replace e:=hd▸e;cases e
   exact .inr ⟨c,j2⟩
  ·refine B (bq q) ?_;exact .inl e
theorem zx {r:aU} {v:Value} {x:H} {j8:X} (w7:aK w CM K env J ρ₀ c9 j8) (I:aK w CM K env J ρ s fs) (av:a1 ρ₀ c9 ρ s) (dv:cb ρ₀ j8.loc ρ fs.loc) (aP:eP w CM ρ₀ ρ s fs r v) (e:fs.oC r=some (x,fs')):
  ∃ρ',aK w CM K env J ρ' s fs'/\a1 ρ₀ c9 ρ' s/\cb ρ₀ j8.loc ρ' fs'.loc/\bY w CM ρ' x v:=by
 cases r with
 |U y=>cases e;exact⟨ρ,I,av,dv,aP⟩
 |own y=>
  refine b6 e ?_;clear e
  refine gn aP ?_;clear aP;intro a u;subst u;intro M O Y
  refine bT Y.e5 ?_;intro ob cr
  refine⟨_,I.fO (ob:=ob) O (h5 w7 M) cr,av.fO M,dv.fO M,?_⟩
  refine Y.gg cr (fun b o e=> ?_) (fun b o e=> ?_) dJ
  ·refine B (bq (d7 e O)) ?_;exact e
  ·refine B (bq (d7 e O)) ?_;exact e
 |var n=>
  refine bG e (fun c hc e=>b6 e ?_) Z
  have bi:=ol hc
  refine bb aP ?_;clear aP;intro a u;subst u;intro O
  have O:ρ a=.aD n:=O.elim id fun O=>O.elim fun y O=>cf.noConfusion (Option.some.inj (bi.symm.trans O))
  refine bb (I.e1 a n O).2 ?_;intro c' Y aC
  replace aC:=(cf.aD.inj (Option.some.inj (Y.symm.trans bi)))▸aC
  refine bT aC.e5 ?_;intro ob cr
  refine oF (I.Ua (ob:=ob) O bi aC cr) ?_;intro e6 R hA op
  exact⟨_,e6,av.trans hA,dv.trans op,R⟩
theorem dN.nf {a:Addr} {y x:H} (h:dN w CM ρ s.heap a y) (e:fs.nf y=some x):dN w CM ρ s.heap a x:=by
 cases y with
 |am l=>exact cC (show some (H.am l)=some x from e) h
 |V l=>exact cC (show some (H.V l)=some x from e) h
 |_=>exact h.elim
theorem ie {r:aU} {v:Value} {x:H} (I:aK w CM K env J ρ s fs) (aP:eP w CM ρ₀ ρ s fs r v) (e:fs.cF r=some x):cv w CM ρ s x v:=by
 refine bG e (fun y aQ cg=> ?_) Z
 clear e
 cases r with
 |U z=>
  cases aQ
  cases y with
  |per k=>
   refine bb aP ?_;clear aP;intro a u;subst u;intro bz
   refine bb (I.base.fU a k bz) ?_;intro c M O
   exact .at a rfl (Option.some.inj (M.symm.trans cg)▸O)
  |_=>exact .gg (Option.some.inj cg▸aP)
 |own z=>
  cases aQ
  refine gn aP ?_;clear aP;intro a u;subst u;intro _ _ Y
  exact .at a rfl (Y.nf cg)
 |var n=>
  have bi:=ol aQ
  refine bb aP ?_;clear aP;intro a u;subst u;intro O
  have O:ρ a=.aD n:=O.elim id fun O=>O.elim fun y O=>cf.noConfusion (Option.some.inj (bi.symm.trans O))
  refine bb (I.e1 a n O).2 ?_;intro c Y aC
  exact .at a rfl ((cf.aD.inj (Option.some.inj (Y.symm.trans bi))▸aC).nf cg)
section
variable{v:Value} (ap:cK w CM K ρ s fs.per)
theorem cv.none (q:cv w CM ρ s .none v):v=.none:=by
 cases q with
 |gg h=>exact h
 |«at» a _ h=>exact h.elim
theorem cv.bool {b:Bool} (q:cv w CM ρ s (.bool b) v):v=.bool b:=by
 cases q with
 |gg h=>exact h
 |«at» a _ h=>exact h.elim
theorem cv.int {i:Int} (q:cv w CM ρ s (.int i) v):∃t,v=.int i t:=by
 cases q with
 |gg h=>exact h
 |«at» a _ h=>exact h.elim
theorem cv.str {x:Str} (q:cv w CM ρ s (.str x) v):∃t,v=.str x t:=by
 cases q with
 |gg h=>exact h
 |«at» a _ h=>exact h.elim
theorem cv.dT {c:Str} {l:List (Str×H)} (q:cv w CM ρ s (.dT c l) v):bY w CM ρ (.dT c l) v:=by
 cases q with
 |gg h=>exact h
 |«at» a _ h=>exact h.elim
theorem cv.aF {l:List H} {per:List H} (ap:cK w CM K ρ s per) (q:cv w CM ρ s (.aF l) v):∃a vs n,v=.ref a/\s.heap.get? a=some (qC vs n)/\a8 w CM ρ l vs:=by
 cases q with
 |gg h=>obtain⟨a,vs,n,M,O,Y⟩:=h;exact⟨a,vs,n,M,ap.bK _ _ O,Y⟩
 |«at» a _ h=>exact h.elim
theorem cv.am {l:List H} {per:List H} (ap:cK w CM K ρ s per) (q:cv w CM ρ s (.am l) v):∃a vs n,v=.ref a/\s.heap.get? a=some (mN vs n)/\a8 w CM ρ l vs:=by
 cases q with
 |gg h=>obtain⟨a,vs,n,M,O,Y⟩:=h;exact⟨a,vs,n,M,ap.bK _ _ O,Y⟩
 |«at» a ay h=>obtain⟨vs,n,M,O⟩:=h;exact⟨a,vs,n,ay,M,O⟩
theorem cv.V {l:List (al×H)} {per:List H} (ap:cK w CM K ρ s per) (q:cv w CM ρ s (.V l) v):∃a aS,v=.ref a/\(a==sysModules)=false/\s.heap.DictOf (kk w) a aS/\dV w CM ρ l aS:=by
 cases q with
 |gg h=>obtain⟨a,ob,es,cq,aS,M,aL,O,Y,aC,bR,dK,f6,o6⟩:=h;exact⟨a,aS,M,aL,⟨ob,es,cq,ap.bK _ _ O,Y,aC,bR,dK,f6⟩,o6⟩
 |«at» a ay h=>obtain⟨ob,es,cq,aS,aL,M,O,Y,aC,bR,dK,f6⟩:=h;exact⟨a,aS,ay,aL,⟨ob,es,cq,M,O,Y,aC,bR,dK⟩,f6⟩
end
end
end Mine
end
section
open PySem PySem.W PySem.Calls PyProof.Rows
namespace Mine
section
variable(w:World) (CM:cn) (K:Top) (env:Env) (J:Scope)
noncomputable def b4 (ρ:a5) (s:Shared) (fs:X) (r:aU) (fs':X) (v:Value) (az:Shared):Prop:=
 ∃ρ',aK w CM K env J ρ' az fs'/\a1 ρ s ρ' az/\cb ρ fs.loc ρ' fs'.loc/\eP w CM ρ ρ' az fs' r v
noncomputable def Vb (ρ:a5) (s:Shared) (fs:X) (x:H) (fs':X) (v:Value) (az:Shared):Prop:=
 ∃ρ',aK w CM K env J ρ' az fs'/\a1 ρ s ρ' az/\cb ρ fs.loc ρ' fs'.loc/\bY w CM ρ' x v
noncomputable def ri (ρ:a5) (s:Shared) (fs:X) (x:List H) (fs':X) (v:List Value) (az:Shared):Prop:=
 ∃ρ',aK w CM K env J ρ' az fs'/\a1 ρ s ρ' az/\cb ρ fs.loc ρ' fs'.loc/\a8 w CM ρ' x v
noncomputable def kj (ρ:a5) (s:Shared) (fs:X) (b:Bool) (fs':X) (gs:Bool) (az:Shared):Prop:=
 gs=b/\∃ρ',aK w CM K env J ρ' az fs'/\a1 ρ s ρ' az/\cb ρ fs.loc ρ' fs'.loc
noncomputable abbrev cc:Value->Shared->Prop:=fun _ _=>False
structure cB (A:Around) (R:bk):Prop where
 a9:∀e fs r fs',R.a9 e fs=some (r,fs')->∀ρ s,aK w CM K env J ρ s fs->wpAny (model aw w) A (eval e env) (b4 w CM K env J ρ s fs r fs') cc s
 dH:∀e fs b fs',R.dH e fs=some (b,fs')->∀ρ s,aK w CM K env J ρ s fs->wpAny (model aw w) A (isTrue e env (eval e env)) (kj w CM K env J ρ s fs b fs') cc s
 sj:∀e p fs,R.a9 (.Starred e p) fs=none
 set:∀es k p fs,R.a9 (.Set es k p) fs=none
end
section
variable{w:World} {CM:cn} {K:Top} {env:Env} {J:Scope} {A:Around} {ρ ρ₀ ρ':a5} {s c9 az:Shared} {fs fs':X} {R:bk}
theorem cK.tok {per:List H} {tk:Nat} (ap:cK w CM K ρ s per):cK w CM K ρ {s with toks:=tk} per:=⟨ap.fW,ap.ft,ap.fi,ap.bK,ap.c2,ap.gx,ap.fU,ap.inj⟩
theorem aK.tok {tk:Nat} (I:aK w CM K env J ρ s fs):aK w CM K env J ρ {s with toks:=tk} fs:=⟨I.base.tok,I.c0,I.cJ,I.fx,I.eW,I.cells,I.frees,I.apart,I.e1,I.fk⟩
theorem a1.tok {tk:Nat}:a1 ρ s ρ {s with toks:=tk}:=⟨fun _ _ h=>h,fun _ h=>h,fun _ _ h=>h,fun _ h=>h,fun _ h=>h,fun _ h=>h,fun _ _ h=>.inl h,fun _ _ _ h=>h,fun _ _ _ h=>⟨_,h⟩,⟨_,_,rfl⟩⟩
theorem aK.in (I:aK w CM K env J ρ s fs):K.f.In s.heap:=fun a x e=>I.base.bK a x (I.base.fW a x e)
theorem eu {x:H} {v:Value} {tk:Nat} (I:aK w CM K env J ρ s fs) (h:bY w CM ρ x v):b4 w CM K env J ρ s fs (.U x) fs v {s with toks:=tk}:=
 ⟨ρ,I.tok,a1.tok,cb.refl ..,h⟩
theorem o8 {x:H} {a:Addr} {h':Heap} {tk:Nat} (I:aK w CM K env J ρ s fs) (ag:∀b ob,s.heap.get? b=some ob->h'.get? b=some ob) (aE:s.heap.get? a=none)
  (h:dN w CM ρ h' a x):b4 w CM K env J ρ s fs (.own x) fs (.ref a) {s with heap:=h',toks:=tk}:=by
 have aL:ρ a=.free:=(I.base.c2 a).mpr aE
 refine⟨bQ ρ h',I.dD ag,a1.dD ag,cb.dD,a,rfl,aL,?_,h.bt (fun _ _ q=>h9.mpr q) (fun _ _ q=>gT.mpr q) fun _ q=>q⟩
 refine bT h.e5 ?_;intro ob cr
 exact gR aL cr
theorem zM {x:H} {a:Addr} {h':Heap} {tk:Nat} {ob:Obj} (I:aK w CM K env J ρ s fs) (ag:∀b ob,s.heap.get? b=some ob->h'.get? b=some ob) (aE:s.heap.get? a=none) (cr:h'.get? a=some ob)
  (h:∀ρ',(∀b o,ρ b=.bf o->ρ' b=.bf o)->(∀b k,ρ b=.per k->ρ' b=.per k)->ρ' a=.bf ob->bY w CM ρ' x (.ref a)):b4 w CM K env J ρ s fs (.U x) fs (.ref a) {s with heap:=h',toks:=tk}:=by
 have aL:ρ a=.free:=(I.base.c2 a).mpr aE
 have hd:bQ ρ h' a=.aV:=gR aL cr
 refine⟨cx (bQ ρ h') a (.bf ob),(I.dD ag).fO hd (h5 I aL) cr,(a1.dD ag).fO aL,cb.dD.fO aL,?_⟩
 refine h _ (fun b o e=> ?_) (fun b k e=> ?_) dJ
 ·refine B (bq (d7 e aL)) ?_;exact h9.mpr e
 ·refine B (bq (d7 e aL)) ?_;exact gT.mpr e
theorem b4.trans {aN:a5} {aj ct:Shared} {fs₁ fs₂:X} {r:aU} {v:Value} (av:a1 ρ s aN aj) (dv:cb ρ fs.loc aN fs₁.loc) (q:b4 w CM K env J aN aj fs₁ r fs₂ v ct):b4 w CM K env J ρ s fs r fs₂ v ct:=by
 refine gn q ?_;clear q;intro b8 I eX g1 h
 exact⟨b8,I,av.trans eX,dv.trans g1,h.gX av.ic⟩
theorem kj.trans {aN:a5} {aj ct:Shared} {fs₁ fs₂:X} {b gs:Bool} (av:a1 ρ s aN aj) (dv:cb ρ fs.loc aN fs₁.loc) (q:kj w CM K env J aN aj fs₁ b fs₂ gs ct):kj w CM K env J ρ s fs b fs₂ gs ct:=by
 obtain⟨h,b8,I,eX,g1⟩:=q
 exact⟨h,b8,I,av.trans eX,dv.trans g1⟩
theorem cB.eN (S:cB w CM K env J A R) {e:Expr} {r:aU} {Q:Value->Shared->Prop} {E:Value->Shared->Prop} (q:R.a9 e fs=some (r,fs')) (I:aK w CM K env J ρ s fs)
  (k:∀v aj aN,aK w CM K env J aN aj fs'->a1 ρ s aN aj->cb ρ fs.loc aN fs'.loc->eP w CM ρ aN aj fs' r v->Q v aj):wpAny (model aw w) A (eval e env) Q E s:=
 wpAny_mono (S.a9 e fs r fs' q ρ s I) (fun v aj h=>h.elim fun aN h=>k v aj aN h.1 h.2.1 h.2.2.1 h.2.2.2) fun _ _ f=>f.elim
theorem cB.l8 (S:cB w CM K env J A R) {e:Expr} {b:Bool} {Q:Bool->Shared->Prop} {E:Value->Shared->Prop} (q:R.dH e fs=some (b,fs')) (I:aK w CM K env J ρ s fs)
  (k:∀aj aN,aK w CM K env J aN aj fs'->a1 ρ s aN aj->cb ρ fs.loc aN fs'.loc->Q b aj):wpAny (model aw w) A (isTrue e env (eval e env)) Q E s:=
 wpAny_mono (S.dH e fs b fs' q ρ s I) (fun v aj h=>h.2.elim fun aN z=>h.1▸k aj aN z.1 z.2.1 z.2.2) fun _ _ f=>f.elim
theorem iw {aN:a5} {aj:Shared} {fs₁ fs₂:X} {r:aU} {p:Sem Value} {E:Value->Shared->Prop} (av:a1 ρ s aN aj) (dv:cb ρ fs.loc aN fs₁.loc) (h:wpAny (model aw w) A p (b4 w CM K env J aN aj fs₁ r fs₂) cc aj):wpAny (model aw w) A p (b4 w CM K env J ρ s fs r fs₂) E aj:=
 wpAny_mono h (fun _ _ h=>h.trans av dv) fun _ _ f=>f.elim
theorem sy {aN:a5} {aj:Shared} {fs₁ fs₂:X} {b:Bool} {p:Sem Bool} {E:Value->Shared->Prop} (av:a1 ρ s aN aj) (dv:cb ρ fs.loc aN fs₁.loc) (h:wpAny (model aw w) A p (kj w CM K env J aN aj fs₁ b fs₂) cc aj):wpAny (model aw w) A p (kj w CM K env J ρ s fs b fs₂) E aj:=
 wpAny_mono h (fun _ _ h=>h.trans av dv) fun _ _ f=>f.elim
theorem Vj {aN:a5} {aj:Shared} {fs₁ fs₂:X} {r:aU} {p:Sem Value} {Q E:Value->Shared->Prop} (h:wpAny (model aw w) A p (b4 w CM K env J aN aj fs₁ r fs₂) cc aj)
  (k:∀v ct b8,aK w CM K env J b8 ct fs₂->a1 aN aj b8 ct->cb aN fs₁.loc b8 fs₂.loc->eP w CM aN b8 ct fs₂ r v->Q v ct):wpAny (model aw w) A p Q E aj:=
 wpAny_mono h (fun v aj h=>h.elim fun aN h=>k v aj aN h.1 h.2.1 h.2.2.1 h.2.2.2) fun _ _ f=>f.elim
theorem JO (S:cB w CM K env J A R) {e:Expr} {x:H} (q:d0 R e fs=some (x,fs')) (I:aK w CM K env J ρ s fs):
  wpAny (model aw w) A (eval e env) (Vb w CM K env J ρ s fs x fs') cc s:=by
 unfold d0 at q
 refine b5 q ?_ Z;clear q;intro r fs₁ bv q
 exact S.eN bv I fun v aj aN aZ a0 bw aP=>zx I aZ a0 bw aP q
theorem r8 (S:cB w CM K env J A R) {e:Expr} {x:H} {Q E:Value->Shared->Prop} (q:d0 R e fs=some (x,fs')) (I:aK w CM K env J ρ s fs)
  (k:∀v aj aN,aK w CM K env J aN aj fs'->a1 ρ s aN aj->cb ρ fs.loc aN fs'.loc->bY w CM aN x v->Q v aj):wpAny (model aw w) A (eval e env) Q E s:=
 wpAny_mono (JO S q I) (fun v aj h=>h.elim fun aN h=>k v aj aN h.1 h.2.1 h.2.2.1 h.2.2.2) fun _ _ f=>f.elim
theorem wZ (S:cB w CM K env J A R) {e:Expr} {es:List Expr} {x:H} (q:d0 R e fs=some (x,fs')):starEach (e::es) env=(false,eval e env)::starEach es env:=by
 cases e with
 |Starred e p=>unfold d0 at q;rw [S.sj] at q;exact Z q
 |_=>rfl
theorem AL (S:cB w CM K env J A R) {pos:Pos} (es:List Expr):∀{xs:List H} {fs fs':X} {ρ:a5} {s:Shared},dk R es fs=some (xs,fs')->aK w CM K env J ρ s fs->
  wpAny (model aw w) A (spliced (backTo pos (starEach es env))) (ri w CM K env J ρ s fs xs fs') cc s:=by
 induction es with
 |nil=>intro xs fs fs' ρ s q I;exact b6 q (wpAny_items_nil ⟨ρ,I,a1.refl ..,cb.refl ..,a8.nil⟩)
 |cons e es ih=>
  intro xs fs fs' ρ s q I
  refine b5 q (fun v fs₁ bv q=>b5 q (fun vs fs₂ dI q=>b6 q ?_) Z) Z
  refine wpAny_items_cons (r8 S bv I fun SH aj aN aZ a0 bw gB=> ?_) (wZ S bv)
  exact wpAny_mono (ih dI aZ) (fun Zk ct h=>h.elim fun b8 h=>⟨b8,h.1,a0.trans h.2.1,bw.trans h.2.2.1,a8.cons (bY.bt h.2.1.bK h.2.1.per gB) h.2.2.2⟩) fun _ _ f=>f
theorem FO (S:cB w CM K env J A R) {pos:Pos} {es:List Expr} {xs:List H} {Q:List Value->Shared->Prop} {E:Value->Shared->Prop} (q:dk R es fs=some (xs,fs')) (I:aK w CM K env J ρ s fs)
  (k:∀v aj aN,aK w CM K env J aN aj fs'->a1 ρ s aN aj->cb ρ fs.loc aN fs'.loc->a8 w CM aN xs v->Q v aj):wpAny (model aw w) A (spliced (backTo pos (starEach es env))) Q E s:=
 wpAny_mono (AL S es q I) (fun v aj h=>h.elim fun aN h=>k v aj aN h.1 h.2.1 h.2.2.1 h.2.2.2) fun _ _ f=>f.elim
theorem sm (S:cB w CM K env J A R) {pos:Pos} (es:List Expr):∀{xs:List H} {fs fs':X},dk R es fs=some (xs,fs')->(backTo pos (starEach es env)).any (·.1)=false/\(backTo pos (starEach es env)).length=es.length:=by
 induction es with
 |nil=>intro _ _ _ _;exact⟨rfl,rfl⟩
 |cons e es ih=>
  intro xs fs fs' q
  refine b5 q (fun v fs₁ bv q=>b5 q (fun vs fs₂ dI q=> ?_) Z) Z
  refine B (wZ S bv) ?_
  exact⟨(ih dI).1,congrArg (· +1) (ih dI).2⟩
theorem fd {h:Heap}:h.get? h.objs.size=none:=by
 cases e:h.get? h.objs.size with
 |none=>rfl
 |some o=>exact absurd (Heap.lt_size e) (Nat.lt_irrefl _)
theorem cv.DE {l:List H} {v:Value} (q:cv w CM ρ s (.aF l) v):bY w CM ρ (.aF l) v:=by
 cases q with
 |gg h=>exact h
 |«at» a _ h=>exact h.elim
theorem xT {a:Int} {n:Nat} (h:a.natAbs<2^n):Builtin.Int.intBits a<=n:=by
 unfold Builtin.Int.intBits
 split
 ·exact Nat.zero_le _
 ·rcases Nat.eq_zero_or_pos a.natAbs with aL|an
  ·rename_i b1;exact absurd (by simpa using Int.natAbs_eq_zero.mp aL) b1
  ·have:=(Nat.log2_lt (Nat.ne_of_gt an)).mpr h
   exact zk this
theorem ja:a4<=sizeLine:=by refine B sizeLine_eq ?_;decide
theorem V2 {bW:Operator} {x y z:Int} {t u:Nat} (q:Dt bW x y=some z) (I:aK w CM K env J ρ s fs):
  wpAny (model aw w) A (binaryOp bW (.int x t) (.int y u)) (b4 w CM K env J ρ s fs (.U (.int z)) fs) cc s:=by
 cases bW with
 |Add=>exact cC q (PyProof.Rows.add_int (eu I ⟨_,rfl⟩))
 |Sub=>exact cC q (PyProof.Rows.sub_int (eu I ⟨_,rfl⟩))
 |Mult=>
  refine cH q (fun ah q=>cC q ?_) Z
  refine PyProof.Rows.mul_int (eu I ⟨_,rfl⟩) ?_
  exact(Bool.or_eq_true_iff.mp ah).elim (fun h=>IntMulOk.of_left (xT (of_decide_eq_true h))) fun h=>IntMulOk.of_right (xT (of_decide_eq_true h))
 |FloorDiv=>
  refine yQ q (fun ah q=>cC q ?_)
  simp only [Bool.or_eq_true,decide_eq_true_eq,not_or,Nat.not_le] at ah
  exact PyProof.Rows.floordiv_int ah.1 (eu I ⟨_,rfl⟩) (.inl (PyProof.noPylong_small ah.2))
 |Mod=>exact yQ q fun ah q=>cC q (PyProof.Rows.mod_int' ah (eu I ⟨_,rfl⟩))
 |Pow=>
  refine cH q (fun ah q=>cC q ?_) Z
  simp only [Bool.and_eq_true,decide_eq_true_eq] at ah
  refine PyProof.Rows.pow_int ah.1.1 ?_ (eu I ⟨_,rfl⟩)
  exact Int.le_trans (Int.mul_le_mul (Int.ofNat_le.mpr (xT ah.2)) (Int.le_of_lt ah.1.2) ah.1.1 (by decide)) (by decide)
 |_=>exact Z q
theorem K7 {x y:List H} {a b:Value} (ah:x.length+y.length<=a4) (I:aK w CM K env J ρ s fs) (ae:cv w CM ρ s (.aF x) a) (aQ:cv w CM ρ s (.aF y) b):
  wpAny (model aw w) A (binaryOp .Add a b) (b4 w CM K env J ρ s fs (.U (.aF (x++y))) fs) cc s:=by
 have Oh:=ae.DE
 have Vp:=aQ.DE
 refine dz (ae.aF I.base) ?_;intro a vs n u;subst u;intro M O
 refine dz (aQ.aF I.base) ?_;intro b c1 m u;subst u;intro Y aC
 have dq:(Array.mk vs).size+(Array.mk c1).size<=sizeLine:=by
  have:=O.length;have:=aC.length;have:=ja
  simp only [List.size_toArray];exact CC ah (by assumption) (by assumption) this
 by_cases ak:vs=[]
 ·subst ak
  have j4:=List.eq_nil_of_length_eq_zero (O.length.symm)
  refine concat_meets ⟨_,M,rfl⟩ ⟨_,Y,rfl⟩ noFill_tuple_add seq_tuple_add PySem.F.slot_tuple_add PySem.F.entry_tuple_add (PySem.F.args_tuple_add_2 _ _)
   (tuple_addW0 a b #[] (Array.mk c1) n m none none #[] #[] (by simp)) ⟨M,Y,?_⟩
  refine B j4 ?_
  exact eu (tk:=s.toks) I Vp
 ·by_cases ar:c1=[]
  ·subst ar
   have LP:=List.eq_nil_of_length_eq_zero (aC.length.symm)
   refine concat_meets ⟨_,M,rfl⟩ ⟨_,Y,rfl⟩ noFill_tuple_add seq_tuple_add PySem.F.slot_tuple_add PySem.F.entry_tuple_add (PySem.F.args_tuple_add_2 _ _)
    (tuple_addW1 a b (Array.mk vs) #[] n m none none #[] #[] (by simpa using ak) (by simp)) ⟨M,Y,?_⟩
   (refine B LP ?_;refine B (List.append_nil _) ?_)
   exact eu (tk:=s.toks) I Oh
  ·refine concat_meets ⟨_,M,rfl⟩ ⟨_,Y,rfl⟩ noFill_tuple_add seq_tuple_add PySem.F.slot_tuple_add PySem.F.entry_tuple_add (PySem.F.args_tuple_add_2 _ _)
    (tuple_addW2 a b (Array.mk vs) (Array.mk c1) n m none none #[] #[] (by simpa using ak) (by simpa using ar) dq) ⟨M,Y,?_⟩
   refine zM (tk:=s.toks) I (fun b ob e=>Heap.get?_push_of_some _ e) fd (by simpa using Heap.get?_push_size _ rfl) fun ρ' aB an cr=> ?_
   exact⟨_,vs++c1,0,rfl,cr,(O.append aC).bt aB an⟩
theorem Lu {x y:List H} {a b:Value} (ah:x.length+y.length<=a4) (I:aK w CM K env J ρ s fs) (ae:cv w CM ρ s (.am x) a) (aQ:cv w CM ρ s (.am y) b):
  wpAny (model aw w) A (binaryOp .Add a b) (b4 w CM K env J ρ s fs (.own (.am (x++y))) fs) cc s:=by
 refine dz (ae.am I.base) ?_;intro a vs n u;subst u;intro M O
 refine dz (aQ.am I.base) ?_;intro b c1 m u;subst u;intro Y aC
 have dq:(Array.mk vs).size+(Array.mk c1).size<=sizeLine:=by
  have:=O.length;have:=aC.length;have:=ja
  simp only [List.size_toArray];exact CC ah (by assumption) (by assumption) this
 exact P.add_list M Y (o8 (tk:=s.toks) I (fun b ob e=>Heap.get?_push_of_some _ e) fd ⟨vs++c1,0,by simpa using Heap.get?_push_size _ rfl,O.append aC⟩) dq
theorem Ud {bW:Operator} {x y:H} {a b:Value} {r:aU} (q:j3 bW x y=some r) (I:aK w CM K env J ρ s fs) (ae:cv w CM ρ s x a) (aQ:cv w CM ρ s y b):
  wpAny (model aw w) A (binaryOp bW a b) (b4 w CM K env J ρ s fs r fs) cc s:=by
 cases x with
 |int x=>
  refine bG q (fun m8 M q=>bG q (fun z O q=>cC q ?_) Z) Z
  have aQ:=jy M▸aQ
  refine bT ae.int ?_;intro t u;subst u
  refine bT aQ.int ?_;intro u v;subst v
  exact V2 O I
 |aF x=>
  refine bG q (fun m8 M q=>cH q (fun ah q=>cC q ?_) Z) Z
  refine B (DG (Bool.and_eq_true_iff.mp ah).1) ?_
  exact K7 (of_decide_eq_true (Bool.and_eq_true_iff.mp ah).2) I ae (xX M▸aQ)
 |am x=>
  refine bG q (fun m8 M q=>cH q (fun ah q=>cC q ?_) Z) Z
  refine B (DG (Bool.and_eq_true_iff.mp ah).1) ?_
  exact Lu (of_decide_eq_true (Bool.and_eq_true_iff.mp ah).2) I ae (sC M▸aQ)
 |_=>exact Z q
end
end Mine
end
section
open PySem PySem.W PySem.Calls PyProof.Rows
namespace Mine
open PySem.SeqAt (EqAt RcAt RcNeAt)
section
variable{w:World} {CM:cn} {K:Top} {env:Env} {J:Scope} {A:Around} {ρ ρ₀ ρ':a5} {s c9 az:Shared} {fs fs':X} {R:bk}
theorem fA {h:Heap} {a:Addr} {vs:List Value} {n:Nat} (e:h.get? a=some (mN vs n)):h.IsList a (Array.mk vs):=⟨_,e,rfl,n,rfl⟩
theorem l7 {h:Heap} {a:Addr} {vs:List Value} {n:Nat} (e:h.get? a=some (qC vs n)):h.IsTuple a (Array.mk vs):=⟨_,e,rfl,n,rfl⟩
theorem tY {f:H->H->Option Bool} (xs:List H):∀{ck:List H} {b:Bool},l1 f xs ck=some b->
  ∃e:Nat->Bool,(∀j x y,xs[j]? =some x->ck[j]? =some y->f x y=some (e j))/\((List.range (min xs.length ck.length)).all e&&xs.length==ck.length)=b:=by
 induction xs with
 |nil=>
  intro ck b q
  refine⟨fun _=>true,fun j x y h=>Z h,?_⟩
  cases ck with
  |nil=>exact Option.some.inj q
  |cons _ _=>(refine B List.length_nil ?_;refine B (Nat.zero_min _) ?_);exact Option.some.inj q
 |cons x r ih=>
  intro ck b q
  cases ck with
  |nil=>
   refine⟨fun _=>true,fun j x y _ h=>Z h,?_⟩
   (refine B List.length_nil ?_;refine B (Nat.min_zero _) ?_);exact Option.some.inj q
  |cons y t=>
   refine hC q (fun a c bz hc q=>cC q ?_) Z
   obtain⟨e,M,O⟩:=ih hc
   refine⟨fun j=>Nat.rec a (fun j _=>e j) j,fun j u v b2 ay=> ?_,?_⟩
   ·cases j with
    |zero=>(refine bu (Option.some.inj b2) ?_;refine bu (Option.some.inj ay) ?_);exact bz
    |succ j=>exact M j u v b2 ay
   ·(refine bu O ?_;refine B List.length_cons ?_;refine B List.length_cons ?_;refine B (Nat.add_min_add_right _ _ _) ?_;refine B List.range_succ_eq_map ?_;refine B List.all_cons ?_;refine B List.all_map ?_;refine B (Bool.and_assoc _ _ _) ?_;refine B (show(r.length+1==t.length+1)=(r.length==t.length) by simp) ?_)
    rfl
theorem tV {f:H->H->Option Bool} {A:Around} {xs ck:List H} {vs c1:List Value} {e:Nat->Bool} (O:a8 w CM ρ xs vs) (aC:a8 w CM ρ ck c1) (ak:∀j x y,xs[j]? =some x->ck[j]? =some y->f x y=some (e j))
  (Vx:∀{x y:H} {v u:Value} {b:Bool},bY w CM ρ x v->bY w CM ρ y u->f x y=some b->EqAt A s v u b) (j:Nat) (tM:j<(Array.mk vs).size) (pp:j<(Array.mk c1).size):EqAt A s (Array.mk vs)[j] (Array.mk c1)[j] (e j):=by
 have aM:=List.getElem?_eq_getElem (Nat.lt_of_lt_of_eq tM O.length)
 have a2:=List.getElem?_eq_getElem (Nat.lt_of_lt_of_eq pp aC.length)
 refine bb (O.gh aM) ?_;intro eV bZ bn
 refine bb (aC.gh a2) ?_;intro m8 ee ii
 have eU:(Array.mk vs)[j]=eV:=Option.some.inj ((List.getElem?_eq_getElem tM).symm.trans bZ)
 have jX:(Array.mk c1)[j]=m8:=Option.some.inj ((List.getElem?_eq_getElem pp).symm.trans ee)
 (refine B eU ?_;refine B jX ?_)
 exact Vx bn ii (ak j _ _ aM a2)
theorem Ce {xs ck:List H} {vs c1:List Value} {e:Nat->Bool} {b:Bool} (O:a8 w CM ρ xs vs) (aC:a8 w CM ρ ck c1) (q:((List.range (min xs.length ck.length)).all e&&xs.length==ck.length)=b):((List.range (min vs.length c1.length)).all e&&vs.length==c1.length)=b:=by
 (refine bu q ?_;refine B O.length ?_;refine B aC.length ?_;rfl)
theorem Gj {xs ck:List H} {vs c1:List Value} {e:Nat->Bool} {b:Bool} (O:a8 w CM ρ xs vs) (aC:a8 w CM ρ ck c1) (aq:xs.length=ck.length) (q:((List.range (min xs.length ck.length)).all e&&xs.length==ck.length)=b):(List.range vs.length).all e=b:=by
 (refine bu q ?_;refine bu aq ?_;refine B (Nat.min_self _) ?_;refine B (beq_self_eq_true _) ?_;refine B (Bool.and_true _) ?_;refine B O.length ?_;rfl)
theorem ET {f:H->H->Option Bool} (aB:∀{x y:H} {v:Value} {b:Bool},bY w CM ρ x v->bY w CM ρ y v->f x y=some b->b=true) (xs:List H):∀{ck:List H} {vs:List Value} {b:Bool},a8 w CM ρ xs vs->a8 w CM ρ ck vs->l1 f xs ck=some b->b=true:=by
 induction xs with
 |nil=>
  intro ck vs b M O e
  replace O:=(show vs=[] from M)▸O
  cases ck with
  |nil=>exact(Option.some.inj e).symm
  |cons y t=>obtain⟨v,dR,q,_⟩:=O;cases q
 |cons x r ih=>
  intro ck vs b M O e
  refine dP M ?_;clear M;intro v dR u;subst u;intro Y aC
  cases ck with
  |nil=>cases(show _=[] from O)
  |cons y t=>
   refine dP O ?_;clear O;intro eY Yt q bR dK
   cases q
   exact hC e (fun a c bz hc e=>cC e (by(refine B (aB Y bR bz) ?_;refine B (ih aC dK hc) ?_);rfl)) Z
theorem Mp (n:Nat):∀{x y:H} {v:Value} {b:Bool},bY w CM ρ x v->bY w CM ρ y v->eR n x y=some b->b=true:=by
 induction n with
 |zero=>intro x y v b _ _ e;exact Z e
 |succ n ih=>
  intro x y v b ae aQ e
  revert ae aQ
  refine xy e (fun _ _=>rfl) (fun i ae aQ=> ?_) (fun i ae aQ=> ?_) (fun i j ae aQ=> ?_) (fun i j ae aQ=> ?_) (fun i j b e ae aQ=> ?_) (fun i j b aq e ae aQ=> ?_) (fun i j aq ae aQ=> ?_)
  ·rw [show v=.none from ae] at aQ;obtain⟨u,q⟩:=aQ;cases q
  ·rw [show v=.none from aQ] at ae;obtain⟨u,q⟩:=ae;cases q
  ·obtain⟨t,rfl⟩:=ae;obtain⟨u,q⟩:=aQ;injection q with q;refine B q ?_;exact beq_self_eq_true _
  ·obtain⟨t,rfl⟩:=ae;obtain⟨u,q⟩:=aQ;injection q with q;refine B q ?_;exact beq_self_eq_true _
  ·obtain⟨a,vs,k,rfl,M,O⟩:=ae
   obtain⟨jB,c1,cY,q,Y,aC⟩:=aQ
   cases q;replace Y:=M▸Y;cases Y
   exact ET ih i O aC e
  ·obtain⟨a,vs,k,rfl,M,O⟩:=ae
   obtain⟨jB,c1,cY,q,Y,aC⟩:=aQ
   cases q;replace Y:=M▸Y;cases Y
   exact ET ih i O aC e
  ·obtain⟨a,vs,k,rfl,M,O⟩:=ae
   obtain⟨jB,c1,cY,q,Y,aC⟩:=aQ
   cases q;replace Y:=M▸Y;cases Y
   exact absurd (O.length.symm.trans aC.length) aq
theorem zT {per:List H} (ap:cK w CM K ρ s per) (n:Nat):∀{A:Around} {x y:H} {v u:Value} {b:Bool},A.units+n<cLine->bY w CM ρ x v->bY w CM ρ y u->eR n x y=some b->EqAt A s v u b:=by
 induction n with
 |zero=>intro A x y v u b _ _ _ e;exact Z e
 |succ n ih=>
  intro A x y v u b b2 ae aQ e
  by_cases sK:v=u
  ·rw [<-sK] at aQ|-
   refine B (Mp (n+1) ae aQ e) ?_
   exact EqAt.same v
  have sh:A.in1.units+n<cLine:=by(refine B (Around.in1_units _) ?_;refine B (Nat.add_assoc _ _ _) ?_;refine B (Nat.add_comm 1 _) ?_);exact b2
  have jq:A.units<cLine:=Nat.lt_of_le_of_lt (Nat.le_add_right _ _) b2
  revert ae aQ
  refine xy e (fun ae aQ=> ?_) (fun i ae aQ=> ?_) (fun i ae aQ=> ?_) (fun i j ae aQ=> ?_) (fun i j ae aQ=> ?_) (fun i j b e ae aQ=> ?_) (fun i j b aq e ae aQ=> ?_) (fun i j aq ae aQ=> ?_)
  ·exact absurd ((show v=.none from ae).trans (show u=.none from aQ).symm) sK
  ·refine B (show v=.none from ae) ?_;obtain⟨dR,rfl⟩:=aQ;exact EqAt.none_int _ _
  ·refine B (show u=.none from aQ) ?_;obtain⟨dR,rfl⟩:=ae;exact EqAt.int_none _ _
  ·obtain⟨t,rfl⟩:=ae;obtain⟨dR,rfl⟩:=aQ;exact EqAt.int_int _ _ _ _
  ·obtain⟨t,rfl⟩:=ae;obtain⟨dR,rfl⟩:=aQ;exact EqAt.str_str _ _ _ _
  ·obtain⟨a,vs,k,rfl,M,O⟩:=ae
   obtain⟨jB,c1,cY,rfl,Y,aC⟩:=aQ
   obtain⟨wB,ak,ar⟩:=tY i e
   exact EqAt.of_refs (fun q=>sK (by(refine B q ?_;rfl))) (Ce O aC ar▸RcAt.tuples (l7 (ap.bK _ _ M)) (l7 (ap.bK _ _ Y)) jq (tV O aC ak (ih sh)))
  ·obtain⟨a,vs,k,rfl,M,O⟩:=ae
   obtain⟨jB,c1,cY,rfl,Y,aC⟩:=aQ
   obtain⟨wB,ak,ar⟩:=tY i e
   exact EqAt.of_refs (fun q=>sK (by(refine B q ?_;rfl))) (Gj O aC aq ar▸RcAt.lists (fA (ap.bK _ _ M)) (fA (ap.bK _ _ Y)) (O.length.trans (aq.trans aC.length.symm)) jq (tV O aC ak (ih sh)))
  ·obtain⟨a,vs,k,rfl,M,O⟩:=ae
   obtain⟨jB,c1,cY,rfl,Y,aC⟩:=aQ
   exact EqAt.of_refs (fun q=>sK (by(refine B q ?_;rfl))) (RcAt.lists_lengths (fA (ap.bK _ _ M)) (fA (ap.bK _ _ Y)) (bne_iff_ne.mpr fun q=>aq (O.length.symm.trans (Eq.trans q aC.length))) jq)
noncomputable def xf (w:World) (A:Around) (s:Shared) (v u:Value) (b:Bool):Prop:=
 (∀(E:Value->Shared->Prop) (Q:Value->Shared->Prop),Q (.bool b) s->wpAny (model aw w) A (compareOp .Eq v u) Q E s)/\∀(E:Value->Shared->Prop) (Q:Value->Shared->Prop),Q (.bool (!b)) s->wpAny (model aw w) A (compareOp .NotEq v u) Q E s
theorem xf.of {v u:Value} {b:Bool} (h:RcAt A s v u b) (h':RcNeAt A s v u (!b)):xf w A s v u b:=⟨fun E Q q=>h aw w E Q q,fun E Q q=>h' aw w E Q q⟩
theorem SG {i j:List (al×H)} {b:Bool} (h:yl i j=some b):(i.length=j.length->i=[])/\b=(i.length==j.length):=by
 cases i with
 |nil=>cases j<;>exact⟨fun _=>rfl,(Option.some.inj h).symm⟩
 |cons _ _=>cases j with
  |nil=>exact⟨fun q=>(nomatch q),(Option.some.inj h).symm⟩
  |cons _ _=>exact Z h
theorem EW {per:List H} (ap:cK w CM K ρ s per) {A:Around} {x y:H} {v u:Value} {b:Bool} (b2:A.units+eF<cLine) (ae:cv w CM ρ s x v) (aQ:cv w CM ρ s y u) (e:vy x y=some b):xf w A s v u b:=by
 have jq:A.units<cLine:=Nat.lt_of_le_of_lt (Nat.le_add_right _ _) b2
 have sh:A.in1.units+31<cLine:=by(refine B (Around.in1_units _) ?_;refine B (Nat.add_assoc _ _ _) ?_);exact b2
 refine Ic e (fun i j ak ar h=> ?_) (fun e=> ?_)
 ·obtain⟨M,O⟩:=SG h
  obtain⟨a,vP,rfl,bz,lO,li⟩:=cv.V ap (ak▸ae)
  obtain⟨jB,wJ,rfl,kU,Am,Ac⟩:=cv.V ap (ar▸aQ)
  have F7:∀kg,vP.length=wJ.length->KeqHits (K:=al) kg s wJ vP true:=fun kg q=>by
   refine B (show vP=[] from List.eq_nil_of_length_eq_zero (by rw [li.length,M (li.length.symm.trans (q.trans Ac.length))];rfl)) ?_;exact .nil
  have ah:b=(vP.length==wJ.length&&true):=by(refine B O ?_;refine B li.length ?_;refine B Ac.length ?_;refine B (Bool.and_true _) ?_;rfl)
  refine B ah ?_
  exact⟨fun E Q q=>keq_eq bz kU lO Am jq (F7 _) q,fun E Q q=>keq_ne bz kU lO Am jq (F7 _) q⟩
 ·revert ae aQ
  refine xy (show eR (31+1) x y=some b from e) (fun ae aQ=> ?_) (fun i ae aQ=> ?_) (fun i ae aQ=> ?_) (fun i j ae aQ=> ?_) (fun i j ae aQ=> ?_) (fun i j b e ae aQ=> ?_) (fun i j b aq e ae aQ=> ?_) (fun i j aq ae aQ=> ?_)
  ·(refine B ae.none ?_;refine B aQ.none ?_);exact .of (RcAt.none_none) (RcNeAt.none_none)
  ·refine B ae.none ?_;obtain⟨dR,rfl⟩:=aQ.int;exact .of (RcAt.none_int _ _) (RcNeAt.none_int _ _)
  ·refine B aQ.none ?_;obtain⟨dR,rfl⟩:=ae.int;exact .of (RcAt.int_none _ _) (RcNeAt.int_none _ _)
  ·obtain⟨t,rfl⟩:=ae.int;obtain⟨dR,rfl⟩:=aQ.int;exact .of (RcAt.int_int _ _ _ _) (RcNeAt.int_int _ _ _ _)
  ·obtain⟨t,rfl⟩:=ae.str;obtain⟨dR,rfl⟩:=aQ.str;exact .of (RcAt.str_str _ _ _ _) (RcNeAt.str_str _ _ _ _)
  ·obtain⟨a,vs,k,rfl,M,O⟩:=ae.aF ap
   obtain⟨jB,c1,cY,rfl,Y,aC⟩:=aQ.aF ap
   obtain⟨wB,ak,ar⟩:=tY i e
   have aW:=tV O aC ak (zT ap 31 sh)
   refine bu (Ce O aC ar) ?_
   exact .of (RcAt.tuples (l7 M) (l7 Y) jq aW) (RcNeAt.tuples (l7 M) (l7 Y) jq aW)
  ·obtain⟨a,vs,k,rfl,M,O⟩:=ae.am ap
   obtain⟨jB,c1,cY,rfl,Y,aC⟩:=aQ.am ap
   obtain⟨wB,ak,ar⟩:=tY i e
   have aW:=tV O aC ak (zT ap 31 sh)
   have dq:(Array.mk vs).size=(Array.mk c1).size:=O.length.trans (aq.trans aC.length.symm)
   refine bu (Gj O aC aq ar) ?_
   exact .of (RcAt.lists (fA M) (fA Y) dq jq aW) (RcNeAt.lists (fA M) (fA Y) dq jq aW)
  ·obtain⟨a,vs,k,rfl,M,O⟩:=ae.am ap
   obtain⟨jB,c1,cY,rfl,Y,aC⟩:=aQ.am ap
   have dq:((Array.mk vs).size !=(Array.mk c1).size)=true:=bne_iff_ne.mpr fun q=>aq (O.length.symm.trans (Eq.trans q aC.length))
   exact .of (RcAt.lists_lengths (fA M) (fA Y) dq jq) (RcNeAt.lists_lengths (fA M) (fA Y) dq jq)
theorem M6 {x:Str} (l:List H):∀{b:Bool} {vs:List Value},a8 w CM ρ l vs->ya x l=some b->(∀y∈vs,∃z t,y=.str z t)/\b=vs.any (fun y=>match y with|.str z _=>decide (z=x)|_=>false):=by
 induction l with
 |nil=>intro b vs h q;refine B (show vs=[] from h) ?_;exact⟨fun y aQ=>(nomatch aQ),(Option.some.inj q).symm⟩
 |cons y r ih=>
  intro b vs h q
  refine bG q (fun z hz q=> ?_) Z
  replace h:=(zP hz)▸h
  obtain⟨v,t,rfl,⟨tk,rfl⟩,O⟩:=h
  refine bb (Option.map_eq_some_iff.mp q) ?_;intro c hc u;subst u
  refine cl (ih O hc) ?_;intro Y aC
  refine⟨fun y aQ=> ?_,?_⟩
  ·rcases List.mem_cons.mp aQ with rfl|aQ
   ·exact⟨_,_,rfl⟩
   ·exact Y y aQ
  ·(refine B List.any_cons ?_;refine B aC ?_;rfl)
theorem bY.fE {x:H} {v:Value} (q:bY w CM ρ x v):(v==.none)=fE x:=by
 cases x with
 |none=>refine B (show v=.none from q) ?_;rfl
 |bool _=>refine B (show v=_ from q) ?_;rfl
 |int _=>exact q.elim fun t h=>by refine B h ?_;rfl
 |str _=>exact q.elim fun t h=>by refine B h ?_;rfl
 |aF _=>obtain⟨a,vs,n,h,_⟩:=q;refine B h ?_;rfl
 |am _=>obtain⟨a,vs,n,h,_⟩:=q;refine B h ?_;rfl
 |V _=>obtain⟨a,_,_,_,_,h,_⟩:=q;refine B h ?_;rfl
 |dT _ _=>obtain⟨a,_,_,_,h,_⟩:=q;refine B h ?_;rfl
 |per _=>obtain⟨a,h,_⟩:=q;refine B h ?_;rfl
theorem cv.fE {x:H} {v:Value} (q:cv w CM ρ s x v):(v==.none)=fE x:=by
 cases q with
 |gg h=>exact bY.fE h
 |«at» a ay h=>
  refine B ay ?_
  cases x<;>first|exact h.elim|rfl
theorem cv.key {x:H} {v:Value} {k:al} (q:cv w CM ρ s x v) (h:gc x=some k):iq k v=true:=by
 cases x with
 |int i=>cases h;obtain⟨t,rfl⟩:=q.int;exact Ma i t
 |str i=>cases h;obtain⟨t,rfl⟩:=q.str;exact Gw i t
 |_=>cases h
theorem S1 {bW:CmpOp} {x y:H} {v u:Value} {b:Bool} (q:eI bW x y=some b) (b2:A.units+eF<cLine) (I:aK w CM K env J ρ s fs) (ae:cv w CM ρ s x v) (aQ:cv w CM ρ s y u):
  wpAny (model aw w) A (compareOp bW v u) (b4 w CM K env J ρ s fs (.U (.bool b)) fs) cc s:=by
 have cI:∀{c:Bool},c=b->b4 w CM K env J ρ s fs (.U (.bool b)) fs (.bool c) s:=fun h=>h▸eu (tk:=s.toks) I rfl
 have G7:∀{c:Bool},c=b->b4 w CM K env J ρ s fs (.U (.bool b)) fs (.bool c) {s with toks:=s.toks+1}:=fun h=>h▸eu I rfl
 have db:∀{f:Int->Int->Bool},(fj (fX x) (fX y) fun i j=>some (f i j))=some b->∃i j t dR,v=.int i t/\u=.int j dR/\f i j=b:=fun q=>
  hC q (fun i j M O q=>(cv.int (jy M▸ae)).elim fun t e=>(cv.int (jy O▸aQ)).elim fun dR cg=>⟨i,j,t,dR,e,cg,Option.some.inj q⟩) Z
 cases bW with
 |Lt=>obtain⟨i,j,t,dR,rfl,rfl,q⟩:=db q;exact PyProof.Rows.lt_int (cI q)
 |LtE=>obtain⟨i,j,t,dR,rfl,rfl,q⟩:=db q;exact PyProof.Rows.le_int (cI q)
 |Gt=>obtain⟨i,j,t,dR,rfl,rfl,q⟩:=db q;exact PyProof.Rows.gt_int (cI q)
 |GtE=>obtain⟨i,j,t,dR,rfl,rfl,q⟩:=db q;exact PyProof.Rows.ge_int (cI q)
 |Eq=>exact(EW I.base b2 ae aQ q).1 _ _ (cI rfl)
 |NotEq=>exact(Option.map_eq_some_iff.mp q).elim fun c e=>(EW I.base b2 ae aQ e.1).2 _ _ (cI e.2)
 |Is=>
  refine cH q (fun h q=> ?_) Z
  have aQ:cv w CM ρ s .none u:=zf h▸aQ
  refine B aQ.none ?_
  exact is_none (cI (ae.fE.trans (Option.some.inj q)))
 |IsNot=>
  refine cH q (fun h q=> ?_) Z
  have aQ:cv w CM ρ s .none u:=zf h▸aQ
  refine B aQ.none ?_
  exact isNot_none (cI (by refine B ae.fE ?_;exact Option.some.inj q))
 |In=>
  cases y with
  |V l=>
   refine bb (Option.map_eq_some_iff.mp q) ?_;intro k ag u;subst u
   refine gr (aQ.V I.base) ?_;intro a aS u;subst u;intro bz lO li
   exact wpAny_in_of (knd:=kk w) (ae.key ag) bz lO.mapOf (G7 li.isSome)
  |aF l=>
   refine bG q (fun z hz q=> ?_) Z
   obtain⟨t,rfl⟩:=cv.str (zP hz▸ae)
   refine dz (aQ.aF I.base) ?_;intro a vs n u;subst u;intro M O
   refine cl (M6 l O q) ?_;intro Y aC
   refine PySem.SeqAt.in_tupleAt _ (l7 M) (fun y aQ=> ?_) (cI (by refine B aC ?_;simp;rfl))
   obtain⟨z,dR,rfl⟩:=Y y (by simpa using aQ)
   exact EqAt.str_str _ _ _ _
  |_=>exact Z q
 |NotIn=>
  refine bG q (fun l aq q=> ?_) Z
  refine bb (Option.map_eq_some_iff.mp q) ?_;intro k ag u;subst u
  refine gr (cv.V I.base (yC aq▸aQ)) ?_;intro a aS u;subst u;intro bz lO li
  exact wpAny_notIn_of (knd:=kk w) (ae.key ag) bz lO.mapOf (G7 (by(refine B li.isSome ?_;rfl)))
end
end Mine
end
section
open PySem PySem.W PySem.Calls PyProof.Rows
namespace Mine
section
variable{w:World} {CM:cn} {K:Top} {env:Env} {J:Scope} {A:Around} {ρ ρ₀ ρ':a5} {s c9 az:Shared} {fs fs':X} {R:bk}
theorem Vm {c:Const} {k:Nat} {pos:Pos} {r:aU} (q:Ca c fs=some (r,fs')) (I:aK w CM K env J ρ s fs):wpAny (model aw w) A (eval (.Constant c k pos) env) (b4 w CM K env J ρ s fs r fs') cc s:=by
 cases c with
 |none=>exact b6 q (wpAny_Constant_none (eu (tk:=s.toks) I rfl))
 |bool b=>exact b6 q (wpAny_Constant_bool (eu (tk:=s.toks) I rfl))
 |int i=>exact b6 q (wpAny_Constant_int (eu I ⟨_,rfl⟩))
 |str x=>exact b6 q (wpAny_Constant_str (eu I ⟨_,rfl⟩))
 |_=>exact Z q
theorem KL {x:Str} {pos:Pos} {bh:cf} (q:getL x fs.loc=some bh) (hd:(x==("__debug__":Str))=false) (I:aK w CM K env J ρ s fs):
  wpAny (model aw w) A (eval (.Name x pos) env) (b4 w CM K env J ρ s fs (x5 x bh) fs) cc s:=by
 refine bb (I.eW x bh q) ?_;intro v M O
 have cI:b4 w CM K env J ρ s fs (x5 x bh) fs v s:=by
  refine⟨ρ,I,a1.refl ..,cb.refl ..,?_⟩
  cases bh with
  |U y=>exact O
  |aD y=>obtain⟨a,Y,aC⟩:=O;exact⟨a,Y,.inl aC⟩
 rcases M with⟨bV,cE,m,cX,dU⟩|⟨bV,cE,c,cX,dU⟩
 ·exact wpAny_Name (wpAny_loadName_local I.c0.kind cE cX dU cI) hd
 ·exact wpAny_Name (wpAny_loadName_cell I.c0.kind cE cX dU cI) hd
theorem Mq (S:cB w CM K env J A R) {pos:Pos} (es:List Expr):∀{b:Bool} {fs fs':X} {ρ:a5} {s:Shared},oa R es fs=some (b,fs')->aK w CM K env J ρ s fs->
  wpAny (model aw w) A (boolOp pos .And (evalEach es env)) (b4 w CM K env J ρ s fs (.U (.bool b)) fs') cc s:=by
 induction es with
 |nil=>intro b fs fs' ρ s q I;exact Z q
 |cons e es ih=>
  intro b fs fs' ρ s q I
  refine AU q (fun gs fs₁ bv q=> ?_) Z
  cases es with
  |nil=>exact b6 (show some (gs,fs₁)=some (b,fs') by cases gs<;>exact q) (S.a9 e fs _ fs₁ bv ρ s I)
  |cons cg es=>
   show wpAny _ A (eval e env>>=fun v=>standAt pos>>=fun _=>holding [v] (truthy v)>>=fun t=>match BoolOp.And,t with
    |.And,false|.Or,true=>pure v
    |_,_=>boolOp pos .And (evalEach (cg::es) env)) _ _ s
   refine wpAny_bind (S.eN bv I fun v aj aN aZ a0 bw aP=> ?_)
   refine B (show v=.bool gs from aP) ?_
   refine wpAny_bind (wpAny_standAt (wpAny_bind (wpAny_holding (wpAny_truthy_bool ?_))))
   cases gs with
   |false=>exact b6 (show some (false,fs₁)=some (b,fs') from q) (wpAny_pure ⟨aN,aZ,a0,bw,rfl⟩)
   |true=>exact iw a0 bw (ih q aZ)
theorem PG (S:cB w CM K env J A R) {bW:BoolOp} (es:List Expr):∀{b:Bool} {fs fs':X} {ρ:a5} {s:Shared},zv R bW es fs=some (b,fs')->aK w CM K env J ρ s fs->
  wpAny (model aw w) A (allTrue bW es env) (kj w CM K env J ρ s fs b fs') cc s:=by
 induction es with
 |nil=>
  intro b fs fs' ρ s q I
  refine b6 q ?_
  cases bW
  ·exact wpAny_allTrue_And_nil ⟨rfl,ρ,I,a1.refl ..,cb.refl ..⟩
  ·exact wpAny_allTrue_Or_nil ⟨rfl,ρ,I,a1.refl ..,cb.refl ..⟩
 |cons e es ih=>
  intro b fs fs' ρ s q I
  refine b5 q (fun gs fs₁ bv q=> ?_) Z
  cases bW<;>cases gs
  ·refine wpAny_allTrue_And_cons (S.l8 bv I fun aj aN aZ a0 bw=> ?_);exact b6 (show some (false,fs₁)=some (b,fs') from q) ⟨rfl,aN,aZ,a0,bw⟩
  ·exact wpAny_allTrue_And_cons (S.l8 bv I fun aj aN aZ a0 bw=>sy a0 bw (ih q aZ))
  ·exact wpAny_allTrue_Or_cons (S.l8 bv I fun aj aN aZ a0 bw=>sy a0 bw (ih q aZ))
  ·refine wpAny_allTrue_Or_cons (S.l8 bv I fun aj aN aZ a0 bw=> ?_);exact b6 (show some (true,fs₁)=some (b,fs') from q) ⟨rfl,aN,aZ,a0,bw⟩
theorem Wd (S:cB w CM K env J A R) {bW:CmpOp} {e:Expr} {p:aU×X} (q:R.a9 e fs=some p):behindInMarks bW e=false:=by
 cases e with
 |Set es k p=>exact Z ((S.set es k p fs).symm.trans q)
 |_=>rfl
theorem to (b2:A.units+eF<cLine) {aN:a5} {aj:Shared} {fs₁:X} {bW:CmpOp} {left r:aU} {x y:H} {bh fq:Value} {c:Bool} {Q E:Value->Shared->Prop} (hc:eI bW x y=some c) (aq:eP w CM ρ₀ ρ s fs left bh)
  (ae:fs₁.cF left=some x) (aQ:fs₁.cF r=some y) (aZ:aK w CM K env J aN aj fs₁) (a0:a1 ρ s aN aj) (bw:cb ρ fs.loc aN fs₁.loc) (aP:eP w CM ρ aN aj fs₁ r fq)
  (k:∀ct b8,aK w CM K env J b8 ct fs₁->a1 ρ s b8 ct->cb ρ fs.loc b8 fs₁.loc->eP w CM ρ b8 ct fs₁ r fq->Q (.bool c) ct):wpAny (model aw w) A (compareOp bW bh fq) Q E aj:=
 Vj (S1 hc b2 aZ (ie aZ (aq.bt a0 bw) ae) (ie aZ aP aQ)) fun v ct b8 cN ca dF h=>by
  refine B (show v=.bool c from h) ?_;exact k ct b8 cN (a0.trans ca) (bw.trans dF) (aP.bt ca dF)
theorem Gy (S:cB w CM K env J A R) (b2:A.units+eF<cLine) {pos:Pos} (e7:List CmpOp):∀{ρ₀:a5} {es:List Expr} {left:aU} {b:Bool} {fs fs':X} {ρ:a5} {s:Shared} {bh:Value},q3 R left e7 es fs=some (b,fs')->aK w CM K env J ρ s fs->
  eP w CM ρ₀ ρ s fs left bh->
  wpAny (model aw w) A (compareChain pos bh e7 (markedEach e7 es (evalEach es env))) (b4 w CM K env J ρ s fs (.U (.bool b)) fs') cc s/\
  wpAny (model aw w) A (testChain pos bh e7 (markedEach e7 es (evalEach es env))) (kj w CM K env J ρ s fs b fs') cc s:=by
 induction e7 with
 |nil=>intro ρ₀ es left b fs fs' ρ s bh q;exact Z q
 |cons bW e7 ih=>
  intro ρ₀ es left b fs fs' ρ s bh q I aq
  cases es with
  |nil=>exact Z q
  |cons e es=>
   refine b5 q (fun r fs₁ bv q=>hC q (fun x y ae aQ q=>bG q (fun c hc q=> ?_) Z) Z) Z
   cases e7 with
   |nil=>
    cases es with
    |cons _ _=>exact Z q
    |nil=>
     refine b6 (show some (c,fs₁)=some (b,fs') from q) ?_
     refine B (show markedEach [bW] [e] (evalEach [e] env)=[eval e env] by show [markedBehindIn bW e (eval e env)]=_;rw [markedBehindIn_of_false (Wd S bv)]) ?_
     constructor
     ·show wpAny _ A (holding [bh] (eval e env)>>=fun fq=>standAt pos>>=fun _=>operate [bh,fq] (compareOp bW bh fq)) _ _ s
      exact wpAny_bind (wpAny_holding (S.eN bv I fun fq aj aN aZ a0 bw aP=>wpAny_bind (wpAny_standAt (wpAny_operate' (to b2 hc aq ae aQ aZ a0 bw aP fun ct b8 cN ca dF _=>⟨b8,cN,ca,dF,rfl⟩)))))
     ·show wpAny _ A (holding [bh] (eval e env)>>=fun fq=>standAt pos>>=fun _=>operate [bh,fq] (compareOp bW bh fq)>>=fun c=>holding [c] (truthy c)) _ _ s
      exact wpAny_bind (wpAny_holding (S.eN bv I fun fq aj aN aZ a0 bw aP=>wpAny_bind (wpAny_standAt (wpAny_bind (wpAny_operate' (to b2 hc aq ae aQ aZ a0 bw aP fun ct b8 cN ca dF _=>wpAny_holding (wpAny_truthy_bool ⟨rfl,b8,cN,ca,dF⟩)))))))
   |cons kW e7=>
    cases es with
    |nil=>exact Z q
    |cons cg es=>
     have q:br (vH r) (fun v=>if c=true then q3 R (.U v) (kW::e7) (cg::es) fs₁ else some (false,fs₁))=some (b,fs'):=q
     refine bG q (fun v ay q=> ?_) Z
     rw [DH ay] at bv aQ
     refine B (show markedEach (bW::kW::e7) (e::cg::es) (evalEach (e::cg::es) env)=eval e env::markedEach (kW::e7) (cg::es) (evalEach (cg::es) env) from rfl) ?_
     constructor
     ·show wpAny _ A (holding [bh] (eval e env)>>=fun fq=>standAt pos>>=fun _=>holding [bh,fq] (compareOp bW bh fq)>>=fun c=>release [bh,fq] [c]>>=fun _=>holding [c,fq] (truthy c)>>=fun t=>if t=true then compareChain pos fq (kW::e7) _ else pure c) _ _ s
      refine wpAny_bind (wpAny_holding (S.eN bv I fun fq aj aN aZ a0 bw aP=>wpAny_bind (wpAny_standAt (wpAny_bind (wpAny_holding (to b2 hc aq ae aQ aZ a0 bw aP fun ct b8 cN ca dF ot=>wpAny_bind (PyProof.Rows.wpAny_release' (wpAny_bind (wpAny_holding (wpAny_truthy_bool ?_))))))))))
      cases c with
      |true=>exact iw ca dF (ih ((if_pos rfl).symm.trans q) cN ot).1
      |false=>exact b6 (show some (false,fs₁)=some (b,fs') from q) (wpAny_pure ⟨b8,cN,ca,dF,rfl⟩)
     ·show wpAny _ A (holding [bh] (eval e env)>>=fun fq=>standAt pos>>=fun _=>holding [bh,fq] (compareOp bW bh fq)>>=fun c=>release [bh,fq] [c]>>=fun _=>holding [c,fq] (truthy c)>>=fun t=>if t=true then testChain pos fq (kW::e7) _ else pure false) _ _ s
      refine wpAny_bind (wpAny_holding (S.eN bv I fun fq aj aN aZ a0 bw aP=>wpAny_bind (wpAny_standAt (wpAny_bind (wpAny_holding (to b2 hc aq ae aQ aZ a0 bw aP fun ct b8 cN ca dF ot=>wpAny_bind (PyProof.Rows.wpAny_release' (wpAny_bind (wpAny_holding (wpAny_truthy_bool ?_))))))))))
      cases c with
      |true=>exact sy ca dF (ih ((if_pos rfl).symm.trans q) cN ot).2
      |false=>exact b6 (show some (false,fs₁)=some (b,fs') from q) (wpAny_pure ⟨rfl,b8,cN,ca,dF⟩)
theorem Xr {l:List H} {vs:List Value} (h:a8 w CM ρ l vs):vs.isEmpty=l.isEmpty:=by
 have:=h.length
 cases vs<;>cases l<;>first|rfl|exact(nomatch this)
theorem Wv {x:H} {v:Value} {b:Bool} (q:CU x=some b) (I:aK w CM K env J ρ s fs) (h:cv w CM ρ s x v):wpAny (model aw w) A (truthy v) (kj w CM K env J ρ s fs b fs) cc s:=by
 cases x with
 |bool c=>
  refine B h.bool ?_
  exact cC q (wpAny_truthy_bool ⟨rfl,ρ,I,a1.refl ..,cb.refl ..⟩)
 |am l=>
  refine cH q (fun hz q=>cC q ?_) Z
  refine dz (h.am I.base) ?_;intro a vs n u;subst u;intro M O
  refine wpAny_truthy_list (fA M) ?_ ⟨?_,ρ,I.tok,a1.tok,cb.refl ..⟩
  ·refine B (show(Array.mk vs).size=l.length from O.length) ?_;exact Int.ofNat_lt.mpr (Nat.lt_of_le_of_lt hz (by decide))
  ·refine bu (Xr O) ?_;cases vs<;>rfl
 |_=>exact Z q
end
end Mine
end
section
open PySem PySem.W PySem.Calls PyProof.Rows
namespace Mine
structure y7 (CM:cn) (K:Frag):Prop where
 sx:∀c C a,CM c=some C->pW c a=true->hasDictIn K C=true/\plainGet K C a=true/\∃nx,findIn K (.ref C) a=some nx/\noGet K nx=true
section
variable{w:World} {CM:cn} {K:Top} {env:Env} {J:Scope} {A:Around} {ρ ρ₀ ρ':a5} {s c9 az:Shared} {fs fs':X} {R:bk}
theorem cK.hU {per:List H} {a:Addr} {h':Heap} {tk:Nat} (ap:cK w CM K ρ s per) (hd:ρ a=.aV) (hs:Heap.SameBut a s.heap h') (aq:h'.get? a≠none):cK w CM K ρ {s with heap:=h',toks:=tk} per where
 fW:=ap.fW
 ft:=ap.ft
 fi:=fun b e=>let⟨M,o,O,Y⟩:=ap.fi b e;⟨M,o,(hs.2 b (fun q=>by subst q;replace M:=hd▸M;exact M)).trans O,Y⟩
 bK:=fun b ob e=>(hs.2 b (d7 e hd)).trans (ap.bK b ob e)
 c2:=fun b=>by
  by_cases q:b=a
  ·subst q;refine B hd ?_;exact⟨fun e=>(nomatch e),fun e=>absurd e aq⟩
  ·show ρ b=.free↔h'.get? b=none
   refine B (hs.2 b q) ?_;exact ap.c2 b
 gx:=ap.gx
 fU:=fun b k e=>let⟨x,M,O⟩:=ap.fU b k e;⟨x,M,O.bt (fun _ _ q=>q) (fun _ _ q=>q) fun ob q=>(hs.2 b (d7 e hd)).trans q⟩
 inj:=ap.inj
theorem aK.hU {a:Addr} {h':Heap} {tk:Nat} (I:aK w CM K env J ρ s fs) (hd:ρ a=.aV) (eG:∀x c,J.names.lookup x=some .free->env.cells.lookup x=some c->c≠a) (hs:Heap.SameBut a s.heap h') (aq:h'.get? a≠none):
  aK w CM K env J ρ {s with heap:=h',toks:=tk} fs where
 base:=I.base.hU hd hs aq
 c0:=I.c0
 cJ:=I.cJ
 fx:=let⟨m,e⟩:=I.fx;⟨m,e.sameBut hs (d7 I.cJ hd)⟩
 eW:=fun x bh e=>by
  refine bb (I.eW x bh e) ?_;intro v M O
  refine⟨v,?_,O⟩
  rcases M with⟨bV,cE,m,cX,dU⟩|⟨bV,cE,c,cX,dU⟩
  ·exact .inl ⟨bV,cE,m,cX.sameBut hs (d7 I.cJ hd),dU⟩
  ·refine .inr ⟨bV,cE,c,cX,dU.sameBut hs ?_⟩
   rcases bV with bV|bV
   ·intro q
    refine dP (I.cells x bV) ?_;intro c' eY cP dG _
    replace cP:=cX▸cP;cases cP
    (replace dG:=q▸dG;replace dG:=hd▸dG);cases dG
   ·exact eG x c bV cX
 cells:=fun x e=>let⟨c,v,M,O,Y,aC⟩:=I.cells x e;⟨c,v,M,O,Y,aC.sameBut hs (d7 O hd)⟩
 frees:=I.frees
 apart:=I.apart
 e1:=fun b x e=>let⟨aL,c,M,O⟩:=I.e1 b x e;⟨aL,c,M,O.bt (fun _ _ q=>q) (fun _ _ q=>q) fun ob q=>(hs.2 b (d7 e hd)).trans q⟩
 fk:=I.fk
theorem a1.hU {a:Addr} {h':Heap} {tk:Nat} (av:a1 ρ₀ c9 ρ s) (aL:ρ₀ a=.free) (hs:Heap.SameBut a s.heap h'):a1 ρ₀ c9 ρ {s with heap:=h',toks:=tk} where
 bK:=av.bK
 aV:=av.aV
 per:=av.per
 cJ:=av.cJ
 fb:=av.fb
 stk:=av.stk
 aD:=av.aD
 keep:=fun b ob e q=>(hs.2 b (d7 e aL)).trans (av.keep b ob e q)
 hW:=fun b ob e q=>let⟨f0,cg⟩:=av.hW b ob e q;⟨f0,(hs.2 b (d7 e aL)).trans cg⟩
 ao:=by obtain⟨h,tk,rfl⟩:=av.ao;exact⟨h',_,rfl⟩
theorem bY.UX {x:H} {v:Value} (q:bY w CM ρ x v):handedIn v=true:=by
 cases x with
 |none=>refine B (show v=.none from q) ?_;rfl
 |bool _=>refine B (show v=_ from q) ?_;rfl
 |int _=>exact q.elim fun t h=>by refine B h ?_;rfl
 |str _=>exact q.elim fun t h=>by refine B h ?_;rfl
 |aF _=>obtain⟨a,vs,n,h,_⟩:=q;refine B h ?_;rfl
 |am _=>obtain⟨a,vs,n,h,_⟩:=q;refine B h ?_;rfl
 |V _=>obtain⟨a,_,_,_,_,h,_⟩:=q;refine B h ?_;rfl
 |dT _ _=>obtain⟨a,_,_,_,h,_⟩:=q;refine B h ?_;rfl
 |per _=>obtain⟨a,h,_⟩:=q;refine B h ?_;rfl
theorem Mv (bl:y7 CM K.f) {c a:Str} {l:List (Str×H)} {x:H} {v:Value} (I:aK w CM K env J ρ s fs) (h:bY w CM ρ (.dT c l) v) (bz:pW c a=true) (q:iC a l=some x):
  wpAny (model aw w) A (getAttr v a true) (b4 w CM K env J ρ s fs (.U x) fs) cc s:=by
 obtain⟨ad,d,gV,C,rfl,M,O,Y,aC,bR⟩:=h
 obtain⟨ea,fH,nx,ht,kY⟩:=bl.sx c C a M bz
 refine bb (bR.gh q) ?_;intro u ak ar
 have bP:lookIn a gV=some (some u):=by
  cases e:lookIn a gV with
  |none=>replace ak:=e▸ak;exact Z ak
  |some y=>replace ak:=e▸ak;(refine B (show y=some u from ak) ?_;rfl)
 have In:InstAt s.heap ad (instObj C d) C (some gV):=⟨I.base.bK _ _ O,rfl,rfl,I.base.bK _ _ Y⟩
 exact get_value I.in In (plainGet_of fH).1 (findObj_own ea ht kY bP) (bY.UX ar) (eu I ar)
theorem S2 {i:Int} {n j:Nat} (h:kb i n=some j):seqIndex? i n=some j/\j<n:=by
 unfold kb at h
 unfold seqIndex?
 split at h
 ·rename_i aL
  refine cH h ?_ Z;clear h;intro M h
  refine oD h ?_;clear h;intro u;subst u
  have bF:¬i<0:=by exact JQ aL
  simp only [bF,if_false]
  refine B (if_pos (by simp;exact Ih M bF)) ?_
  exact⟨rfl,M⟩
 ·rename_i aL
  refine cH h ?_ Z;clear h;intro M h
  refine oD h ?_;clear h;intro u;subst u
  have bF:i<0:=by exact HW aL
  simp only [bF,if_true]
  refine B (if_pos (by simp;exact IA M bF)) ?_
  exact⟨rfl,by exact MS M bF⟩
theorem BR {i:Int} (h:i.natAbs<2^62): -(2:Int)^63<=i:=by exact S9 h
theorem B3 {i:Int} (h:i.natAbs<2^62):i<(2:Int)^63:=by exact TR h
theorem RE {a:Addr} {items:Array Value} {i:Int} {t j:Nat} {v:Value} {Q E:Value->Shared->Prop} (dO:s.heap.IsList a items) (aR:i.natAbs<2^62) (hs:kb i items.size=some j) (ay:items[j]? =some v) (h:Q v s):
  wpAny (model aw w) A (getItem (.ref a) (.int i t)) Q E s:=by
 unfold kb at hs
 by_cases aL:0<=i
 ·replace hs:=(if_pos aL)▸hs
  exact cH hs (fun _ hs=>wpAny_getItem_list dO aL (B3 aR) (Option.some.inj hs▸ay) h) Z
 ·replace hs:=(if_neg aL)▸hs
  exact cH hs (fun M hs=>wpAny_getItem_list_neg dO (Int.not_le.mp aL) (by exact JI M) (BR aR) (Option.some.inj hs▸ay) h) Z
theorem zW {qs:Expr} (h:∀l u p,qs≠.Slice l u none p) (o i:Value):subscripted qs false o i=operate [o,i] (getItem o i):=by
 cases qs<;>try rfl
 rename_i l u ao p
 cases ao with
 |none=>exact absurd rfl (h l u p)
 |some _=>rfl
theorem Pz {x k y:H} {o i:Value} {value qs:Expr} (ey:∀l u p,qs≠.Slice l u none p) (q:oh x k=some y) (I:aK w CM K env J ρ s fs) (ae:cv w CM ρ s x o) (ag:cv w CM ρ s k i):
  wpAny (model aw w) A (subscriptTail value qs o i) (b4 w CM K env J ρ s fs (.U y) fs) cc s:=by
 cases x with
 |am l=>
  refine Cr q fun l4 j e aR bF aQ=> ?_
  replace ag:=e▸ag
  refine bT ag.int ?_;intro t u;subst u
  refine dz (ae.am I.base) ?_;intro a vs n u;subst u;intro M O
  refine bb (O.gh aQ) ?_;intro v Y aC
  have dO:s.heap.IsList a (Array.mk vs):=fA M
  refine tail_any dO.typeIs slot_list_getitem.lookup ?_ (zW ey _ _)
  exact RE dO aR ((congrArg (kb l4 ·) O.length).trans bF) ((List.getElem?_toArray ..).trans Y) (eu (tk:=s.toks) I aC)
 |aF l=>
  refine Cr q fun l4 j e aR bF aQ=> ?_
  replace ag:=e▸ag
  refine bT ag.int ?_;intro t u;subst u
  refine dz (ae.aF I.base) ?_;intro a vs n u;subst u;intro M O
  refine bb (O.gh aQ) ?_;intro v Y aC
  have dO:IsTup s.heap a (Array.mk vs):=⟨_,M,rfl,n,rfl⟩
  refine tail_any dO.typeIs slot_tuple_getitem.lookup ?_ (zW ey _ _)
  exact PyProof.Rows.getItem_tuple dO (BR aR) (B3 aR) ((congrArg (seqIndex? l4 ·) O.length).trans (S2 bF).1) ((List.getElem?_toArray ..).trans Y) (eu (tk:=s.toks) I aC)
 |V l=>
  refine bG q (fun Jn sF q=> ?_) Z
  refine gr (ae.V I.base) ?_;intro a aS u;subst u;intro bz lO li
  have:=li.gh (k:=Jn)
  replace this:=q▸this
  refine bb this ?_;clear this;intro v Y aC
  refine tail_any lO.typeIs slot_dict_getitem.lookup ?_ (zW ey _ _)
  exact wpAny_getItem_of (knd:=kk w) (ag.key sF) lO.mapOf Y (eu I aC)
 |_=>exact Z q
theorem Do {α:Type} (l:List α):∀(n a:Nat),((List.range n).map fun k=>a+k).filterMap (fun j=>l[j]?)=(l.drop a).take n
 |0,a=>by simp
 |n+1,a=>by
  (refine B List.range_succ_eq_map ?_;refine B List.map_cons ?_;refine B List.map_map ?_;refine B List.filterMap_cons ?_)
  have e:(List.map ((fun k=>a+k)∘Nat.succ) (List.range n))=(List.range n).map fun k=>(a+1)+k:=List.map_congr_left fun k _=>by simp only [Function.comp];exact IW
  (refine B e ?_;refine B (Do l n (a+1)) ?_)
  by_cases h:a<l.length
  ·have ak:l[a+0]? =some l[a]:=by simp [h]
   (refine B ak ?_;refine B (List.drop_eq_getElem_cons h) ?_)
   rfl
  ·have ak:l[a+0]? =none:=by simp;exact vr h
   have ar:l.drop a=[]:=List.drop_eq_nil_of_le (by exact vr h)
   have bP:l.drop (a+1)=[]:=List.drop_eq_nil_of_le (by exact Pa h)
   (refine B ak ?_;refine B ar ?_;refine B bP ?_);simp
theorem Uc {α:Type} (l:List α) (a b:Nat):(l.take b).drop a=(l.drop a).take (b-a):=by
 (refine B List.drop_take ?_;rfl)
theorem MK (i:Int) (n:Nat):max 0 (min (if i<0 then i+n else i) (n:Int))=(jj i n:Int):=by
 unfold jj
 by_cases h:i<0
 ·(refine B (if_pos h) ?_;refine B (if_pos h) ?_;refine B (Int.min_eq_left (Int.add_le_of_le_sub_right (by rw [Int.sub_self];exact Int.le_of_lt h))) ?_;refine B (Int.ofNat_toNat _) ?_;refine B (Int.max_comm _ _) ?_;rfl)
 ·(refine B (if_neg h) ?_;refine B (if_neg h) ?_)
  obtain⟨k,rfl⟩:=Int.eq_ofNat_of_zero_le (Int.not_lt.mp h)
  refine B (Int.toNat_natCast _) ?_
  exact(Nat.le_total k n).elim (fun h=>by(refine B (Int.min_eq_left (Int.ofNat_le.mpr h)) ?_;refine B (Nat.min_eq_left h) ?_;refine B (Int.max_eq_right (Int.natCast_nonneg _)) ?_;rfl)) fun h=>by(refine B (Int.min_eq_right (Int.ofNat_le.mpr h)) ?_;refine B (Nat.min_eq_right h) ?_;refine B (Int.max_eq_right (Int.natCast_nonneg _)) ?_;rfl)
theorem Xi {l:List H} {vs:List Value} {cZ aR:Option Int} (h:a8 w CM ρ l vs):a8 w CM ρ (iT l cZ aR) (slicePick (Array.mk vs) cZ aR none).toList:=by
 have bC:=h.length
 have ak:(sliceBounds cZ aR none (Array.mk vs).size)=((vN l.length cZ:Int),(t9 l.length aR:Int),1):=by
  unfold sliceBounds
  simp only [Option.getD_none,show(1:Int)>0 by decide,if_true,List.size_toArray]
  refine B bC ?_
  cases cZ<;>cases aR<;>simp only [vN,t9,<-MK]<;>rfl
 generalize bc:vN l.length cZ=a at ak
 generalize pX:t9 l.length aR=b at ak
 have ar:iT l cZ aR=(l.drop a).take (b-a):=by
  unfold iT
  (refine B bc ?_;refine B pX ?_)
  exact Uc l a b
 have bP:(slicePick (Array.mk vs) cZ aR none).toList=(vs.drop a).take (b-a):=by
  unfold slicePick
  refine B ak ?_
  dsimp only
  refine B (sliceRange_one _ _) ?_
  have:=Do vs (b-a) a
  simpa using this
 (refine B ar ?_;refine B bP ?_)
 exact(h.drop a).take (b-a)
theorem Av (S:cB w CM K env J A R) {e:Option Expr} {i:Option Int} {Q E:Value->Shared->Prop} (q:mB R e fs=some (i,fs')) (I:aK w CM K env J ρ s fs)
  (k:∀v az ρ',IsPart v i->aK w CM K env J ρ' az fs'->a1 ρ s ρ' az->cb ρ fs.loc ρ' fs'.loc->Q v az):wpAny (model aw w) A (evalPart e env) Q E s:=by
 cases e with
 |none=>exact b6 (G:=fun i fs'=>(∀v az ρ',IsPart v i->aK w CM K env J ρ' az fs'->a1 ρ s ρ' az->cb ρ fs.loc ρ' fs'.loc->Q v az)->_) q (fun k=>wpAny_evalPart_none (k _ s ρ .none I (a1.refl ..) (cb.refl ..))) k
 |some e=>
  refine Hh q (fun j fs₁ bv q=> ?_) Z
  refine wpAny_evalPart_some (S.eN bv I fun v aj aN aZ a0 bw aP=> ?_)
  obtain⟨t,rfl⟩:=aP
  cases q
  exact k _ aj aN (.int j t) aZ a0 bw
theorem X6 {l:List H} {vs:List Value} {a b:Option Int} {o:Obj} (I:aK w CM K env J ρ s fs) (O:a8 w CM ρ l vs):
  b4 w CM K env J ρ s fs (.own (.am (iT l a b))) fs (.ref (s.heap.push o).objs.size) {s with heap:=(s.heap.push o).push {cls:=.type "list",data:=.seq (slicePick (Array.mk vs) a b none)}}:=by
 refine o8 (tk:=s.toks) I (fun b ob e=>Heap.get?_push_of_some _ (Heap.get?_push_of_some _ e)) ?_ ⟨(slicePick (Array.mk vs) a b none).toList,0,Heap.get?_push_size _ rfl,Xi O⟩
 cases e:s.heap.get? (s.heap.push o).objs.size with
 |none=>rfl
 |some ob=>exact absurd (Heap.lt_size e) (by refine B (Heap.size_push _ _) ?_;exact Nat.not_lt.mpr (Nat.le_succ _))
theorem T4 (S:cB w CM K env J A R) {e:Expr} {cZ aR:Option Expr} {p pos:Pos} {r r':aU} {a b:Option Int} {fs₁ fs₂ fs₃:X} {l:List H}
  (bZ:R.a9 e fs=some (r,fs₁)) (bn:mB R cZ fs₁=some (a,fs₂)) (ee:mB R aR fs₂=some (b,fs₃)) (ii:fs₃.cF r=some (.am l)) (hz:l.length<=a4) (I:aK w CM K env J ρ s fs):
  wpAny (model aw w) A (eval (.Subscript e (.Slice cZ aR none p) pos) env) (b4 w CM K env J ρ s fs (.own (.am (iT l a b))) fs₃) cc s:=by
 refine Subscript_ (S.eN bZ I fun v aj aN aZ a0 bw aP=> ?_)
 refine wpAny_Slice (Av S bn aZ fun F8 ct b8 jh cN ca dF=>Av S ee cN fun Ah jx jQ Qb he ej kz=> ?_)
 have av:a1 ρ s jQ jx:=(a0.trans ca).trans ej
 have dv:cb ρ fs.loc jQ fs₃.loc:=(bw.trans dF).trans kz
 refine dz ((ie he ((aP.bt ca dF).bt ej kz) ii).am he.base) ?_;intro ad vs n u;subst u;intro M O
 refine wpAny_of_eq (a:=.none) rfl ?_
 have dO:(jx.heap.push {cls:=.type "slice",data:=.fields #[F8,Ah,.none]}).IsList ad (Array.mk vs):=(fA M).push _
 refine tail_any (s:={jx with heap:=jx.heap.push {cls:=.type "slice",data:=.fields #[F8,Ah,.none]}}) dO.typeIs slot_list_getitem.lookup (wpAny_getItem_list_slice dO (Heap.IsSliceOf.new ..) jh Qb .none (by simp) ?_ ?_) rfl
 ·exact b4.trans av dv (X6 he O)
 ·exact Nat.le_trans (Nat.le_of_eq O.length) (Nat.le_trans hz ja)
theorem O3 (S:cB w CM K env J A R) {es:List Expr} {pos:Pos} {xs:List H} (q:dk R es fs=some (xs,fs')) (hz:xs.length<=a4) (I:aK w CM K env J ρ s fs):
  wpAny (model aw w) A (eval (.List es pos) env) (b4 w CM K env J ρ s fs (.own (.am xs)) fs') cc s:=by
 exact wpAny_List (FO S q I fun vs aj aN aZ a0 bw aP=>⟨by refine B aP.length ?_;exact Nat.le_trans hz ja,b4.trans a0 bw (o8 (tk:=aj.toks) aZ (fun b ob e=>Heap.get?_push_of_some _ e) fd ⟨vs,0,Heap.get?_push_size _ rfl,aP⟩)⟩)
theorem WP (S:cB w CM K env J A R) {es:List Expr} {k:Nat} {pos:Pos} {xs:List H} (q:dk R es fs=some (xs,fs')) (hz:xs.length<=a4) (I:aK w CM K env J ρ s fs):
  wpAny (model aw w) A (eval (.Tuple es k pos) env) (b4 w CM K env J ρ s fs (.U (.aF xs)) fs') cc s:=by
 exact wpAny_Tuple (FO S q I fun vs aj aN aZ a0 bw aP=>⟨by refine B aP.length ?_;exact Nat.le_trans hz ja,b4.trans a0 bw (zM (tk:=aj.toks) aZ (fun b ob e=>Heap.get?_push_of_some _ e) fd (Heap.get?_push_size _ rfl) fun ρ' aB an cr=>⟨_,vs,0,rfl,cr,aP.bt aB an⟩)⟩)
inductive qM (w:World) (CM:cn) (ρ:a5):List (al×H)->List (Value×Value)->Prop
 |nil:qM w CM ρ [] []
 |cons {k:al} {x:H} {eD v:Value} {l:List (al×H)} {vs:List (Value×Value)}:iq k eD=true->bY w CM ρ x v->qM w CM ρ l vs->qM w CM ρ ((k,x)::l) ((eD,v)::vs)
theorem CN {k:Option Expr} {ks:List (Option Expr)} {es:List Expr} {l:List (al×H)} {G:Prop} (q:ow R (k::ks) es fs=some (l,fs'))
  (g:∀n c p e t v fs₁ vs,k=some (.Constant (.str n) c p)->es=e::t->d0 R e fs=some (v,fs₁)->ow R ks t fs₁=some (vs,fs')->l=(.str n,v)::vs->G):G:=by
 cases es with
 |nil=>exact Z q
 |cons e t=>
  refine bG q (fun n aE q=>b5 q (fun v fs₁ bv q=>b5 q (fun vs fs₂ dI q=> ?_) Z) Z) Z
  obtain⟨c,p,ak⟩:=SI aE
  exact ym q fun u z=>g n c p e t v fs₁ vs ak rfl bv (by refine B z ?_;exact dI) u
theorem Rp (ks:List (Option Expr)):∀{es:List Expr} {l:List (al×H)} {fs fs':X},ow R ks es fs=some (l,fs')->ks.all (·.isSome)=true/\ks.length=es.length:=by
 induction ks with
 |nil=>
  intro es l fs fs' q
  cases es with
  |nil=>exact⟨rfl,rfl⟩
  |cons _ _=>exact Z q
 |cons k ks ih=>
  intro es l fs fs' q
  refine CN q fun n c p e t v fs₁ vs ak ar bv dI bP=> ?_
  (refine B ak ?_;refine B ar ?_)
  exact⟨(ih dI).1,congrArg (· +1) (ih dI).2⟩
theorem W4 (S:cB w CM K env J A R) {pos:Pos} (ks:List (Option Expr)):∀{es:List Expr} {l:List (al×H)} {fs fs':X} {ρ:a5} {s:Shared} {Q:List (Value×Value)->Shared->Prop} {E:Value->Shared->Prop},ow R ks es fs=some (l,fs')->aK w CM K env J ρ s fs->
  (∀vs az ρ',aK w CM K env J ρ' az fs'->a1 ρ s ρ' az->cb ρ fs.loc ρ' fs'.loc->qM w CM ρ' l vs->vs.length=ks.length->Q vs az)->
  wpAny (model aw w) A (evalPairs (pairTrees ks es env pos)) Q E s:=by
 induction ks with
 |nil=>
  intro es l fs fs' ρ s Q E q I g
  cases es with
  |nil=>cases q;exact wpAny_pure (g [] s ρ I (a1.refl ..) (cb.refl ..) .nil rfl)
  |cons e es=>exact Z q
 |cons k ks ih=>
  intro es l fs fs' ρ s Q E q I g
  refine CN q fun n c p e t v fs₁ vs ak ar bv dI bP=> ?_
  (refine B ak ?_;refine B ar ?_)
  show wpAny _ A (eval (.Constant (.str n) c p) env>>=fun eD=>holding [eD] (eval e env>>=fun x=>standAt pos>>=fun _=>pure x)>>=fun qz=>(do return (eD,qz)::(<-holding [eD,qz] (evalPairs (pairTrees ks t env pos))))) _ _ s
  refine wpAny_bind (wpAny_Constant_str ?_)
  refine wpAny_bind (wpAny_holding (wpAny_bind (r8 S bv (I.tok (tk:=s.toks+1)) fun v aj aN aZ a0 bw gB=>wpAny_bind (wpAny_standAt (wpAny_pure ?_)))))
  refine wpAny_bind (wpAny_holding (ih dI aZ fun c1 ct b8 cN ca dF vK bC=>wpAny_pure ?_))
  refine g _ ct b8 cN ((a1.tok.trans a0).trans ca) (bw.trans dF) ?_ (congrArg (· +1) bC)
  refine B bP ?_
  exact .cons (Gw n _) (bY.bt ca.bK ca.per gB) vK
theorem qM.OS {l:List (al×H)} {vs:List (Value×Value)} (h:qM w CM ρ l vs):∃aS,PySem.Carries (kk w) vs aS/\dV w CM ρ l aS:=by
 induction h with
 |nil=>exact⟨[],trivial,rfl⟩
 | @cons k x eD v l vs M O _ ih=>
  refine bb ih ?_;clear ih;intro aS Y aC
  exact⟨(k,v)::aS,⟨M,rfl,Y⟩,v,aS,rfl,O,aC⟩
theorem Mx {aS:List (al×Value)} (h:(aS.map (·.1)).Nodup) (k:al) (v:Value):((stored aS k v).map (·.1)).Nodup:=by
 induction aS with
 |nil=>simp [stored]
 |cons p t ih=>
  obtain⟨cY,u⟩:=p
  refine B (ys h) ?_
  split
  ·exact h
  ·rename_i b1
   refine cl (List.nodup_cons.mp h) ?_;intro M O
   refine List.nodup_cons.mpr ⟨fun aY=> ?_,ih O⟩
   have:∀{t:List (al×Value)},(t.map (·.1)).Nodup->cY∈(stored t k v).map (·.1)->cY∈t.map (·.1):=by
    intro t
    induction t with
    |nil=>intro _ aY;simp [stored] at aY;exact absurd aY.symm b1
    |cons p t ih=>
     obtain⟨Y5,r1⟩:=p
     intro aE aY
     replace aY:=(ys aE)▸aY
     split at aY
     ·exact aY
     ·rcases List.mem_cons.mp aY with rfl|aY
      ·exact List.mem_cons_self
      ·exact List.mem_cons_of_mem _ (ih (List.nodup_cons.mp aE).2 aY)
   exact M (this O aY)
theorem dV.merged:∀{l:List (al×H)} {aS:List (al×Value)} {d:List (al×H)} {ly:List (al×Value)},dV w CM ρ l aS->dV w CM ρ d ly->(ly.map (·.1)).Nodup->
  dV w CM ρ (l.foldl (fun d p=>cU p.1 p.2 d) d) (PySem.merged ly aS)
 |[],aS,d,ly,h,hd,_=>by refine B (show aS=[] from h) ?_;exact hd
 |(k,x)::r,aS,d,ly,⟨v,t,M,O,Y⟩,hd,aE=>by
  refine B M ?_
  show dV w CM ρ (r.foldl _ (cU k x d)) (PySem.merged (stored ly k v) t)
  exact dV.merged Y (hd.set aE O) (Mx aE k v)
theorem rJ {a:Addr} (i7:∃ob,K.f.lookup sysModules=some ob) (I:aK w CM K env J ρ s fs) (aE:s.heap.get? a=none):(a==sysModules)=false:=by
 refine bT i7 ?_;clear i7;intro ob h
 rw [beq_eq_false_iff_ne]
 rintro rfl
 replace aE:=(I.in _ _ h)▸aE;exact h3 aE
theorem UN (i7:∃ob,K.f.lookup sysModules=some ob) (S:cB w CM K env J A R) {ks:List (Option Expr)} {es:List Expr} {pos:Pos} {l:List (al×H)} (q:ow R ks es fs=some (l,fs')) (hz:ks.length<=15) (I:aK w CM K env J ρ s fs):
  wpAny (model aw w) A (eval (.Dict ks es pos) env) (b4 w CM K env J ρ s fs (.own (.V (l.foldl (fun d p=>cU p.1 p.2 d) []))) fs') cc s:=by
 by_cases aL:ks=[]
 ·subst aL
  cases es with
  |cons e es=>exact Z q
  |nil=>
   refine b6 (show some ([],fs)=some (l,fs') from q) ?_
   exact wpAny_Dict_empty (o8 (tk:=s.toks) I (fun b ob e=>Heap.get?_push_of_some _ e) fd
    ⟨_,#[],0,[],rJ i7 I fd,Heap.get?_push_size _ rfl,⟨rfl,rfl,rfl⟩,rfl,fun e aW=>by simp at aW,.nil,.nil,rfl⟩)
 ·have eG:ρ s.heap.objs.size=.free:=(I.base.c2 _).mpr fd
  have hs:=Rp ks q
  refine wpAny_Dict_walk (knd:=kk w) hs.1 hs.2 aL hz (W4 S (pos:=pos) ks q (I.dD (h':=s.heap.push {cls:=.type "dict",data:=.dict #[]}) (tk:=s.toks) (fun b ob e=>Heap.get?_push_of_some _ e)) fun vs aj aN aZ a0 bw gB bC=> ?_)
  refine bb gB.OS ?_;intro aS hc hd
  have AP:Heap.get? (s.heap.push {cls:=.type "dict",data:=.dict #[]}) s.heap.objs.size=some {cls:=.type "dict",data:=.dict #[]}:=Heap.get?_push_size _ rfl
  have rM:bQ ρ (s.heap.push {cls:=.type "dict",data:=.dict #[]}) s.heap.objs.size=.aV:=by unfold bQ;refine B eG ?_;simp [AP]
  have BN:=a0.aV _ rM
  have fw:aj.heap.get? s.heap.objs.size=some {cls:=.type "dict",data:=.dict #[]}:=a0.keep _ _ rM AP
  refine⟨aS,hc,⟨_,#[],0,fw,⟨rfl,rfl,rfl⟩,rfl,fun e aW=>by simp at aW,.nil,.nil⟩,fun h' dL pX=> ?_⟩
  have P9:a1 ρ s (bQ ρ (s.heap.push {cls:=.type "dict",data:=.dict #[]})) {s with heap:=s.heap.push {cls:=.type "dict",data:=.dict #[]}}:=a1.dD (tk:=s.toks) (fun b ob e=>Heap.get?_push_of_some _ e)
  have av:=P9.trans a0
  have dv:cb ρ fs.loc aN fs'.loc:=cb.dD.trans bw
  refine p0 dL ?_;clear dL;intro ob d3 cq ak ar bP cW dn fe
  refine⟨aN,aZ.hU BN (h5 I eG) pX (by refine B ak ?_;simp),av.hU eG pX,dv,_,rfl,eG,BN,ob,d3,cq,_,rJ i7 I fd,ak,ar,bP,cW,dn,fe,?_⟩
  exact dV.merged hd rfl .nil
end
end Mine
end
section
open PySem PySem.W PySem.Calls PyProof.Rows
namespace Mine
noncomputable def me:cT->Prop
 |.aV=>True
 |.aD _=>True
 |.frame=>True
 |.cell=>True
 |.stack=>True
 |.free=>False
 |.bf _=>False
 |.per _=>False
noncomputable def e2:cT->cT
 |.aD _=>.aV
 |.cell=>.aV
 |.frame=>.stack
 |.free=>.free
 |.aV=>.aV
 |.bf ob=>.bf ob
 |.per k=>.per k
 |.stack=>.stack
noncomputable def bo (ρ:a5):a5:=fun a=>e2 (ρ a)
noncomputable def v2 (r r':cT):cT:=match r with
 |.aD x=>.aD x
 |.cell=>.cell
 |.frame=>.frame
 |.free=>r'
 |.aV=>r'
 |.bf _=>r'
 |.per _=>r'
 |.stack=>r'
noncomputable def fh (ρ ρ':a5):a5:=fun a=>v2 (ρ a) (ρ' a)
structure BL (J:Scope) (ps:List Str):Prop where
 kind:J.kind=.function
 gen:J.isGenerator=false
 tz:J.isCoroutine=false
 par:∀x∈ps,J.names.lookup x=some .local\/J.names.lookup x=some .cell
 ex:ps.Nodup
 c2:∀x,J.names.lookup x≠some .free
 fb:∀n x,J.names.lookup x=some .cell->((cellsFrom n J.names []).lookup x).isSome=true
 Y1:∀n x c,(cellsFrom n J.names []).lookup x=some c->J.names.lookup x=some .cell
structure ka (F:Frag) (ao:Stmt) (a:Addr) (ob:Obj) (bL:FuncData):Prop where
 gy:F.lookup a=some ob
 data:ob.data=.func bL
 body:bL.body=.stmts (g5 ao)
 scope:bL.scope=bO ao
 tB:bL.globals=mainGlobals
 l6:bL.builtins=builtinsNs
 uu:bL.closure=[]
 code:codeIn F bL.code bL.qualname=true
 keep:keepIn F (.ref a)=true
 bind:∀be:List Value,be.length=(params ao).length->bL.defaults=.none->bindArgs bL ⟨be,[]⟩=pure ((params ao).zip be)
 J:BL (bO ao) (params ao)
noncomputable abbrev dM:=Str->Option Addr
structure pP (CM:cn) (bj:dM) (F:Frag):Prop extends y7 CM F where
 rH:∃ob,F.lookup sysModules=some ob
 sb:∀h:Heap,F.In h->h.NoLimit
 rh:∀x ao,du x=some ao->∃a ob bL,bj x=some a/\ka F ao a ob bL/\bL.defaults=.none
noncomputable def ru (ob:Obj):Prop:=ob.isFreed=false/\∃vs,ob.data=.fields vs/\2<vs.size/\vs[2]? =some .none
noncomputable def f4 (K:Top) (A:Around):Prop:=match K.eH with
 |none=>A.handled=none
 |some (e,ob)=>A.handled=some (.ref e)/\ru ob
noncomputable def zp (K:Top) (A:Around):Prop:=∃l,A.frames=some l/\∀env∈l,env.scope.kind≠.module/\∃L,env.frame=some L/\L∈K.frames
structure eh (K:Top) (k:Nat) (A:Around):Prop where
 eH:f4 K A
 frames:zp K A
 depth:A.depth+2*k+8<recursionLimit
 units:A.units+16*k+400<cLine
 xg:k%2=1->K.eH=none
noncomputable def tS (CM:cn) (P:Addr->Prop) (h:Heap) (a:Addr):Prop:=
 ∃C ob vs,CM "TreeFault"=some C/\h.get? a=some ob/\ob.isFreed=false/\ob.cls=.ref C/\ob.data=.fields vs/\2<vs.size/\vs[2]? =some .none/\
  (vs[1]? =some .none\/∃T ls ts,vs[1]? =some (.ref T)/\P T/\T≠a/\h.get? T=some ls/\ls.data=.fields ts/\ts[3]? =some .none)
theorem tS.imp {CM:cn} {P CK:Addr->Prop} {h:Heap} {a:Addr} (an:∀T,P T->CK T) (q:tS CM P h a):tS CM CK h a:=
 Exists.imp (fun C=>Exists.imp fun ob=>Exists.imp fun vs q=>⟨q.1,q.2.1,q.2.2.1,q.2.2.2.1,q.2.2.2.2.1,q.2.2.2.2.2.1,q.2.2.2.2.2.2.1,q.2.2.2.2.2.2.2.imp id fun q=>q.imp fun T q=>q.imp fun ls q=>q.imp fun ts q=>⟨q.1,an T q.2.1,q.2.2⟩⟩) q
noncomputable def vm (aT ρ:a5) (a:Addr):Prop:=aT a=.free/\ρ a=.aV
noncomputable def gl (CM:cn) (aT ρ:a5) (h:Heap) (a:Addr):Prop:=vm aT ρ a/\tS CM (vm aT ρ) h a
theorem gl.imp {CM:cn} {aT ρ GI ρ':a5} {h:Heap} {a:Addr} (an:∀T,vm aT ρ T->vm GI ρ' T) (q:gl CM aT ρ h a):gl CM GI ρ' h a:=⟨an a q.1,q.2.imp an⟩
section
variable(w:World) (CM:cn)
noncomputable def nn (ρ₀ ρ:a5) (s:Shared):aU->Value->Prop
 |.U x,v=>bY w CM ρ x v
 |.own x,v=>∃a,v=.ref a/\ρ₀ a=.free/\ρ a=.aV/\dN w CM ρ s.heap a x
 |.var _,_=>False
noncomputable def GW (K:Top) (ρ:a5) (s:Shared) (ai:bE) (per:List H) (v:Value) (az:Shared):Prop:=
 match ai with
 |.ret r=>∃ρ',cK w CM K ρ' az per/\a1 ρ s ρ' az/\iJ ρ'/\nn w CM ρ ρ' az r v
 |_=>False
noncomputable def Dm (K:Top) (ρ:a5) (s:Shared) (ai:bE) (per:List H) (e:Value) (az:Shared):Prop:=
 ai=.dA/\∃ρ' a,cK w CM K ρ' az per/\a1 ρ s ρ' az/\iJ ρ'/\e=.ref a/\gl CM ρ ρ' az.heap a
structure C6 (bj:dM) (F:Frag) (K:Top) (A:Around) (f:Str) (args:List H) (per:List H) (ai:bE) (de:List H) (a:Addr):Prop where
 zr:bj f=some a
 rh:∃ao ob bL,ka F ao a ob bL
 wp:∀ρ s be,cK w CM K ρ s per->iJ ρ->a8 w CM ρ args be->wpAny (model aw w) A (call (.ref a) be) (GW w CM K ρ s ai de) (Dm w CM K ρ s ai de) s
noncomputable def gL (bj:dM) (F:Frag) (k:Nat) (C:cs):Prop:=
 ∀f args per ai de,C f args per=some (ai,de)->∀(K:Top) A,K.f=F->eh K k A->∃a,C6 w CM bj F K A f args per ai de a
noncomputable def sf (K:Top) (env:Env) (J:Scope) (ρ:a5) (s:Shared) (fs:X) (ai:bE) (fs':X) (v:Value) (az:Shared):Prop:=match ai with
 |.ret r=>b4 w CM K env J ρ s fs r fs' v az
 |_=>False
noncomputable def rO (K:Top) (env:Env) (J:Scope) (ρ:a5) (s:Shared) (fs:X) (ai:bE) (fs':X) (e:Value) (az:Shared):Prop:=
 ai=.dA/\∃ρ' a,aK w CM K env J ρ' az fs'/\a1 ρ s ρ' az/\cb ρ fs.loc ρ' fs'.loc/\e=.ref a/\gl CM ρ ρ' az.heap a
end
section
variable{w:World} {CM:cn} {bj:dM} {F:Frag} {K:Top} {env:Env} {J:Scope} {A:Around} {ρ ρ₀ ρ':a5} {s c9 az:Shared} {fs fs':X} {R:bk}
theorem lT {a:Addr} {ob:Obj}:bo ρ a=.bf ob↔ρ a=.bf ob:=by
 show e2 (ρ a)=_↔_
 cases ρ a<;>first|exact Iff.rfl|exact⟨fun h=>cT.noConfusion h,fun h=>cT.noConfusion h⟩
theorem o2 {a:Addr} {k:Nat}:bo ρ a=.per k↔ρ a=.per k:=by
 show e2 (ρ a)=_↔_
 cases ρ a<;>first|exact Iff.rfl|exact⟨fun h=>cT.noConfusion h,fun h=>cT.noConfusion h⟩
theorem gY {a:Addr}:bo ρ a=.free↔ρ a=.free:=by
 show e2 (ρ a)=_↔_
 cases ρ a<;>first|exact Iff.rfl|exact⟨fun h=>cT.noConfusion h,fun h=>cT.noConfusion h⟩
theorem ig (ρ:a5):iJ (bo ρ):=fun a=>by
 show(∀x,e2 (ρ a)≠.aD x)/\e2 (ρ a)≠.frame/\e2 (ρ a)≠.cell
 cases ρ a<;>exact⟨fun _ h=>cT.noConfusion h,fun h=>cT.noConfusion h,fun h=>cT.noConfusion h⟩
theorem jt {a:Addr} {r:cT} (e:ρ a=r):fh ρ ρ' a=v2 r (ρ' a):=congrArg (fun r=>v2 r (ρ' a)) e
theorem Bm {a:Addr} {r:cT} (e:ρ' a=r) (M:∀x,ρ a=.aD x->ρ' a≠r) (O:ρ a=.cell->ρ' a≠r) (Y:ρ a=.frame->ρ' a≠r):fh ρ ρ' a=r:=by
 cases q:ρ a with
 |aD x=>exact absurd e (M x q)
 |cell=>exact absurd e (O q)
 |frame=>exact absurd e (Y q)
 |_=>exact(jt q).trans e
theorem LI {a:Addr} {x:Str} (e:fh ρ ρ' a=.aD x):ρ a=.aD x\/ρ' a=.aD x:=by
 cases q:ρ a with
 |aD y=>exact .inl ((jt q).symm.trans e)
 |cell=>exact cT.noConfusion ((jt q).symm.trans e)
 |frame=>exact cT.noConfusion ((jt q).symm.trans e)
 |_=>exact .inr ((jt q).symm.trans e)
theorem kB {a:Addr} {r:cT} (h:ρ' a=ρ a\/(me (ρ a)/\me (ρ' a)/\(e0 (ρ a)->e0 (ρ' a)))) (aP:¬me r):ρ a=r↔ρ' a=r:=
 h.elim (fun q=>by(refine B q ?_;rfl)) fun q=>⟨fun e=>absurd (e▸q.1) aP,fun e=>absurd (e▸q.2.1) aP⟩
theorem cK.qL {per:List H} (ap:cK w CM K ρ s per) (h:∀a,ρ' a=ρ a\/(me (ρ a)/\me (ρ' a)/\(e0 (ρ a)->e0 (ρ' a)))):cK w CM K ρ' s per:=
 ⟨fun a x e=>(kB (h a) id).mp (ap.fW a x e),fun a x e=>(kB (h a) id).mp (ap.ft a x e),fun a e=>⟨(h a).elim (fun q=>q▸(ap.fi a e).1) fun q=>q.2.2 (ap.fi a e).1,(ap.fi a e).2⟩,fun a ob e=>ap.bK a ob ((kB (h a) id).mpr e),fun a=>(kB (h a) id).symm.trans (ap.c2 a),fun k q=>(ap.gx k q).imp fun a e=>(kB (h a) id).mp e,
  fun a k e=>(ap.fU a k ((kB (h a) id).mpr e)).imp fun x q=>⟨q.1,q.2.bt (fun a _=>(kB (h a) id).mp) (fun a _=>(kB (h a) id).mp) fun _ e=>e⟩,fun a b k ak ar=>ap.inj a b k ((kB (h a) id).mpr ak) ((kB (h b) id).mpr ar)⟩
theorem cK.bo {per:List H} (ap:cK w CM K ρ s per):cK w CM K (bo ρ) s per:=ap.qL fun a=>by
 show e2 (ρ a)=_\/(me (ρ a)/\me (e2 (ρ a))/\(e0 (ρ a)->e0 (e2 (ρ a))))
 cases ρ a<;>first|exact .inl rfl|exact .inr ⟨trivial,trivial,id⟩
theorem bY.bo {x:H} {v:Value} (h:bY w CM ρ x v):bY w CM (bo ρ) x v:=h.bt (fun a ob e=>lT.mpr e) (fun a ob e=>o2.mpr e)
theorem a8.bo {x:List H} {v:List Value} (h:a8 w CM ρ x v):a8 w CM (bo ρ) x v:=h.bt (fun a ob e=>lT.mpr e) (fun a ob e=>o2.mpr e)
theorem a1.oS (av:a1 (Mine.bo ρ) s ρ' az):(∀a x,ρ a=.aD x->ρ' a=.aV)/\(∀a,ρ a=.cell->ρ' a=.aV)/\(∀a,ρ a=.frame->ρ' a=.stack):=
 ⟨fun a x e=>av.aV a (congrArg e2 e),fun a e=>av.aV a (congrArg e2 e),fun a e=>av.stk a (congrArg e2 e)⟩
theorem pj (av:a1 (Mine.bo ρ) s ρ' az):(∀a ob,ρ' a=.bf ob->fh ρ ρ' a=.bf ob)/\(∀a k,ρ' a=.per k->fh ρ ρ' a=.per k):=
 ⟨fun a ob e=>Bm e (fun x q z=>cT.noConfusion ((av.oS.1 a x q).symm.trans z)) (fun q z=>cT.noConfusion ((av.oS.2.1 a q).symm.trans z)) fun q z=>cT.noConfusion ((av.oS.2.2 a q).symm.trans z),
  fun a ob e=>Bm e (fun x q z=>cT.noConfusion ((av.oS.1 a x q).symm.trans z)) (fun q z=>cT.noConfusion ((av.oS.2.1 a q).symm.trans z)) fun q z=>cT.noConfusion ((av.oS.2.2 a q).symm.trans z)⟩
theorem aK.rT {de:List H} (I:aK w CM K env J ρ s fs) (lJ:cK w CM K ρ' az de) (av:a1 (Mine.bo ρ) s ρ' az) (hc:iJ ρ'):
  aK w CM K env J (fh ρ ρ') az {fs with per:=de}/\a1 ρ s (fh ρ ρ') az/\cb ρ fs.loc (fh ρ ρ') fs.loc:=by
 refine ef av.oS ?_;intro eC ez hX
 refine cl (pj av) ?_;intro aB an
 have bA:∀a ob,ρ a=.bf ob->fh ρ ρ' a=.bf ob:=fun a ob e=>aB a ob (av.bK a ob (lT.mpr e))
 have iQ:∀a ob,ρ a=.per ob->fh ρ ρ' a=.per ob:=fun a ob e=>an a ob (av.per a ob (o2.mpr e))
 have e3:∀a x,ρ a=.aD x->fh ρ ρ' a=.aD x:=fun a x e=>jt e
 have eZ:∀a,ρ a=.frame->fh ρ ρ' a=.frame:=fun a e=>jt e
 have zS:∀a,ρ a=.cell->fh ρ ρ' a=.cell:=fun a e=>jt e
 have dL:∀a,ρ a=.aV->fh ρ ρ' a=.aV:=fun a e=>(jt e).trans (av.aV a (congrArg e2 e))
 have m0:∀a,ρ a=.stack->fh ρ ρ' a=.stack:=fun a e=>(jt e).trans (av.stk a (congrArg e2 e))
 have rR:∀a ob,ρ a=.cell->s.heap.get? a=some ob->az.heap.get? a=some ob:=fun a ob h e=>av.keep a ob (congrArg e2 h) e
 have GH:∀a ob,ρ a=.aV->s.heap.get? a=some ob->az.heap.get? a=some ob:=fun a ob h e=>av.keep a ob (congrArg e2 h) e
 have dm:∀m,s.heap.Ns env.locals m->az.heap.Ns env.locals m:=fun m ⟨o,es,cq,bZ,q⟩=>(av.hW _ _ (congrArg e2 I.cJ) bZ).elim fun f0 iB=>⟨_,es,cq,iB,q⟩
 have vA:∀a x,fh ρ ρ' a=.aD x->ρ a=.aD x:=fun a x e=>(LI e).elim id fun q=>absurd q ((hc a).1 x)
 refine⟨⟨lJ.qL fun a=> ?_,I.c0,eZ _ I.cJ,I.fx.imp dm,fun x bh e=> ?_,fun x e=> ?_,fun x c ak ar=>dL _ (I.frees x c ak ar),I.apart,fun a x e=> ?_,fun a b x ak ar=>I.fk a b x (vA a x ak) (vA b x ar)⟩,
  ⟨bA,dL,iQ,eZ,zS,m0,fun a x e=>.inl (e3 a x e),GH,fun a ob h e=>av.hW a ob (congrArg e2 h) e,av.ao⟩,⟨fun _ _ e=>e,fun a x e=>.inl (e3 a x e),vA⟩⟩
 ·cases q:ρ a with
  |aD y=>exact .inr ⟨by refine B (eC a y q) ?_;trivial,by refine B (e3 a y q) ?_;trivial,by refine B (eC a y q) ?_;exact fun h=>h.elim⟩
  |cell=>exact .inr ⟨by refine B (ez a q) ?_;trivial,by refine B (zS a q) ?_;trivial,by refine B (ez a q) ?_;exact fun h=>h.elim⟩
  |frame=>exact .inr ⟨by refine B (hX a q) ?_;trivial,by refine B (eZ a q) ?_;trivial,by refine B (eZ a q) ?_;exact fun _=>trivial⟩
  |_=>exact .inl (jt q)
 ·refine bb (I.eW x bh e) ?_;intro v M O
  refine⟨v,M.imp (fun q=>⟨q.1,q.2.1,q.2.2.imp fun m q=>⟨dm m q.1,q.2⟩⟩) (fun q=>⟨q.1,q.2.1,q.2.2.imp fun c z=>⟨z.1,z.2.imp fun o y=>⟨q.1.elim (fun bV=> ?_) fun bV=>GH c o (I.frees x c bV z.1) y.1,y.2⟩⟩⟩),O.bt bA iQ e3⟩
  refine dP (I.cells x bV) ?_;intro c' eY bZ bn _
  replace bZ:=z.1▸bZ;cases(bZ)
  exact rR c o bn y.1
 ·exact(I.cells x e).imp fun c q=>q.imp fun v q=>⟨q.1,zS _ q.2.1,q.2.2.1,q.2.2.2.imp fun o z=>⟨rR c o q.2.1 z.1,z.2⟩⟩
 ·have cg:=vA a x e
  exact⟨(I.e1 a x cg).1,(I.e1 a x cg).2.imp fun c q=>⟨q.1,q.2.bt bA iQ fun ob z=>av.keep a ob (congrArg e2 cg) z⟩⟩
theorem kD {a:Addr} (bR:Mine.bo ρ a=.free):fh ρ ρ' a=ρ' a:=by
 exact jt (gY.mp bR)
theorem nn.out {r:aU} {v:Value} (q:nn w CM (Mine.bo ρ) ρ' az r v) (av:a1 (Mine.bo ρ) s ρ' az):eP w CM ρ (fh ρ ρ') az fs' r v:=by
 refine cl (pj av) ?_;intro aB an
 cases r with
 |U x=>exact bY.bt aB an q
 |own x=>
  refine gn q ?_;clear q;intro a M O Y aC
  exact⟨a,M,gY.mp O,by refine B (kD O) ?_;exact Y,aC.bt aB an fun _ e=>e⟩
 |var x=>exact q.elim
theorem gl.out {h:Heap} {a:Addr} (q:gl CM (Mine.bo ρ) ρ' h a):gl CM ρ (fh ρ ρ') h a:=
 q.imp fun T z=>⟨gY.mp z.1,(kD z.1).trans z.2⟩
theorem gl.base {aT:a5} {h:Heap} {a:Addr} (q:gl CM ρ ρ' h a) (ah:∀a,ρ a=.free->aT a=.free):gl CM aT ρ' h a:=
 q.imp fun T z=>⟨ah T z.1,z.2⟩
theorem aK.C4 {f:Str} {args de:List H} {ai:bE} {a:Addr} (c4:C6 w CM bj F K A f args fs.per ai de a) (I:aK w CM K env J ρ s fs) {be:List Value} (ay:a8 w CM ρ args be):
  wpAny (model aw w) A (call (.ref a) be) (sf w CM K env J ρ s fs ai {fs with per:=de}) (rO w CM K env J ρ s fs ai {fs with per:=de}) s:=by
 refine wpAny_mono (c4.wp (Mine.bo ρ) s be I.base.bo (ig ρ) ay.bo) (fun v az h=> ?_) fun e az h=> ?_
 ·cases ai with
  |ret r=>
   refine gn h ?_;clear h;intro ρ' lJ av hc aP
   refine ef (I.rT lJ av hc) ?_;intro hq eX g1
   exact⟨_,hq,eX,g1,aP.out av⟩
  |_=>exact h
 ·refine⟨h.1,?_⟩
  refine qu h.2 ?_;clear h;intro ρ' a lJ av hc e bR
  refine ef (I.rT lJ av hc) ?_;intro hq eX g1
  exact⟨_,a,hq,eX,g1,e,bR.out⟩
theorem sf.trans {aN:a5} {aj:Shared} {fs₁:X} {ai:bE} {v:Value} (av:a1 ρ s aN aj) (dv:cb ρ fs.loc aN fs₁.loc) (h:sf w CM K env J aN aj fs₁ ai fs' v az):sf w CM K env J ρ s fs ai fs' v az:=by
 cases ai with
 |ret r=>exact b4.trans av dv h
 |_=>exact h
theorem rO.trans {aN:a5} {aj:Shared} {fs₁:X} {ai:bE} {v:Value} (av:a1 ρ s aN aj) (dv:cb ρ fs.loc aN fs₁.loc) (h:rO w CM K env J aN aj fs₁ ai fs' v az):rO w CM K env J ρ s fs ai fs' v az:=
 ⟨h.1,h.2.imp fun ρ' h=>h.imp fun a h=>⟨h.1,av.trans h.2.1,dv.trans h.2.2.1,h.2.2.2.1,h.2.2.2.2.base av.ic⟩⟩
end
end Mine
end
section
open PySem PySem.W PySem.Calls PyProof.Rows
namespace Mine
noncomputable def hF (F:Frag) (x:Str):Option Value:=br (nsIn F mainGlobals x) fun v=>match v with
 |some v=>some v
 |none=>br (nsIn F builtinsNs x) id
structure s9 (CM:cn) (bj:dM) (F:Frag):Prop extends pP CM bj F where
 AC:∀x a,bj x=some a->j0 x=true->hF F x=some (.ref a)
section
variable{w:World} {CM:cn} {bj:dM} {F:Frag} {K:Top} {env:Env} {J:Scope} {A:Around} {ρ ρ₀ ρ':a5} {s c9 az:Shared} {fs fs':X} {R:bk}
theorem nJ {x:Str} {pos:Pos} {v:Value} {Q:Value->Shared->Prop} {E:Value->Shared->Prop} (g:hF F x=some v) (ae:J.names.lookup x=some .globalImplicit) (h1:nY env J) (av:F.In s.heap) (hd:(x==("__debug__":Str))=false) (h:Q v s):
  wpAny (model aw w) A (eval (.Name x pos) env) Q E s:=by
 refine Name_function_global h1.kind (h1.imp x ae) ?_ hd
 unfold loadGlobal
 refine B h1.tB ?_
 refine bG g (fun u e g=> ?_) Z
 refine wpAny_bind ((looks_nsIn av e).here ?_)
 cases u with
 |some eY=>exact wpAny_pure (Option.some.inj (show some eY=some v from g)▸h)
 |none=>
  refine bG g (fun u cg g=> ?_) Z
  refine B h1.l6 ?_
  replace cg:=(show u=some v from g)▸cg
  exact wpAny_bind ((looks_nsIn av cg).here (wpAny_pure h))
theorem uw {pos:Pos} {t:Sem Value} {l:List (Bool×Sem Value)}:backTo pos ((false,t)::l)=(false,t)::backTo pos l:=rfl
theorem w8 (S:cB w CM K env J A R) {pos:Pos} {f:Value} {args:List Expr} {vs:List H} {Q:Args->Shared->Prop} {E:Value->Shared->Prop} (q:dk R args fs=some (vs,fs')) (I:aK w CM K env J ρ s fs)
  (h:∀be aj,ri w CM K env J ρ s fs vs fs' be aj->Q ⟨be,[]⟩ aj):wpAny (model aw w) A (evalArgs f true (backTo pos (starEach args env)) []) Q E s:=by
 cases args with
 |nil=>exact b6 (G:=fun vs fs'=>(∀be aj,ri w CM K env J ρ s fs vs fs' be aj->Q ⟨be,[]⟩ aj)->wpAny (model aw w) A (evalArgs f true (backTo pos (starEach [] env)) []) Q E s) q (fun h=>evalArgs_nil3 (h [] s ⟨ρ,I,a1.refl ..,cb.refl ..,a8.nil⟩)) h
 |cons e es=>
  refine b5 q (fun x fs₁ ak _=> ?_) Z
  have c4:=AL S (pos:=pos) _ q I
  rw [wZ S ak,uw] at c4|-
  exact evalArgs_plain (wpAny_mono c4 (fun be aj p=>h be aj p) fun _ _ f=>f.elim)
theorem CH (S:cB w CM K env J A R) {pos:Pos} {f:Value} {args:List Expr} {vs:List H} {Q:Args->Shared->Prop} {E:Value->Shared->Prop} (q:dk R args fs=some (vs,fs')) (I:aK w CM K env J ρ s fs)
  (k:∀v aj aN,aK w CM K env J aN aj fs'->a1 ρ s aN aj->cb ρ fs.loc aN fs'.loc->a8 w CM aN vs v->Q ⟨v,[]⟩ aj):wpAny (model aw w) A (evalArgs f true (backTo pos (starEach args env)) []) Q E s:=
 w8 S q I fun v aj h=>h.elim fun aN h=>k v aj aN h.1 h.2.1 h.2.2.1 h.2.2.2
theorem Gc (S:cB w CM K env J A R) {pos:Pos} {f:Value} {args:List Expr} {vs:List H} {first:List Value} {Q:Value->Shared->Prop} {E:Value->Shared->Prop} (ag:keepIn K.f f=true) (q:dk R args fs=some (vs,fs')) (I:aK w CM K env J ρ s fs)
  (h:∀be aj,ri w CM K env J ρ s fs vs fs' be aj->wpAny (model aw w) A (call f (first++be)) Q E aj):wpAny (model aw w) A (callWith pos f first (backTo pos (starEach args env)) []) Q E s:=by
 refine callWith_of (P:=K.f.In) ?_ (keeps_K ag) (w8 S q I fun be aj p=>⟨?_,h be aj p⟩)
 ·refine B ((sm S _ q).1) ?_;rfl
 ·obtain⟨aN,aZ,_⟩:=p;exact aZ.in
theorem wj (S:cB w CM K env J A R) {pos:Pos} {f:Value} {args:List Expr} {vs:List H} {first:List Value} {Q:Value->Shared->Prop} {E:Value->Shared->Prop} (ag:keepIn K.f f=true) (q:dk R args fs=some (vs,fs')) (I:aK w CM K env J ρ s fs)
  (k:∀v aj aN,aK w CM K env J aN aj fs'->a1 ρ s aN aj->cb ρ fs.loc aN fs'.loc->a8 w CM aN vs v->wpAny (model aw w) A (call f (first++v)) Q E aj):wpAny (model aw w) A (callWith pos f first (backTo pos (starEach args env)) []) Q E s:=
 Gc S ag q I fun v aj h=>h.elim fun aN h=>k v aj aN h.1 h.2.1 h.2.2.1 h.2.2.2
theorem Hj (S:cB w CM K env J A R) {pos:Pos} {id:String} {args:List Expr} {vs:List H} {first:List Value} {Q:Value->Shared->Prop} {E:Value->Shared->Prop} (q:dk R args fs=some (vs,fs')) (I:aK w CM K env J ρ s fs)
  (h:∀be aj,ri w CM K env J ρ s fs vs fs' be aj->wpAny (model aw w) A (call (.builtin id) (first++be)) Q E aj):wpAny (model aw w) A (callWith pos (.builtin id) first (backTo pos (starEach args env)) []) Q E s:=
 callWith_builtin (sm S _ q).1 (w8 S q I fun be aj p=>h be aj p)
theorem QW (S:cB w CM K env J A R) {pos:Pos} {f:Value} {e:Expr} {r:aU} {Q:Args->Shared->Prop} {E:Value->Shared->Prop} (q:R.a9 e fs=some (r,fs')) (I:aK w CM K env J ρ s fs)
  (h:∀v aj,b4 w CM K env J ρ s fs r fs' v aj->Q ⟨[v],[]⟩ aj):(backTo pos (starEach [e] env)).any (·.1)=false/\wpAny (model aw w) A (evalArgs f true (backTo pos (starEach [e] env)) []) Q E s:=by
 have ak:starEach [e] env=[(false,eval e env)]:=by
  cases e with
  |Starred e p=>rw [S.sj] at q;exact Z q
  |_=>rfl
 (refine B ak ?_;refine B uw ?_)
 refine⟨rfl,evalArgs_plain (OP ?_)⟩
 exact wpAny_mono (S.a9 e fs r fs' q ρ s I) (fun v aj p=>h v aj p) fun _ _ f=>f.elim
where OP {t:Sem Value} {Q:List Value->Shared->Prop} {E:Value->Shared->Prop} {s:Shared} (h:wpAny (model aw w) A t (fun v aj=>Q [v] aj) E s):wpAny (model aw w) A (spliced [(false,t)]) Q E s:=
 spliced_cons (wpAny_mono h (fun v aj p=>spliced_nil p) fun _ _ f=>f)
theorem u1 (S:cB w CM K env J A R) {pos:Pos} {f:Value} {e:Expr} {r:aU} {Q:Args->Shared->Prop} {E:Value->Shared->Prop} (q:R.a9 e fs=some (r,fs')) (I:aK w CM K env J ρ s fs)
  (k:∀v aj aN,aK w CM K env J aN aj fs'->a1 ρ s aN aj->cb ρ fs.loc aN fs'.loc->eP w CM ρ aN aj fs' r v->Q ⟨[v],[]⟩ aj):(backTo pos (starEach [e] env)).any (·.1)=false/\wpAny (model aw w) A (evalArgs f true (backTo pos (starEach [e] env)) []) Q E s:=
 QW S q I fun v aj h=>h.elim fun aN h=>k v aj aN h.1 h.2.1 h.2.2.1 h.2.2.2
theorem md {f:Str} {p pos:Pos} {args:List Expr} {v:Value} {Q:Value->Shared->Prop} {E:Value->Shared->Prop} (g:hF K.f f=some v) (ae:J.names.lookup f=some .globalImplicit) (I:aK w CM K env J ρ s fs) (hd:(f==("__debug__":Str))=false)
  (h:wpAny (model aw w) A (callWith pos v [] (backTo pos (starEach args env)) []) Q E s):wpAny (model aw w) A (eval (.Call (.Name f p) args [] pos) env) Q E s:=
 Call_Name rfl (nJ g ae I.c0 I.in hd h)
theorem Nk {f:Str} (h:j0 f=true):(f==("__debug__":Str))=false:=by
 cases q:(f==("__debug__":Str)) with
 |false=>rfl
 |true=>replace h:=(beq_iff_eq.mp q)▸h;exact absurd h (by decide+kernel)
theorem Bv (bl:s9 CM bj F) (bA:K.f=F) {k:Nat} {C:cs} (c4:gL w CM bj F k C) (bc:eh K k A) (S:cB w CM K env J A R) {f:Str} {p pos:Pos} {args:List Expr} {vs:List H} {ai:bE} {de:List H} {fs₁:X}
  (an:j0 f=true) (ae:J.names.lookup f=some .globalImplicit) (bZ:dk R args fs=some (vs,fs₁)) (bn:C f vs fs₁.per=some (ai,de)) (I:aK w CM K env J ρ s fs):
  wpAny (model aw w) A (eval (.Call (.Name f p) args [] pos) env) (sf w CM K env J ρ s fs ai {fs₁ with per:=de}) (rO w CM K env J ρ s fs ai {fs₁ with per:=de}) s:=by
 refine bT (c4 f vs fs₁.per ai de bn K A bA bc) ?_;intro a h
 refine p3 h.rh ?_;intro ao ob bL aB
 refine md (bA▸bl.AC f a h.zr an) ae I (Nk an) (wj S (bA▸aB.keep) bZ I fun be aj aN aZ a0 bw gB=> ?_)
 exact wpAny_mono (aZ.C4 h gB) (fun v az h=>h.trans a0 bw) fun e az h=>h.trans a0 bw
end
end Mine
end
section
open PySem PySem.W PySem.Calls PyProof.Rows
namespace Mine
section
variable(w:World) (CM:cn) (K:Top) (env:Env) (J:Scope)
structure cp (aT:a5) (a7:Shared) (ρ:a5) (s:Shared) (fs:X):Prop where
 dE:aK w CM K env J ρ s fs
 ext:a1 aT a7 ρ s
 gN:∀a x,ρ a=.aD x->aT a=.free
noncomputable def eg (aT:a5) (a7:Shared) (ρ:a5) (s:Shared) (ai:bE) (fs':X) (f:Flow) (az:Shared):Prop:=match ai with
 |.next=>f=.next/\∃ρ',cp w CM K env J aT a7 ρ' az fs'/\a1 ρ s ρ' az
 |.brk=>f=.brk/\∃ρ',cp w CM K env J aT a7 ρ' az fs'/\a1 ρ s ρ' az
 |.ret r=>∃v,f=.ret v/\∃ρ',cp w CM K env J aT a7 ρ' az fs'/\nn w CM aT ρ' az r v
 |.dA=>False
noncomputable def hH (aT:a5) (a7:Shared) (ai:bE) (fs':X) (e:Value) (az:Shared):Prop:=
 ai=.dA/\∃ρ' a,cp w CM K env J aT a7 ρ' az fs'/\e=.ref a/\gl CM aT ρ' az.heap a
structure fL (A:Around) (R:bk):Prop extends cB w CM K env J A R where
 dg:∀ao fs ai fs',R.dg ao fs=some (ai,fs')->∀aT a7 ρ s,cp w CM K env J aT a7 ρ s fs->wpAny (model aw w) A (exec ao env) (eg w CM K env J aT a7 ρ s ai fs') (hH w CM K env J aT a7 ai fs') s
 yN:∀elt gens aX pos y jI o7 fs r fs' s3,swapsWith (.ListComp elt gens aX pos) (some (.Name y jI)) o7.line env=pure true->R.a9 (.ListComp elt gens aX pos) fs=some (r,fs')->eL J y r fs'=some s3->
  ∀aT a7 ρ s,cp w CM K env J aT a7 ρ s fs->wpAny (model aw w) A (exec (.Assign [.Name y jI] (.ListComp elt gens aX pos) o7) env) (eg w CM K env J aT a7 ρ s .next s3) cc s
 xM:∀elt gens aX pos fs r fs',R.a9 (.ListComp elt gens aX pos) fs=some (r,fs')->∃v,r=.own v
 zi:∀e g c p fs,R.a9 (.SetComp e g c p) fs=none
 yx:∀e v g c p fs,R.a9 (.DictComp e v g c p) fs=none
end
section
variable{w:World} {CM:cn} {bj:dM} {F:Frag} {K:Top} {env:Env} {J:Scope} {A:Around} {ρ ρ₀ aT ρ':a5} {s c9 a7 az:Shared} {fs fs':X} {R:bk}
theorem cp.step (a3:cp w CM K env J aT a7 ρ s fs) (I:aK w CM K env J ρ' az fs') (av:a1 ρ s ρ' az) (dv:cb ρ fs.loc ρ' fs'.loc):cp w CM K env J aT a7 ρ' az fs':=
 ⟨I,a3.ext.trans av,fun a x e=>a3.gN a x (dv.gv a x e)⟩
theorem eg.ext {aN:a5} {aj:Shared} {ai:bE} {f:Flow} (av:a1 ρ s aN aj) (h:eg w CM K env J aT a7 aN aj ai fs' f az):eg w CM K env J aT a7 ρ s ai fs' f az:=by
 cases ai with
 |next=>exact⟨h.1,h.2.imp fun _ z=>⟨z.1,av.trans z.2⟩⟩
 |brk=>exact⟨h.1,h.2.imp fun _ z=>⟨z.1,av.trans z.2⟩⟩
 |ret r=>exact h
 |dA=>exact h
theorem eg.Jw {ai:bE} {f:Flow} (h:eg w CM K env J aT a7 ρ s ai fs' f az) (aE:ai≠.next):f≠.next:=fun q=>by
 cases ai with
 |next=>exact aE rfl
 |brk=>exact Flow.noConfusion (h.1.symm.trans q)
 |ret r=>exact h.elim fun v z=>Flow.noConfusion (z.1.symm.trans q)
 |dA=>exact h
theorem od (S:fL w CM K env J A R) (body:List Stmt):∀{fs fs':X} {ai:bE} {ρ:a5} {s:Shared},cO R body fs=some (ai,fs')->cp w CM K env J aT a7 ρ s fs->
  wpAny (model aw w) A (execs body env) (eg w CM K env J aT a7 ρ s ai fs') (hH w CM K env J aT a7 ai fs') s:=by
 induction body with
 |nil=>intro fs fs' ai ρ s q a3;exact b6 q (wpAny_execs_nil ⟨rfl,ρ,a3,a1.refl ..⟩)
 |cons ao body ih=>
  intro fs fs' ai ρ s q a3
  refine b5 q (fun hj fs₁ bv q=> ?_) Z
  have go:=S.dg ao fs hj fs₁ bv aT a7 ρ s a3
  have skip:hj≠.next->some (hj,fs₁)=some (ai,fs')->wpAny (model aw w) A (execs (ao::body) env) (eg w CM K env J aT a7 ρ s ai fs') (hH w CM K env J aT a7 ai fs') s:=fun aE q=>by
   cases q
   refine wpAny_execs_cons (wpAny_mono go (fun f aj h=> ?_) fun e aj h=>h)
   cases f with
   |next=>exact absurd rfl (h.Jw aE)
   |_=>exact h
  cases hj with
  |next=>
   refine wpAny_execs_cons (wpAny_mono go (fun f aj h=> ?_) fun e aj h=>nomatch h.1)
   refine cl h ?_;clear h;intro u h;subst u
   refine bb h ?_;clear h;intro aN aZ a0
   exact wpAny_mono (ih q aZ) (fun f ct h=>h.ext a0) fun _ _ h=>h
  |brk=>exact skip (fun q=>bE.noConfusion q) q
  |ret r=>exact skip (fun q=>bE.noConfusion q) q
  |dA=>exact skip (fun q=>bE.noConfusion q) q
theorem Q5 {kind:Str->Option NameKind} (l:List (Str×Value)):∀{m:Str->Option Value} {x:Str},x∉l.map (·.1)->bindL kind l m x=m x:=by
 induction l with
 |nil=>intro m x _;rfl
 |cons p r ih=>
  intro m x h
  refine(ih (fun q=>h (List.mem_cons_of_mem _ q))).trans ?_
  by_cases ag:kind p.1=some .local
  ·refine B (if_pos ag) ?_;exact if_neg (fun q:x=p.1=>h (by refine B q ?_;exact List.mem_cons_self))
  ·(refine B (if_neg ag) ?_;rfl)
theorem N4 {kind:Str->Option NameKind} (l:List (Str×Value)):∀{m:Str->Option Value} {x:Str},x∉l.map (·.1)->bindC kind l m x=m x:=by
 induction l with
 |nil=>intro m x _;rfl
 |cons p r ih=>
  intro m x h
  refine(ih (fun q=>h (List.mem_cons_of_mem _ q))).trans ?_
  by_cases ag:kind p.1=some .local
  ·(refine B (if_pos ag) ?_;rfl)
  ·refine B (if_neg ag) ?_;exact if_neg (fun q:x=p.1=>h (by refine B q ?_;exact List.mem_cons_self))
theorem MU {kind:Str->Option NameKind} (l:List (Str×Value)):∀{m:Str->Option Value} {x:Str} {v:Value},(l.map (·.1)).Nodup->(x,v)∈l->kind x=some .local->bindL kind l m x=some v:=by
 induction l with
 |nil=>intro m x v _ aY;exact(List.not_mem_nil aY).elim
 |cons p r ih=>
  intro m x v aE aY ag
  refine cl (List.nodup_cons.mp aE) ?_;intro M O
  rcases List.mem_cons.mp aY with e|e
  ·rw [<-e] at M|-
   exact(Q5 r M).trans (by rw [if_pos ag,if_pos rfl])
  ·exact ih O e ag
theorem Ib {kind:Str->Option NameKind} (l:List (Str×Value)):∀{m:Str->Option Value} {x:Str} {v:Value},(l.map (·.1)).Nodup->(x,v)∈l->kind x≠some .local->bindC kind l m x=some v:=by
 induction l with
 |nil=>intro m x v _ aY;exact(List.not_mem_nil aY).elim
 |cons p r ih=>
  intro m x v aE aY ag
  refine cl (List.nodup_cons.mp aE) ?_;intro M O
  rcases List.mem_cons.mp aY with e|e
  ·rw [<-e] at M|-
   exact(N4 r M).trans (by rw [if_neg ag,if_pos rfl])
  ·exact ih O e ag
theorem Ag (ps:List Str):∀{args:List H} {loc:List (Str×cf)},jo ps args=some loc->ps.length=args.length:=by
 induction ps with
 |nil=>
  intro args loc q
  cases args with
  |nil=>rfl
  |cons _ _=>exact Z q
 |cons x r ih=>
  intro args loc q
  cases args with
  |nil=>exact Z q
  |cons v t=>exact bG q (fun l h _=>congrArg (· +1) (ih h)) Z
theorem GA (ps:List Str):∀{args:List H} {be:List Value} {loc:List (Str×cf)} {x:Str} {bh:cf},jo ps args=some loc->a8 w CM ρ args be->getL x loc=some bh->
  ∃y v,bh=.U y/\(x,v)∈ps.zip be/\bY w CM ρ y v:=by
 induction ps with
 |nil=>
  intro args be loc x bh q ay g
  cases args with
  |nil=>cases q;exact Z g
  |cons _ _=>exact Z q
 |cons p r ih=>
  intro args be loc x bh q ay g
  cases args with
  |nil=>exact Z q
  |cons a t=>
   refine bG q (fun l aC bR=> ?_) Z
   cases bR
   refine dP ay ?_;intro v vs u O Y;subst u
   by_cases e:x=p
   ·rw [e] at g|-
    exact⟨a,v,(Option.some.inj ((if_pos rfl).symm.trans g)).symm,List.mem_cons_self,O⟩
   ·exact(ih aC Y ((if_neg e).symm.trans g)).imp fun y z=>z.imp fun u z=>⟨z.1,List.mem_cons_of_mem _ z.2.1,z.2.2⟩
open Classical in
noncomputable def h7 (ρ:a5) (h':Heap) (L:Addr) (fM:List (Str×Addr)):a5:=fun a=>
 if a=L then .frame else if∃n,fM.lookup n=some a then .cell else bQ ρ h' a
theorem GR {P:cT->Prop} {h':Heap} {L b:Addr} {fM:List (Str×Addr)} (M:b=L->P .frame) (O:∀n,fM.lookup n=some b->P .cell) (Y:P (bQ ρ h' b)):P (h7 ρ h' L fM b):=by
 unfold h7
 by_cases e:b=L
 ·refine B (if_pos e) ?_;exact M e
 ·refine B (if_neg e) ?_
  by_cases c:∃n,fM.lookup n=some b
  ·refine B (if_pos c) ?_;exact c.elim O
  ·refine B (if_neg c) ?_;exact Y
theorem rj (ps:List Str):∀{be:List Value},ps.length=be.length->(ps.zip be).map (·.1)=ps:=by
 induction ps with
 |nil=>intro be _;rfl
 |cons p r ih=>
  intro be h
  cases be with
  |nil=>exact(nomatch h)
  |cons v t=>exact congrArg (p:: ·) (ih (Nat.succ.inj h))
theorem cK.frames {per:List H} {K':Top} (ap:cK w CM K ρ s per) (aB:K'.f=K.f) (bx:K'.eH=K.eH) (hs:∀L∈K'.frames,e0 (ρ L)/\∃o,s.heap.get? L=some o/\Cx o):cK w CM K' ρ s per:=
 ⟨fun a x e=>ap.fW a x (aB▸e),fun a x e=>ap.ft a x (bx▸e),hs,ap.bK,ap.c2,ap.gx,ap.fU,ap.inj⟩
theorem mQ {ao:Stmt} {a:Addr} {ob:Obj} {bL:FuncData} {be:List Value} {aj:Shared} (bU:ka F ao a ob bL) (fz:(params ao).length=be.length) {L:Addr} (dO:env=callEnvC bL L a)
  (x:InCallC s env.locals (bindL env.kindOf ((params ao).zip be) fun _=>none) env.cells (bindC env.kindOf ((params ao).zip be) fun _=>none) aj) {y:Str} {v:Value} (O:(y,v)∈(params ao).zip be):
  e4 env (bO ao) aj.heap y v:=by
 have vw:env.scope=bO ao:=by refine B dO ?_;exact bU.scope
 have yV:env.cells=cellsFrom (L+1) (bO ao).names []:=by(refine B dO ?_;refine bu bU.scope ?_);rfl
 have k9:∀y,env.kindOf y=(bO ao).names.lookup y:=fun y=>by unfold Env.kindOf;(refine B vw ?_;rfl)
 have nE:=rj _ fz
 have aQ:y∈params ao:=by refine bu nE ?_;exact List.mem_map.mpr ⟨_,O,rfl⟩
 have iF:(((params ao).zip be).map (·.1)).Nodup:=by refine B nE ?_;exact bU.J.ex
 rcases bU.J.par y aQ with q|q
 ·exact .inl ⟨q,by refine B (k9 _) ?_;exact q,_,x.toInCall.ns,MU _ iF O (by refine B (k9 _) ?_;exact q)⟩
 ·refine bT (Option.isSome_iff_exists.mp (bU.J.fb (L+1) y q)) ?_;intro c fR
  replace fR:=(Eq.symm yV)▸fR
  refine .inr ⟨.inl q,by refine B (k9 _) ?_;exact q,c,fR,?_⟩
  have:=x.cell y c fR
  rw [Ib _ iF O (by rw [k9,q];exact fun z=>NameKind.noConfusion (Option.some.inj z))] at this
  exact this
theorem ut {ao:Stmt} {a:Addr} {ob:Obj} {bL:FuncData} {per:List H} {be:List Value} {loc:List (Str×cf)} {aj:Shared} (bU:ka F ao a ob bL) (fz:(params ao).length=be.length)
  (NO:∀x bh,getL x loc=some bh->∃y v,bh=.U y/\(x,v)∈(params ao).zip be/\bY w CM ρ y v)
  (ap:cK w CM K ρ s per) (hc:iJ ρ) {L:Addr} (dO:env=callEnvC bL L a)
  (x:InCallC s env.locals (bindL env.kindOf ((params ao).zip be) fun _=>none) env.cells (bindC env.kindOf ((params ao).zip be) fun _=>none) aj):
  cp w CM {K with frames:=env.locals::K.frames} env (bO ao) ρ s (h7 ρ aj.heap env.locals env.cells) aj ⟨loc,per⟩:=by
 have vw:env.scope=bO ao:=by refine B dO ?_;exact bU.scope
 have yV:env.cells=cellsFrom (L+1) (bO ao).names []:=by(refine B dO ?_;refine bu bU.scope ?_);rfl
 have k9:∀y,env.kindOf y=(bO ao).names.lookup y:=fun y=>by unfold Env.kindOf;(refine B vw ?_;rfl)
 have th:=bU.J
 have mK:=x.toInCall.keep
 have ey:=x.toInCall.ns
 refine jf x.toInCall.same ?_;intro bv tk rx
 subst rx
 have hV:∀b,s.heap.objs.size<=b->ρ b=.free:=fun b h=>(ap.c2 b).mpr (by
  cases e:s.heap.get? b with
  |none=>rfl
  |some o=>exact absurd (Heap.lt_size e) (Nat.not_lt.mpr h))
 have Hc:ρ env.locals=.free:=hV _ x.toInCall.fresh
 have vE:∀n b,env.cells.lookup n=some b->ρ b=.free/\b≠env.locals:=fun n b h=>by
  have O:=x.above n b (mem_of_lookup h)
  exact⟨hV _ (Nat.le_of_lt (Nat.lt_of_le_of_lt x.toInCall.fresh O)),Nat.ne_of_gt O⟩
 have BU:h7 ρ bv env.locals env.cells env.locals=.frame:=if_pos rfl
 have tu:∀n b,env.cells.lookup n=some b->h7 ρ bv env.locals env.cells b=.cell:=fun n b h=>by
  unfold h7;(refine B (if_neg (vE n b h).2) ?_;refine B (if_pos ⟨n,h⟩) ?_;rfl)
 have jP:∀b,ρ b≠.free->h7 ρ bv env.locals env.cells b=ρ b:=fun b h=>by
  unfold h7
  (refine B (if_neg (fun q=>h (by rw [q];exact Hc))) ?_;refine B (if_neg (fun⟨n,q⟩=>h (vE n b q).1)) ?_;refine B (lY h) ?_;rfl)
 have GV:∀b ob,ρ b=.bf ob->h7 ρ bv env.locals env.cells b=.bf ob:=fun b ob h=>by refine B (jP b (by rw [h];exact fun z=>cT.noConfusion z)) ?_;exact h
 have Ch:∀b k,ρ b=.per k->h7 ρ bv env.locals env.cells b=.per k:=fun b ob h=>by refine B (jP b (by rw [h];exact fun z=>cT.noConfusion z)) ?_;exact h
 have zb:∀b y,h7 ρ bv env.locals env.cells b≠.aD y:=fun b y h=>by
  exact GR (P:=fun r=>r=.aD y->False) (fun _ z=>cT.noConfusion z) (fun n _ z=>cT.noConfusion z) (fun z=>(hc b).1 y (f8.mp z)) h
 refine dz (id ey) ?_;intro tC Ms Q1 sV y4 _
 have Hl:cK w CM K (bQ ρ bv) {s with heap:=bv,toks:=tk} per:=ap.dD mK
 have NV:bQ ρ bv env.locals=.aV:=gR Hc sV
 have AA:cK w CM K (h7 ρ bv env.locals env.cells) {s with heap:=bv,toks:=tk} per:=Hl.qL fun b=>by
  refine GR (P:=fun r=>r=bQ ρ bv b\/(me (bQ ρ bv b)/\me r/\(e0 (bQ ρ bv b)->e0 r))) (fun e=> ?_) (fun n e=> ?_) (.inl rfl)
  ·(refine B e ?_;refine B NV ?_);exact .inr ⟨trivial,trivial,fun h=>h.elim⟩
  ·refine bb (x.cell n b e) ?_;intro o cr _
   refine B (gR (vE n b e).1 cr) ?_;exact .inr ⟨trivial,trivial,fun h=>h.elim⟩
 refine⟨⟨AA.frames rfl rfl fun b ah=> ?_,⟨?_,?_,?_,fun y h=> ?_,fun y h=> ?_,fun y h=> ?_,fun y h=> ?_⟩,BU,⟨_,ey⟩,fun y bh h=> ?_,fun y h=> ?_,fun y c M O=>absurd M (th.c2 y),fun y z c M O=> ?_,fun b y h=>absurd h (zb b y),fun b c y h _=>absurd h (zb b y)⟩,
  ⟨GV,fun b h=> ?_,Ch,fun b h=> ?_,fun b h=> ?_,fun b h=> ?_,fun b y h=>absurd h ((hc b).1 y),fun b ob h e=>mK b ob e,fun b ob h e=>⟨_,mK b ob e⟩,⟨_,_,rfl⟩⟩,fun b y h=>absurd h (zb b y)⟩
 ·rcases List.mem_cons.mp ah with e|e
  ·subst e
   exact⟨by refine B BU ?_;trivial,tC,sV,fun vs q=>by replace q:=y4▸q;cases q⟩
  ·exact AA.fi b e
 ·refine B vw ?_;exact th.kind
 ·refine B dO ?_;exact bU.tB
 ·refine B dO ?_;exact bU.l6
 ·refine B (k9 _) ?_;exact h
 ·refine B (k9 _) ?_;exact h
 ·exact absurd h (th.c2 y)
 ·refine B (k9 _) ?_;exact h
 ·refine dP (NO _ _ h) ?_;intro z v u;subst u;intro O Y
  exact⟨v,mQ bU fz dO x O,bY.bt GV Ch Y⟩
 ·refine bT (Option.isSome_iff_exists.mp (th.fb (L+1) y h)) ?_;intro c fR
  replace fR:=(Eq.symm yV)▸fR
  exact⟨c,_,fR,tu y c fR,(vE y c fR).2,x.cell y c fR⟩
 ·exact name_of_addr x.apart (mem_of_lookup M) (mem_of_lookup O)
 ·refine B (jP b (by rw [h];exact fun z=>cT.noConfusion z)) ?_;exact h
 ·exact absurd h (hc b).2.1
 ·exact absurd h (hc b).2.2
 ·refine B (jP b (by rw [h];exact fun z=>cT.noConfusion z)) ?_;exact h
theorem cp.uF {K':Top} (i7:K'.f=K.f) (bx:K'.eH=K.eH) (hs:∀L∈K.frames,L∈K'.frames) (a3:cp w CM K' env J ρ s ρ' az fs) (hc:iJ ρ):
  cK w CM K (bo ρ') az fs.per/\a1 ρ s (bo ρ') az/\iJ (bo ρ'):=by
 obtain⟨I,av,gN⟩:=a3
 refine⟨I.base.bo.frames i7.symm bx.symm fun L h=>I.base.bo.fi L (hs L h),⟨fun a ob e=>lT.mpr (av.bK a ob e),fun a e=> ?_,fun a k e=>o2.mpr (av.per a k e),fun a e=>absurd e (hc a).2.1,fun a e=>absurd e (hc a).2.2,fun a e=> ?_,fun a x e=>absurd e ((hc a).1 x),av.keep,av.hW,av.ao⟩,ig _⟩
 ·exact congrArg e2 (av.aV a e)
 ·exact congrArg e2 (av.stk a e)
theorem nn.bo {r:aU} {v:Value} (q:nn w CM ρ ρ' s r v):nn w CM ρ (Mine.bo ρ') s r v:=by
 cases r with
 |U x=>exact bY.bo q
 |own x=>
  refine gn q ?_;clear q;intro a M O Y aC
  exact⟨a,M,O,congrArg e2 Y,aC.bt (fun _ _ e=>lT.mpr e) (fun _ _ e=>o2.mpr e) fun _ e=>e⟩
 |var x=>exact q.elim
theorem gl.bo {h:Heap} {a:Addr} (q:gl CM ρ ρ' h a):gl CM ρ (Mine.bo ρ') h a:=q.imp fun T z=>⟨z.1,congrArg e2 z.2⟩
noncomputable def Bb (w:World) (CM:cn):Prop:=∀(K:Top) (env:Env) (J:Scope) (A:Around) (aT ρ:a5) (a7 s:Shared) (fs:X) (a:Addr) (l:List Env),(∀x,J.names.lookup x≠some .free)->cp w CM K env J aT a7 ρ s fs->gl CM aT ρ s.heap a->A.frames=some (env::l)->zp K A->
 ∀E,wpAny (model aw w) A (leaving env (.ref a)) (fun _ az=>∃ρ',cp w CM K env J aT a7 ρ' az fs/\gl CM aT ρ' az.heap a) E s
theorem PL (zD:Bb w CM) (bl:pP CM bj F) (bA:K.f=F) {k:Nat} (bc:eh K (k+2) A) {b:Bool} {ao:Stmt} {a:Addr} {ob:Obj} {bL:FuncData} {args per:List H} {be:List Value} {C CQ:cs} {ai:bE} {de:List H} (bU:ka F ao a ob bL) (ro:bL.defaults=.none)
  (q:jm b C CQ ao args per=some (ai,de)) (ap:cK w CM K ρ s per) (hc:iJ ρ) (ay:a8 w CM ρ args be)
  (c4:∀L env,env=callEnvC bL L a->fL w CM {K with frames:=env.locals::K.frames} env (bO ao) (A.deeper env) (aJ b C CQ lA (bO ao))):
  wpAny (model aw w) A (call (.ref a) be) (GW w CM K ρ s ai de) (Dm w CM K ρ s ai de) s:=by
 refine bG q (fun loc ah q=>b5 q (fun pZ fs' aP q=> ?_) Z) Z
 have fz:be.length=(params ao).length:=by(refine B (Ag _ ah) ?_;refine B ay.length ?_;rfl)
 have e3:F.In s.heap:=fun b x e=>ap.bK b x (ap.fW b x (bA▸e))
 have hi:=rj _ fz.symm
 refine wpAny_call (codeAny_call_cells (Nat.lt_of_le_of_lt (by exact I0) bc.depth) (e3 _ _ bU.gy) bU.data (bl.sb _ e3) (codeRec_of e3 bU.code) bU.body (bU.bind be fz ro) bU.uu (fun y aQ=> ?_) (fun aj x=> ?_) (by refine B bU.scope ?_;exact bU.J.tz) (by refine B bU.scope ?_;exact bU.J.gen) (by refine B bU.scope ?_;exact bU.J.kind))
 ·have:y.1∈params ao:=by refine bu hi ?_;exact List.mem_map.mpr ⟨_,aQ,rfl⟩
  refine B bU.scope ?_
  rcases bU.J.par _ this with q|q
  ·exact .inl q
  ·exact .inr ⟨q,bU.J.fb _ _ q⟩
 ·have a3:=ut bU fz.symm (fun y bh g=>GA _ ah ay g) ap hc rfl x
  have S:=c4 s.heap.objs.size _ rfl
  have gX:∀{ρ':a5} {az:Shared},cp w CM {K with frames:=(callEnvC bL s.heap.objs.size a).locals::K.frames} (callEnvC bL s.heap.objs.size a) (bO ao) ρ s ρ' az fs'->
    cK w CM K (Mine.bo ρ') az fs'.per/\a1 ρ s (Mine.bo ρ') az/\iJ (Mine.bo ρ'):=fun og=>
   cp.uF (K:=K) (K':={K with frames:=(callEnvC bL s.heap.objs.size a).locals::K.frames}) rfl rfl (fun L h=>List.mem_cons_of_mem _ h) og hc
  refine wpAny_mono (od S _ aP a3) (fun f az h=> ?_) fun e az h=> ?_
  ·cases pZ with
   |next=>
    refine b6 (show some (.ret (.U .none),fs'.per)=some (ai,de) from q) ?_
    refine cl h ?_;clear h;intro u h;subst u
    exact h.elim fun ρ' z=>⟨_,(gX z.1).1,(gX z.1).2.1,(gX z.1).2.2,rfl⟩
   |brk=>exact Z q
   |ret r=>
    refine b6 (show some (.ret r,fs'.per)=some (ai,de) from q) ?_
    refine bb h ?_;clear h;intro v u h;subst u
    exact h.elim fun ρ' z=>⟨_,(gX z.1).1,(gX z.1).2.1,(gX z.1).2.2,z.2.bo⟩
   |dA=>exact h.elim
  ·refine cl h ?_;clear h;intro u h;subst u
   refine b6 (show some (.dA,fs'.per)=some (ai,de) from q) ?_
   refine dP h ?_;clear h;intro ρ' b og u ae;subst u
   refine bb bc.frames ?_;intro l lL hN
   refine wpAny_mono (zD _ _ _ _ _ _ _ _ _ _ l (fun y=>bU.J.c2 y) og ae (Around.frames_deeper lL) ⟨_,Around.frames_deeper lL,fun cg aW=> ?_⟩ (fun _ _=>False)) (fun _ uJ h=> ?_) fun _ _ h=>h.elim
   ·rcases List.mem_cons.mp aW with e|e
    ·subst e
     refine⟨?_,_,rfl,List.mem_cons_self⟩
     show bL.scope.kind≠.module
     (refine B bU.scope ?_;refine B bU.J.kind ?_);nofun
    ·exact⟨(hN cg e).1,(hN cg e).2.imp fun L z=>⟨z.1,List.mem_cons_of_mem _ z.2⟩⟩
   ·refine bb h ?_;clear h;intro Yq Mr qO
    refine ef (gX Mr) ?_;intro cP dG lD
    exact⟨rfl,_,b,cP,dG,lD,rfl,qO.bo⟩
end
end Mine
end
section
open PySem PySem.W PySem.Calls PyProof.Rows
namespace Mine
theorem Gr:entryFor table "proto.unchain"=some Builtin.«proto.unchain»:=entryFor_of_tree (by kernel_rfl)
theorem ES:plainId "proto.unchain"=true:=by decide+kernel
noncomputable def dw (A:Around) (h:Heap):Prop:=match A.handled with
 |none=>True
 |some (.ref e)=>∃ob,h.get? e=some ob/\ru ob
 |_=>False
noncomputable def dS (A:Around):List Addr:=match A.handled with
 |some (.ref e)=>[e]
 |_=>[]
theorem dw.fa {A:Around} {h:Heap} {G:Prop} (x:dw A h) (k0:A.handled=none->G) (k:∀e ob,A.handled=some (.ref e)->h.get? e=some ob->ru ob->G):G:=by
 unfold dw at x
 generalize A.handled=t at x k0 k
 cases t with
 |none=>exact k0 rfl
 |some v=>cases v with
  |ref e=>exact k e _ rfl x.choose_spec.1 x.choose_spec.2
  |_=>exact x.elim
theorem dw.keeps {A:Around} {h h':Heap} (x:dw A h) (ag:∀b∈dS A,∀o,h.get? b=some o->h'.get? b=some o):dw A h':=by
 refine x.fa (fun e=> ?_) (fun e ob aW M O=> ?_)
 ·unfold dw;refine B e ?_;trivial
 ·unfold dS at ag
  replace ag:=aW▸ag
  unfold dw;refine B aW ?_
  exact⟨ob,ag e (List.mem_singleton.mpr rfl) ob M,O⟩
section
variable{w:World} {A:Around} {E:Value->Shared->Prop} {s:Shared}
theorem qn {α:Type} {Q:α->Shared->Prop} (bx:dw A s.heap)
  (cV:∀h' e,(∀b o,s.heap.get? b=some o->h'.get? b=some o)->(∃ob,h'.get? e=some ob/\ob.cls=.type "StopIteration")->E (.ref e) {s with heap:=h'}):
  wpAny (model aw w) A (newExc (.type "StopIteration") []>>=fun e=>raiseNew e) Q E s:=by
 refine wpAny_bind ?_
 delta newExc newTuple
 refine wpAny_bind (wpAny_newObj_type ?_ (by size_fits))
 refine wpAny_bind (m:=firstArgMember _ _) (wpAny_of_eq (a:=Value.none) (by first|rfl|(simp only [firstArgMember];rfl)) ?_)
 refine wpAny_newObj_type ?_ (by first|exact Nat.le_of_ble_eq_true rfl|exact of_decide_eq_true rfl)
 delta raiseNew
 refine wpAny_bind (wpAny_handled ?_)
 refine bx.fa (fun e=> ?_) (fun e ob aW M O=> ?_)<;>clear bx
 ·refine B e ?_
  exact wpAny_bind (wpAny_pure (wpAny_throw (cV _ _ (fun b o q=>Heap.get?_push_of_some _ (Heap.get?_push_of_some _ q)) ⟨_,Heap.get?_push_size _ rfl,rfl⟩)))
 ·refine B aW ?_
  obtain⟨aB,vs,O,Y,aC⟩:=O
  have cy:=Heap.lt_size M
  have bH:∀(qd hu:Obj),((s.heap.push qd).push hu).get? e=some ob:=fun qd hu=>Heap.get?_push_of_some _ (Heap.get?_push_of_some _ M)
  have b1:e≠(s.heap.push {cls:=.type "tuple",dict:=none,data:=.seq ([]:List Value).toArray}).objs.size:=by refine B (Heap.size_push _ _) ?_;exact Nat.ne_of_lt (Nat.lt_succ_of_lt cy)
  dsimp only
  refine B (if_pos (show(Value.ref e !=Value.ref _)=true from by simpa using b1)) ?_
  refine wpAny_bind (wpAny_holding (wpAny_runValue (codeAny_builtin Gr ?_)))
  refine B (Around.under_plainId ES _) ?_
  unfold Builtin.«proto.unchain»
  refine wpAny_bind (wpAny_field (bH _ _) O aC ?_)
  refine B (if_pos (by decide)) ?_
  refine wpAny_pure ?_
  unfold updateField
  refine wpAny_bind (wpAny_bind (wpAny_load (Heap.get?_push_size _ rfl) ?_))
  dsimp only
  refine B (if_pos (show 2<Array.size _ from Nat.lt_of_lt_of_le (show 2<6 by decide) (by rw [Array.size_append];exact Nat.le_add_right ..))) ?_
  refine wpAny_update (Heap.get?_push_size _ rfl) (wpAny_throw (cV _ _ (fun b o q=> ?_) ⟨_,Heap.get?_update_self _ (Heap.get?_push_size _ rfl) (Obj.isFreed_of_fields (Obj.data_mapFields rfl _)),Obj.cls_mapFields ..⟩))
  have ah:=Heap.lt_size q
  exact(Heap.get?_update_other _ _ (by refine B (Heap.size_push _ _) ?_;exact Nat.ne_of_gt (Nat.lt_succ_of_lt ah))).trans (Heap.get?_push_of_some _ (Heap.get?_push_of_some _ q))
theorem Sp {dj l:Addr} {i:Nat} {items} {Q:Option Value->Shared->Prop} (bx:dw A s.heap) (ep:s.heap.IsListIter dj l i) (aq:s.heap.IsList l items) (ae:items[i]? =none) (aE:dj∉dS A)
  (cV:∀h',Heap.ExtBut dj s.heap h'->Q none {s with heap:=h'}):wpAny (model aw w) A (pyNext (.ref dj)) Q E s:=by
 refine et (id ep) ?_;intro o cr hc hd
 obtain⟨R4,wT,_,SW,yW⟩:=aq
 unfold pyNext
 refine wpAny_bind (wpAny_attempt (wpAny_callSpecial?_slot (name:=Str.ofString "__next__") ep.typeIs slot_listiter_next
  (wpAny_call_entry slot_listiter_next ep.typeIs entry_listiter_next ?_ (args_listiter_next _))))
 show wpAny _ _ (field (.ref dj) 0>>=_) _ _ s
 refine wpAny_bind (wpAny_field cr hd (x:=.ref l) rfl ?_)
 show wpAny _ _ (if(Value.ref l==Value.none)=true then _ else _) _ _ s
 refine B (if_neg (show¬((Value.ref l==Value.none)=true) from Bool.false_ne_true)) ?_
 show wpAny _ _ (field (.ref dj) 1>>=_) _ _ s
 refine wpAny_bind (wpAny_field cr hd (x:=.int i 0) rfl ?_)
 show wpAny _ _ (seqItems? (.ref l)>>=_) _ _ s
 refine wpAny_bind (wpAny_seqItems wT yW ?_)
 simp only [Int.toNat_natCast,ae]
 refine wpAny_bind (wpAny_rule (wpAny_bind (wpAny_setField cr hd (by simp) ?_)))
 have ag:=(Heap.SameBut.update s.heap dj (Obj.mapFields (·.setIfInBounds 0 .none)))
 refine qn (dw.keeps bx fun b ah o q=>(ag.2 b (fun e=>aE (e▸ah))).trans q) fun h' e eB aW=> ?_
 refine bb aW ?_;clear aW;intro ob je il
 refine wpAny_bind (wpAny_isInstance (T:="StopIteration") (b:=true) ⟨ob,je,il⟩ isSubtype_stop ?_)
 exact wpAny_pure (cV _ fun b o ah q=>eB b o ((ag.2 b ah).trans q))
theorem KN {dj t:Addr} {i:Nat} {items} {Q:Option Value->Shared->Prop} (bx:dw A s.heap) (ep:s.heap.IsTupleIter dj t i) (aG:s.heap.IsTuple t items) (ae:items[i]? =none) (aE:dj∉dS A)
  (cV:∀h',Heap.ExtBut dj s.heap h'->Q none {s with heap:=h'}):wpAny (model aw w) A (pyNext (.ref dj)) Q E s:=by
 refine et (id ep) ?_;intro o cr hc hd
 obtain⟨R4,wT,_,SW,yW⟩:=aG
 unfold pyNext
 refine wpAny_bind (wpAny_attempt (wpAny_callSpecial?_slot (name:=Str.ofString "__next__") ep.typeIs F.slot_tuple_iterator_next
  (wpAny_call_entry F.slot_tuple_iterator_next ep.typeIs F.entry_tuple_iterator_next ?_ (F.args_tuple_iterator_next_1 _))))
 show wpAny _ _ (field (.ref dj) 0>>=_) _ _ s
 refine wpAny_bind (wpAny_field cr hd (x:=.ref t) rfl ?_)
 show wpAny _ _ (if(Value.ref t==Value.none)=true then _ else _) _ _ s
 refine B (if_neg (show¬((Value.ref t==Value.none)=true) from Bool.false_ne_true)) ?_
 show wpAny _ _ (field (.ref dj) 1>>=_) _ _ s
 refine wpAny_bind (wpAny_field cr hd (x:=.int i 0) rfl ?_)
 show wpAny _ _ (seqItems? (.ref t)>>=_) _ _ s
 refine wpAny_bind (wpAny_seqItems wT yW ?_)
 simp only [Int.toNat_natCast,ae]
 refine wpAny_bind (wpAny_rule (wpAny_bind (wpAny_setField cr hd (by simp) ?_)))
 have ag:=(Heap.SameBut.update s.heap dj (Obj.mapFields (·.setIfInBounds 0 .none)))
 refine qn (dw.keeps bx fun b ah o q=>(ag.2 b (fun e=>aE (e▸ah))).trans q) fun h' e eB aW=> ?_
 refine bb aW ?_;clear aW;intro ob je il
 refine wpAny_bind (wpAny_isInstance (T:="StopIteration") (b:=true) ⟨ob,je,il⟩ isSubtype_stop ?_)
 exact wpAny_pure (cV _ fun b o ah q=>eB b o ((ag.2 b ah).trans q))
theorem SF {dj:Addr} {x left step:Int} {Q:Option Value->Shared->Prop} (bx:dw A s.heap) (ep:IsRangeIter s.heap dj x left step) (RJ:left<=0)
  (cV:∀h',Heap.ExtBut dj s.heap h'->Q none {s with heap:=h'}):wpAny (model aw w) A (pyNext (.ref dj)) Q E s:=by
 have gQ:s.TypeIs (.ref dj) "range_iterator":=⟨_,ep,rfl⟩
 unfold pyNext
 refine wpAny_bind (wpAny_attempt (wpAny_callSpecial?_slot (name:=Str.ofString "__next__") gQ F.slot_range_iterator_next
  (wpAny_call_entry F.slot_range_iterator_next gQ F.entry_range_iterator_next ?_ (F.args_range_iterator_next_1 _))))
 show wpAny _ _ (field (.ref dj) 0>>=_) _ _ s
 refine wpAny_bind (wpAny_field ep rfl (x:=rawInt x) rfl ?_)
 show wpAny _ _ (field (.ref dj) 1>>=_) _ _ s
 refine wpAny_bind (wpAny_field ep rfl (x:=rawInt left) rfl ?_)
 show wpAny _ _ (field (.ref dj) 2>>=_) _ _ s
 refine wpAny_bind (wpAny_field ep rfl (x:=rawInt step) rfl ?_)
 show wpAny _ _ (if left<=0 then _ else _) _ _ s
 refine B (if_pos RJ) ?_
 refine wpAny_bind (wpAny_rule ?_)
 refine wpAny_bind ?_
 refine qn bx fun h' e eB aW=> ?_
 refine bb aW ?_;clear aW;intro ob je il
 refine wpAny_bind (wpAny_isInstance (T:="StopIteration") (b:=true) ⟨ob,je,il⟩ isSubtype_stop ?_)
 exact wpAny_pure (cV _ fun b o ah q=>eB b o q)
theorem L3 {dj l:Addr} {Q:Option Value->Shared->Prop} (bx:dw A s.heap) (ep:s.heap.IsRevIter dj l (-1))
  (cV:∀h',Heap.ExtBut dj s.heap h'->Q none {s with heap:=h'}):wpAny (model aw w) A (pyNext (.ref dj)) Q E s:=by
 refine et (id ep) ?_;intro o cr hc hd
 unfold pyNext
 refine wpAny_bind (wpAny_attempt (wpAny_callSpecial?_slot (name:=Str.ofString "__next__") ep.typeIs F.slot_lri_next
  (wpAny_call_entry F.slot_lri_next ep.typeIs F.entry_lri_next ?_ (F.args_lri_next_1 _))))
 unfold Builtin.«list_reverseiterator.__next__»
 refine wpAny_bind (wpAny_of_eq (a:=(Value.ref dj,[])) rfl ?_)
 try dsimp only
 refine wpAny_bind (wpAny_field cr hd (x:=rawInt (-1)) rfl ?_)
 show wpAny _ _ (if(-1:Int)<0 then _ else _) _ _ s
 refine B (if_pos (by decide)) ?_
 refine wpAny_bind (wpAny_rule ?_)
 first
 |refine qn bx fun h' e eB aW=> ?_
 |(refine wpAny_bind ?_;refine qn bx fun h' e eB aW=> ?_)
 refine bb aW ?_;clear aW;intro ob je il
 refine wpAny_bind (wpAny_isInstance (T:="StopIteration") (b:=true) ⟨ob,je,il⟩ isSubtype_stop ?_)
 exact wpAny_pure (cV _ fun b o ah q=>eB b o q)
theorem Sm {dj d:Addr} {i cq:Nat} {K:Type} [DecidableEq K] {knd:KeyKind aw w K} {aS:List (K×Value)} {Q:Option Value->Shared->Prop} (bx:dw A s.heap) (ep:s.heap.IsKeyIter dj d i aS.length cq)
  (aY:s.heap.DictAt knd d aS cq) (ae:aS[i]? =none) (S6:dj∉dS A)
  (cV:∀h',Heap.ExtBut dj s.heap h'->Q none {s with heap:=h'}):wpAny (model aw w) A (pyNext (.ref dj)) Q E s:=by
 refine et (id ep) ?_;intro o cr hc hd
 refine uc (id aY) ?_;intro gV es CJ sM km ag an aE
 unfold pyNext
 refine wpAny_bind (wpAny_attempt (wpAny_callSpecial?_slot (name:=Str.ofString "__next__") ep.typeIs F.slot_dict_keyiterator_next
  (wpAny_call_entry F.slot_dict_keyiterator_next ep.typeIs F.entry_dict_keyiterator_next ?_ (F.args_dict_keyiterator_next_1 _))))
 refine wpAny_bind (wpAny_pure ?_)
 refine wpAny_bind ?_
 refine wpAny_bind ?_
 first|refine wpAny_bind (wpAny_typeNameOfWhole_keyiter ep.typeIs (wpAny_pure ?_))|refine wpAny_bind (wpAny_typeNameOf_keyiter ep.typeIs (wpAny_pure ?_))
 refine wpAny_bind (wpAny_fieldsOf cr hd ?_)
 have YD:Builtin.Dict_items.ownsTuple "dict_keyiterator"=false:=by decide
 show wpAny _ _ (if(Value.ref d==Value.none)=true then _ else _) _ _ s
 refine B (if_neg (show¬((Value.ref d==Value.none)=true) from Bool.false_ne_true)) ?_
 refine wpAny_bind (wpAny_pure ?_)
 refine wpAny_bind (wpAny_dictEntries CJ km ?_)
 have dq:es.size=aS.length:=by refine bu an.length ?_;simp
 refine B (if_neg (by rw [dq];simp)) ?_
 refine wpAny_bind (wpAny_pure ?_)
 refine wpAny_bind (wpAny_dictEpoch CJ km ?_)
 refine B (if_neg (by simp)) ?_
 refine wpAny_pure ?_
 have rL:es.size<=i:=by refine B dq ?_;simpa using ae
 simp only [show¬((i:Int)<0) from by exact Ab,if_false,Int.toNat_natCast,Array.getElem?_eq_none rL]
 refine wpAny_bind ?_
 first|refine wpAny_bind (wpAny_typeNameOfWhole_keyiter ep.typeIs (wpAny_pure ?_))|refine wpAny_bind (wpAny_typeNameOf_keyiter ep.typeIs (wpAny_pure ?_))
 show wpAny _ _ (setField (.ref dj) 0 .none>>=_) _ _ s
 refine wpAny_bind (wpAny_setField cr hd (by simp) ?_)
 have ag:=(Heap.SameBut.update s.heap dj (Obj.mapFields (·.setIfInBounds 0 .none)))
 refine qn (dw.keeps bx fun b ah o q=>(ag.2 b (fun e=>S6 (e▸ah))).trans q) fun h' e eB aW=> ?_
 refine bb aW ?_;clear aW;intro ob je il
 refine wpAny_bind (wpAny_isInstance (T:="StopIteration") (b:=true) ⟨ob,je,il⟩ isSubtype_stop ?_)
 exact wpAny_pure (cV _ fun b o ah q=>eB b o ((ag.2 b ah).trans q))
theorem yB (I ax:Addr) (b1:ax≠I) (fB:I∉dS A) (items:Array Value):
  Walks aw w A I (I::ax::dS A) [I] items.size (fun i v=>items[i]? =some v) (fun i h=>(h.IsListIter I ax i/\h.IsList ax items)/\dw A h) where
 sub:=fun b ah=>by simp at ah;simp [ah]
 frame:=fun _ _ _ ao ag=>⟨⟨ao.1.1.at fun o e=>ag I (by simp) o e,ao.1.2.at fun o e=>ag ax (by simp) o e⟩,ao.2.keeps fun b ah o e=>ag b (by simp [ah]) o e⟩
 item:=fun i s Q E aR ao cV=>by
  refine wpAny_pyNext_list_item ao.1.1 ao.1.2 (x:=items[i]) (by simp [aR]) fun h' ko fr=> ?_
  exact cV _ h' s.toks (by simp [aR]) ⟨⟨ko,ao.1.2.extBut fr.extBut b1⟩,ao.2.keeps fun b ah o e=>(fr.2 b (fun q=>fB (q▸ah))).trans e⟩ fun b o ah e=>fr.extBut b o (fun h=>ah (by simp [h])) e
 done:=fun s Q E ao cV=>Sp ao.2 ao.1.1 ao.1.2 (by simp) fB fun h' hv=>cV h' s.toks fun b o ah e=>hv b o (fun h=>ah (by simp [h])) e
 self:=fun _ _ _ _ ao cV=>wpAny_pyIter_listiter ao.1.1 cV
theorem Af (I ax:Addr) (b1:ax≠I) (fB:I∉dS A) (items:Array Value):
  Walks aw w A I (I::ax::dS A) [I] items.size (fun i v=>items[i]? =some v) (fun i h=>(h.IsTupleIter I ax i/\h.IsTuple ax items)/\dw A h) where
 sub:=fun b ah=>by simp at ah;simp [ah]
 frame:=fun _ _ _ ao ag=>⟨⟨ao.1.1.at fun o e=>ag I (by simp) o e,ao.1.2.at fun o e=>ag ax (by simp) o e⟩,ao.2.keeps fun b ah o e=>ag b (by simp [ah]) o e⟩
 item:=fun i s Q E aR ao cV=>by
  refine wpAny_pyNext_tuple_item ao.1.1 ao.1.2 (x:=items[i]) (by simp [aR]) fun h' ko fr=> ?_
  exact cV _ h' s.toks (by simp [aR]) ⟨⟨ko,ao.1.2.extBut fr.extBut b1⟩,ao.2.keeps fun b ah o e=>(fr.2 b (fun q=>fB (q▸ah))).trans e⟩ fun b o ah e=>fr.extBut b o (fun h=>ah (by simp [h])) e
 done:=fun s Q E ao cV=>KN ao.2 ao.1.1 ao.1.2 (by simp) fB fun h' hv=>cV h' s.toks fun b o ah e=>hv b o (fun h=>ah (by simp [h])) e
 self:=fun _ _ _ _ ao cV=>wpAny_pyIter_tupleiter ao.1.1 cV
theorem BH {K:Type} [DecidableEq K] {knd:KeyKind aw w K} (I d:Addr) (b1:d≠I) (fB:I∉dS A) (aS:List (K×Value)) (cq:Nat):
  Walks aw w A I (I::d::dS A) [I] aS.length (fun i v=>∃k x,aS[i]? =some (k,x)/\knd.is k v=true) (fun i h=>(h.IsKeyIter I d i aS.length cq/\h.DictAt knd d aS cq)/\dw A h) where
 sub:=fun b ah=>by simp at ah;simp [ah]
 frame:=fun _ _ _ ao ag=>⟨⟨ao.1.1.at fun o e=>ag I (by simp) o e,ao.1.2.at' fun o e=>ag d (by simp) o e⟩,ao.2.keeps fun b ah o e=>ag b (by simp [ah]) o e⟩
 item:=fun i s Q E aR ao cV=>by
  obtain⟨⟨k,x⟩,ae⟩:∃p,aS[i]? =some p:=⟨aS[i],by simp [aR]⟩
  refine wpAny_pyNext_dict_item ao.1.1 ao.1.2 ae fun key h' hi ko fr=> ?_
  exact cV key h' s.toks ⟨k,x,ae,hi⟩ ⟨⟨ko,ao.1.2.extBut fr.extBut b1⟩,ao.2.keeps fun b ah o e=>(fr.2 b (fun q=>fB (q▸ah))).trans e⟩ fun b o ah e=>fr.extBut b o (fun h=>ah (by simp [h])) e
 done:=fun s Q E ao cV=>Sm ao.2 ao.1.1 ao.1.2 (by simp) fB fun h' hv=>cV h' s.toks fun b o ah e=>hv b o (fun h=>ah (by simp [h])) e
 self:=fun _ _ _ _ ao cV=>wpAny_pyIter_keyiter ao.1.1 cV
theorem HH (I:Addr) (fB:I∉dS A) (a c:Int) (n:Nat):
  Walks aw w A I (I::dS A) [I] n (fun i v=>∃t,v=.int (a+i*c) t) (fun i h=>IsRangeIter h I (a+(i:Nat)*c) ((n:Int)-(i:Nat)) c/\dw A h) where
 sub:=fun _ ah=>by simp at ah;simp [ah]
 frame:=fun _ _ _ ao ag=>⟨ag I (by simp) _ ao.1,ao.2.keeps fun b ah o e=>ag b (by simp [ah]) o e⟩
 item:=fun i s Q E aR ao cV=>by
  refine wpAny_pyNext_range_item ao.1 (by exact Lf aR) fun h' ko fr=> ?_
  refine cV _ h' _ ⟨_,rfl⟩ ⟨?_,ao.2.keeps fun b ah o e=>(fr.2 b (fun q=>fB (q▸ah))).trans e⟩ fun b o ah e=>fr.extBut b o (fun h=>ah (by simp [h])) e
  have ak:a+((i+1:Nat):Int)*c=a+(i:Int)*c+c:=by push_cast;(refine B (Int.add_mul _ _ _) ?_;refine B (Int.one_mul _) ?_;refine B (Int.add_assoc _ _ _) ?_;rfl)
  have ar:(n:Int)-((i+1:Nat):Int)=(n:Int)-(i:Int)-1:=by push_cast;exact H9
  (refine B ak ?_;refine B ar ?_);exact ko
 done:=fun s Q E ao cV=>SF ao.2 ao.1 (by exact VV) fun h' hv=>cV h' s.toks fun b o ah e=>hv b o (fun h=>ah (by simp [h])) e
 self:=fun _ _ _ _ ao cV=>wpAny_pyIter_rangeiter ao.1 cV
theorem Qe (I l:Addr) (b1:l≠I) (fB:I∉dS A) (items:Array Value):
  Walks aw w A I (I::l::dS A) [I] items.size (fun i v=>items[items.size-1-i]? =some v) (fun i h=>(i<=items.size/\h.IsRevIter I l ((items.size:Int)-1-(i:Int))/\h.IsList l items)/\dw A h) where
 sub:=fun b ah=>by simp at ah;simp [ah]
 frame:=fun _ _ _ x ag=>⟨⟨x.1.1,x.1.2.1.at fun o e=>ag I (by simp) o e,x.1.2.2.at fun o e=>ag l (by simp) o e⟩,x.2.keeps fun b ah o e=>ag b (by simp [ah]) o e⟩
 item:=fun i s Q E aR x cV=>by
  have e:(items.size:Int)-1-(i:Int)=((items.size-1-i:Nat):Int):=by exact Ph aR
  have ep:=x.1.2.1
  replace ep:=e▸ep
  have ae:items[items.size-1-i]? =some (items[items.size-1-i]'(by exact FN e)):=Array.getElem?_eq_getElem (by exact FN e)
  refine wpAny_pyNext_rev_item ep x.1.2.2 ae fun h' ko fr=> ?_
  have ar:((items.size-1-i:Nat):Int)-1=(items.size:Int)-1-((i+1:Nat):Int):=by omega
  replace ko:=ar▸ko
  exact cV _ h' s.toks ae ⟨⟨aR,ko,x.1.2.2.at fun o wt=>(fr.2 l b1).trans wt⟩,x.2.keeps fun b ah o e=>(fr.2 b (fun q=>fB (q▸ah))).trans e⟩ fun b o ah wt=>fr.extBut b o (fun h=>ah (by simp [h])) wt
 done:=fun s Q E x cV=>by
  have e:(items.size:Int)-1-(items.size:Int)= -1:=by exact K1
  have ep:=x.1.2.1
  replace ep:=e▸ep
  exact L3 x.2 ep fun h' hv=>cV h' s.toks fun b o ah e=>hv b o (fun h=>ah (by simp [h])) e
 self:=fun _ _ _ _ x cV=>wpAny_pyIter_revIter x.1.2.1 cV
end
end Mine
end
section
open PySem PySem.W PySem.Calls PyProof.Rows
namespace Mine
structure jS (CM:cn) (bj:dM) (F:Frag):Prop extends s9 CM bj F where
 l6:∀f:String,f∈["len","abs","sum","sorted","min","isinstance"]->hF F (Str.ofString f)=some (.builtin f)
 vo:∀f:String,f∈["int","tuple","dict","range","reversed","bool","list"]->hF F (Str.ofString f)=some (.type f)
section
variable{w:World} {CM:cn} {bj:dM} {F:Frag} {K:Top} {env:Env} {J:Scope} {A:Around} {ρ ρ₀ ρ':a5} {s c9 az:Shared} {fs fs':X} {R:bk}
theorem f4.fa {A:Around} {G:Prop} (h:f4 K A) (k0:A.handled=none->G) (k:∀e ob,K.eH=some (e,ob)->A.handled=some (.ref e)->ru ob->G):G:=by
 unfold f4 at h
 generalize K.eH=t at h k
 cases t with
 |none=>exact k0 h
 |some p=>exact k p.1 p.2 rfl h.1 h.2
theorem cK.mb {per:List H} (ap:cK w CM K ρ s per) (h:f4 K A):dw A s.heap:=by
 unfold dw
 refine h.fa (fun e=> ?_) (fun e ob q ak ar=> ?_)
 ·refine B e ?_;trivial
 ·refine B ak ?_;exact⟨ob,ap.bK _ _ (ap.ft _ _ q),ar⟩
theorem cK.dS {per:List H} (ap:cK w CM K ρ s per) (h:f4 K A):∀b∈dS A,∃ob,ρ b=.bf ob:=by
 unfold Mine.dS
 refine h.fa (fun e=> ?_) (fun e ob q ak ar=> ?_)
 ·refine B e ?_;exact fun b ah=>(List.not_mem_nil ah).elim
 ·refine B ak ?_
  exact fun b ah=>⟨ob,by refine B (List.mem_singleton.mp ah) ?_;exact ap.ft _ _ q⟩
theorem cK.Gh {per:List H} {a:Addr} (ap:cK w CM K ρ s per) (h:f4 K A) (aE:∀ob,ρ a≠.bf ob):a∉Mine.dS A:=fun q=>
 let⟨ob,e⟩:=ap.dS h a q;aE ob e
theorem RP (l:List H):∀{ns:List Int} {vs:List Value},ur l=some ns->a8 w CM ρ l vs->∃xs:Array (Int×Tok),vs=(intItems xs).toList/\xs.toList.map (·.1)=ns:=by
 induction l with
 |nil=>intro ns vs q h;cases q;refine B (show vs=[] from h) ?_;exact⟨#[],by simp [intItems],rfl⟩
 |cons x r ih=>
  intro ns vs q h
  refine hC q (fun i t aR aG q=>cC q ?_) Z
  replace h:=(jy aR)▸h
  obtain⟨v,t,rfl,⟨tk,rfl⟩,Y⟩:=h
  refine bb (ih aG Y) ?_;intro xs aC bR
  refine⟨⟨(i,tk)::xs.toList⟩,?_,by simp [bR]⟩
  refine B aC ?_;simp [intItems]
theorem Qm {n:Nat} (h:n<=a4):(n:Int)<2^63:=Int.ofNat_lt.mpr (Nat.lt_of_le_of_lt h (by decide))
theorem SU {v:H} {x:Value} {n:Nat} (q:xv v=some n) (hz:n<=a4) (I:aK w CM K env J ρ s fs) (ae:cv w CM ρ s v x):
  wpAny (model aw w) A (call (.builtin "len") [x]) (b4 w CM K env J ρ s fs (.U (.int n)) fs) cc s:=by
 have cI:∀{m:Nat} {tk:Tok},m=n->b4 w CM K env J ρ s fs (.U (.int n)) fs (.int m tk) {s with toks:=s.toks+1+1}:=fun{m tk} e=>by refine B e ?_;exact eu (tk:=s.toks+1+1) I ⟨tk,rfl⟩
 have aE:∀{m:Nat},m=n->(m:Int)<2^63:=fun e=>e▸Qm hz
 cases v with
 |am l=>
  refine dz (ae.am I.base) ?_;intro a vs k u;subst u;intro M O
  have Y:(Array.mk vs).size=n:=O.length.trans (Option.some.inj q)
  exact call_len_list (fA M) (aE Y) (cI Y)
 |aF l=>
  refine dz (ae.aF I.base) ?_;intro a vs k u;subst u;intro M O
  have Y:(Array.mk vs).size=n:=O.length.trans (Option.some.inj q)
  exact PyProof.Rows.len_tuple (items:=Array.mk vs) ⟨_,M,rfl,k,rfl⟩ (aE Y) (cI Y)
 |V l=>
  refine gr (ae.V I.base) ?_;intro a aS u;subst u;intro aL M O
  have Y:aS.length=n:=O.length.trans (Option.some.inj q)
  exact call_len_dict aL M (aE Y) (cI Y)
 |_=>exact Z q
theorem H0 {v:H} {x:Value} {r:aU} (q:Cz v=some r) (I:aK w CM K env J ρ s fs) (ae:cv w CM ρ s v x):
  wpAny (model aw w) A (call (.type "int") [x]) (b4 w CM K env J ρ s fs r fs) cc s:=by
 cases v with
 |int i=>
  refine cC q ?_
  refine bT ae.int ?_;intro t u;subst u
  exact call_int_int (eu (tk:=s.toks) I ⟨_,rfl⟩)
 |bool b=>
  refine cC q ?_
  refine B ae.bool ?_
  exact call_int_bool (eu I ⟨_,rfl⟩)
 |_=>exact Z q
theorem Hq {i:Int} {x:Value} (I:aK w CM K env J ρ s fs) (ae:cv w CM ρ s (.int i) x):
  wpAny (model aw w) A (call (.builtin "abs") [x]) (b4 w CM K env J ρ s fs (.U (.int (if i<0 then-i else i))) fs) cc s:=by
 refine bT ae.int ?_;intro t u;subst u
 exact call_abs_int fun u tk=>eu I ⟨_,rfl⟩
theorem J7 {l:List H} {ns:List Int} {x:Value} (M:ur l=some ns) (bc:f4 K A) (I:aK w CM K env J ρ s fs) (ae:cv w CM ρ s (.am l) x):
  wpAny (model aw w) A (call (.builtin "sum") [x]) (b4 w CM K env J ρ s fs (.U (.int ns.sum)) fs) cc s:=by
 refine dz (ae.am I.base) ?_;intro a vs n u;subst u;intro O Y
 refine bb (RP _ M Y) ?_;intro xs aC bR
 have aq:s.heap.IsList a (intItems xs):=by
  have:=fA O
  replace this:=aC▸this
  exact this
 have hV:s.heap.get? s.heap.objs.size=none:=fd
 have d8:∀ob,ρ s.heap.objs.size≠.bf ob:=fun ob e=>by replace e:=((I.base.c2 _).mpr hV)▸e;cases e
 refine call_sum_walkG (iter_intList aq fun ct e ao EP Px=> ?_)
 subst e
 refine⟨_,_,_,_,_,_,numAt xs,rfl,yB (A:=A.in1) _ a Px (I.base.Gh (A:=A) bc d8) (intItems xs),⟨ao,?_⟩,fun b ah=> ?_,(fun _ _=>intItems_at),fun h' tk dR ag=> ?_⟩
 ·exact dw.keeps (A:=A.in1) (I.base.mb (A:=A) bc) fun b _ o e=>Heap.get?_push_of_some _ e
 ·rcases List.mem_cons.mp ah with e|ah
  ·exact EP b (by refine B e ?_;simp)
  ·rcases List.mem_cons.mp ah with e|ah
   ·exact EP b (by refine B e ?_;simp)
   ·refine bT (I.base.dS (A:=A) bc b ah) ?_;intro ob e
    exact Heap.lt_size (Heap.get?_push_of_some _ (I.base.bK _ _ e))
 ·have z:preSum (numAt xs) (intItems xs).size=ns.sum:=by
   (refine B (preSum_eq _ _) ?_;refine bu bR ?_;refine B (List.take_of_length_le (by simp [intItems])) ?_;rfl)
  refine B z ?_
  have eB:=old_kept ag
  refine b4.trans (a1.dD eB) cb.dD (eu (tk:=tk) (s:={s with heap:=h',toks:=tk}) (I.dD (tk:=tk) eB) ⟨dR,rfl⟩)
theorem KV {a b:Int} {t u:Tok} (bc:f4 K A) (I:aK w CM K env J ρ s fs):
  wpAny (model aw w) A (call (.builtin "min") [.int a t,.int b u]) (b4 w CM K env J ρ s fs (.U (.int (if b<a then b else a))) fs) cc s:=by
 have gQ:(s.heap.push {cls:=.type "tuple",data:=.seq #[.int a t,.int b u]}).IsTuple s.heap.objs.size (intItems #[(a,t),(b,u)]):=⟨_,Heap.get?_push_size _ rfl,rfl,0,by simp [intItems]⟩
 refine call_min_two (wpAny_pyIter_tuple gQ ?_)
 have dq:(s.heap.push {cls:=.type "tuple",data:=.seq #[.int a t,.int b u]}).objs.size=s.heap.objs.size+1:=Heap.size_push ..
 have hV:s.heap.get? (s.heap.objs.size+1)=none:=by
  cases e:s.heap.get? (s.heap.objs.size+1) with
  |none=>rfl
  |some ob=>exact absurd (Heap.lt_size e) (Nat.not_lt.mpr (Nat.le_succ _))
 have d8:∀ob,ρ (s.heap.objs.size+1)≠.bf ob:=fun ob e=>by replace e:=((I.base.c2 _).mpr hV)▸e;cases e
 refine⟨_,_,[_],_,_,_,_,rfl,Af (A:=A.in1) _ s.heap.objs.size (by refine B dq ?_;exact Nat.ne_of_lt (Nat.lt_succ_self _)) (by refine B dq ?_;exact I.base.Gh (A:=A) bc d8) (intItems #[(a,t),(b,u)]),
  ⟨⟨⟨_,Heap.get?_push_size _ rfl,rfl,rfl⟩,gQ.push _⟩,dw.keeps (A:=A.in1) (I.base.mb (A:=A) bc) fun b _ o e=>Heap.get?_push_of_some _ (Heap.get?_push_of_some _ e)⟩,fun c hc=> ?_,by simp [intItems],CmpOf.ints_lt (numAt #[(a,t),(b,u)]) (fun _ _=>intItems_at),fun v h' tk iQ ag=> ?_⟩
 ·show c<((s.heap.push _).push _).objs.size
  (refine B (Heap.size_push _ _) ?_;refine B dq ?_)
  rcases List.mem_cons.mp hc with e|hc
  ·(refine B e ?_;refine B dq ?_);exact Nat.lt_succ_self _
  ·rcases List.mem_cons.mp hc with e|hc
   ·refine B e ?_;exact Nat.lt_succ_of_lt (Nat.lt_succ_self _)
   ·refine bT (I.base.dS (A:=A) bc c hc) ?_;intro ob e
    exact Nat.lt_succ_of_lt (Nat.lt_succ_of_lt (Heap.lt_size (I.base.bK _ _ e)))
 ·have pb:∀c o,s.heap.get? c=some o->h'.get? c=some o:=fun c o e=>by
   refine ag c o (fun aY=> ?_) (Heap.get?_push_of_some _ (Heap.get?_push_of_some _ e))
   rcases List.mem_cons.mp aY with ak|aY
   ·have:=Heap.lt_size e;(replace this:=ak▸this;replace this:=dq▸this);exact Nat.lt_irrefl _ (Nat.lt_of_succ_lt this)
   ·cases aY
  have ay:v=if b<a then Value.int b u else Value.int a t:=by
   have pB:(intItems #[(a,t),(b,u)])[argBest (fun i j=>decide (numAt #[(a,t),(b,u)] i<numAt #[(a,t),(b,u)] j)) 1]? =some v:=by
    have Ou:(intItems #[(a,t),(b,u)]).size-1=1:=by simp [intItems]
    refine bu Ou ?_;exact iQ
   by_cases iW:b<a
   ·have e:argBest (fun i j=>decide (numAt #[(a,t),(b,u)] i<numAt #[(a,t),(b,u)] j)) 1=1:=by simp [argBest,numAt,iW]
    replace pB:=e▸pB
    simpa [intItems,iW] using pB.symm
   ·have e:argBest (fun i j=>decide (numAt #[(a,t),(b,u)] i<numAt #[(a,t),(b,u)] j)) 1=0:=by simp [argBest,numAt,iW]
    replace pB:=e▸pB
    simpa [intItems,iW] using pB.symm
  refine b4.trans (a1.dD pb) cb.dD (eu (tk:=tk) (s:={s with heap:=h',toks:=tk}) (I.dD (tk:=tk) pb) ?_)
  refine B ay ?_
  by_cases iW:b<a
  ·(refine B (if_pos iW) ?_;refine B (if_pos iW) ?_);exact⟨_,rfl⟩
  ·(refine B (if_neg iW) ?_;refine B (if_neg iW) ?_);exact⟨_,rfl⟩
theorem RG {l:List H} {x:Value} (hz:l.length<=a4) (I:aK w CM K env J ρ s fs) (ae:cv w CM ρ s (.am l) x):
  wpAny (model aw w) A (call (.type "tuple") [x]) (b4 w CM K env J ρ s fs (.U (.aF l)) fs) cc s:=by
 refine dz (ae.am I.base) ?_;intro a vs n u;subst u;intro M O
 have Y:=O.length
 refine call_tuple_list (fA M) (fun h' ag=> ?_) (by(refine B List.size_toArray ?_;refine B Y ?_);exact Nat.le_trans hz ja)
 refine b4.trans (a1.dD (tk:=s.toks) ag) cb.dD (zM (tk:=s.toks) (s:={s with heap:=h'}) (I.dD (tk:=s.toks) ag) (fun b ob e=>Heap.get?_push_of_some _ e) fd (Heap.get?_push_size _ rfl) fun ρ' aB an cr=> ?_)
 exact⟨_,vs,0,rfl,cr,O.bt (fun b o e=>aB _ _ (h9.mpr e)) (fun b o e=>an _ _ (gT.mpr e))⟩
theorem Nx (i7:∃ob,K.f.lookup sysModules=some ob) {l:List (al×H)} {x:Value} (hz:l.length<=a4) (I:aK w CM K env J ρ s fs) (ae:cv w CM ρ s (.V l) x):
  wpAny (model aw w) A (call (.type "dict") [x]) (b4 w CM K env J ρ s fs (.own (.V l)) fs) cc s:=by
 refine gr (ae.V I.base) ?_;intro a aS u;subst u;intro aL M O
 have Y:=O.length
 refine kt_call_dict aL M (by refine B Y ?_;exact Nat.le_trans hz ja) fun h' dL pX=> ?_
 have mK:∀b ob,s.heap.get? b=some ob->h'.get? b=some ob:=fun b ob e=>by
  refine B (pX.2 b (Nat.ne_of_lt (Heap.lt_size e))) ?_;exact Heap.get?_push_of_some _ e
 refine o8 (tk:=s.toks) I mK fd ?_
 refine p0 dL ?_;clear dL;intro ob d3 cq ak ar bP cW dn fe
 exact⟨ob,d3,cq,aS,rJ i7 I fd,ak,ar,bP,cW,dn,fe,O⟩
end
end Mine
end
section
open PySem PySem.W PySem.Calls PyProof.Rows
namespace Mine
noncomputable def jg (CM:cn) (c:Str):Option Value:=
 if rn.contains c then some (.type c.toString) else if hJ.contains c then(CM c).map .ref else none
noncomputable def v0 (T:String) (c:Str):Bool:=
 if T="bool" then decide (c=("bool":Str))||decide (c=("int":Str)) else if T="int" then decide (c=("int":Str)) else if T="list" then decide (c=("list":Str)) else if T="dict" then decide (c=("dict":Str)) else false
structure pE (CM:cn) (bj:dM) (F:Frag):Prop extends jS CM bj F where
 kH:∀T,T∈["NoneType","bool","int","str","list","dict","tuple"]->∀c eJ,jg CM c=some eJ->kitOne F (.type T) eJ=some (v0 T c)
 rR:∀d D c eJ,CM d=some D->(d=("Shelf":Str)\/hJ.contains d=true)->jg CM c=some eJ->kitOne F (.ref D) eJ=some (decide (c=d))
 AI:∀d D,CM d=some D->(d=("Shelf":Str)\/hJ.contains d=true)->plainGet F D "__class__"=true/\hasDictIn F D=true/\findIn F (.ref D) "__class__"=some (some (.builtin "object.__class__"))/\mroIn F D (.type "object")=some true
 zY:specialIn F (.builtin "object.__class__") "__get__"=some (some (.builtin "getset_descriptor.__get__"))/\takesIn F (.builtin "object.__class__")=some true
 cls:∀c,hJ.contains c=true->∃C,CM c=some C
 FU:∀c eJ,jg CM c=some eJ->hF F c=some eJ
section
variable{w:World} {CM:cn} {bj:dM} {F:Frag} {K:Top} {env:Env} {J:Scope} {A:Around} {ρ ρ₀ ρ':a5} {s c9 az:Shared} {fs fs':X} {R:bk}
theorem pE.jg (bl:pE CM bj F) {c:Str} (h:(rn.contains c||hJ.contains c)=true):∃eJ,Mine.jg CM c=some eJ:=by
 unfold Mine.jg
 split
 ·exact⟨_,rfl⟩
 ·rename_i e
  have hc:hJ.contains c=true:=by
   rcases Bool.or_eq_true_iff.mp h with h|h
   ·exact absurd h e
   ·exact h
  refine B (if_pos hc) ?_
  refine bT (bl.cls c hc) ?_;intro C q
  exact⟨_,by refine B q ?_;rfl⟩
theorem Ot (bl:pE CM bj F) (bA:K.f=F) {v:H} {x eJ:Value} {c:Str} {b:Bool} (q:gF v c=some b) (hc:Mine.jg CM c=some eJ) (I:aK w CM K env J ρ s fs) (ae:cv w CM ρ s v x):
  wpAny (model aw w) A (call (.builtin "isinstance") [x,eJ]) (b4 w CM K env J ρ s fs (.U (.bool b)) fs) cc s:=by
 subst bA
 refine cH q ?_ Z;clear q;intro aA q
 have av:=I.in
 have kH:∀T,T∈["NoneType","bool","int","str","list","dict","tuple"]->kitOne K.f (.type T) eJ=some (v0 T c):=fun T gQ=>bl.kH T gQ c eJ hc
 have cI:∀{c:Bool},some c=some b->∀tk,b4 w CM K env J ρ s fs (.U (.bool b)) fs (.bool c) {s with toks:=tk}:=fun h tk=>eu I (congrArg Value.bool (Option.some.inj h))
 cases v with
 |none=>
  refine B ae.none ?_
  exact kia_one kitx_none av trivial (kH "NoneType" (by decide)) (fun z=>Value.noConfusion z) (cI q)
 |bool y=>
  refine B ae.bool ?_
  exact kia_one kitx_bool av trivial (kH "bool" (by decide)) (fun z=>Value.noConfusion z) (cI q)
 |int y=>
  refine bT ae.int ?_;intro t u;subst u
  exact kia_one kitx_int av trivial (kH "int" (by decide)) (fun z=>Value.noConfusion z) (cI q)
 |str y=>
  refine bT ae.str ?_;intro t u;subst u
  exact kia_one kitx_str av trivial (kH "str" (by decide)) (fun z=>Value.noConfusion z) (cI q)
 |aF l=>
  refine dz (ae.aF I.base) ?_;intro a vs n u;subst u;intro M O
  exact kia_one kitx_tuple av ⟨_,M,rfl⟩ (kH "tuple" (by decide)) (fun z=>Value.noConfusion z) (cI q)
 |am l=>
  refine dz (ae.am I.base) ?_;intro a vs n u;subst u;intro M O
  exact kia_one kitx_list av ⟨_,M,rfl⟩ (kH "list" (by decide)) (fun z=>Value.noConfusion z) (cI q)
 |V l=>
  refine gr (ae.V I.base) ?_;intro a aS u;subst u;intro aL M O
  exact kia_one kitx_dict av M.typeIs (kH "dict" (by decide)) (fun z=>Value.noConfusion z) (cI q)
 |dT d l=>
  refine cH q ?_ Z;clear q;intro hd q
  have hD:d=("Shelf":Str)\/hJ.contains d=true:=by simpa using hd
  obtain⟨ad,dd,gV,C,rfl,M,O,Y,aC,bR⟩:=ae.dT
  refine oF (bl.AI d C M hD) ?_;intro ea fH ht kY
  have In:InstAt s.heap ad (instObj C dd) C (some gV):=⟨I.base.bK _ _ O,rfl,rfl,I.base.bK _ _ Y⟩
  exact kia_one (kitx_own ea fH ht bl.zY.1 bl.zY.2 kY) av In (bl.rR d C c eJ M hD hc) (fun z=>Value.noConfusion z) (cI q)
 |per k=>exact Z q
end
end Mine
end
section
open PySem PySem.W PySem.Calls PyProof.Rows
namespace Mine
theorem o0 {A:Around} {h:Heap} (x:dw A h):∀b∈dS A,b<h.objs.size:=by
 unfold dS
 refine x.fa (fun e=> ?_) fun e ob aW M _=> ?_
 ·refine B e ?_;exact fun b ah=>(List.not_mem_nil ah).elim
 ·refine B aW ?_
  exact fun b ah=>by refine B (List.mem_singleton.mp ah) ?_;exact Heap.lt_size M
section
variable{w:World} {A:Around} {E:Value->Shared->Prop} {s:Shared} {K:Type} [DecidableEq K] {knd:KeyKind aw w K} {d:Addr} {aS:List (K×Value)} {cq:Nat}
noncomputable abbrev te (knd:KeyKind aw w K) (aS:List (K×Value)):Nat->Value->Prop:=fun i v=>∃k x,aS[i]? =some (k,x)/\knd.is k v=true
theorem VJ {R:Result->Shared->Prop} (bx:dw A s.heap) (cZ:(d==sysModules)=false) (aY:s.heap.DictAt knd d aS cq) (S:Addr) (Dw:S≠d) (yc:S∉dS A) (res:Value) (BY:Nat) (m0:s.heap.get? S=some {cls:=.type "list",data:=.seq #[] BY})
  (f9:∀h' tk g6 c',(∀b o,b≠S->s.heap.get? b=some o->h'.get? b=some o)->h'.get? S=some {cls:=.type "list",dict:=none,data:=.seq g6 c',slots:= #[]}->ItemsOf (te knd aS) g6 aS.length->R (.ok (.ret res)) {s with heap:=h',toks:=tk}) (aE:aS.length<=sizeLine):
  wpAny (model aw w) A.in1 (Builtin.List.listExtendWith (.ref S) (.ref d) res)
   (fun cI az=>match cI with|.done f=>R (.ok f) az|.again c'=>c'.quiet=true/\codeAny (model aw w) A c' R az) (fun e az=>R (.error e) az) s:=by
 have sR:S≠s.heap.objs.size:=Nat.ne_of_lt (Heap.lt_size m0)
 have hd:=aY.lt_size
 have Ny:s.heap.objs.size∉dS A:=fun q=>Nat.lt_irrefl _ (o0 bx _ q)
 have td:S∉s.heap.objs.size::d::dS A:=by simp only [List.mem_cons,not_or];exact⟨sR,Dw,yc⟩
 have W:=BH (w:=w) (A:=A.in1) (knd:=knd) s.heap.objs.size d (Nat.ne_of_lt hd) Ny aS cq
 have key:∀(h:Heap) (u6 tk:Nat),((h.IsKeyIter s.heap.objs.size d 0 aS.length cq/\h.DictAt knd d aS cq)/\dw A.in1 h)->(∀b o,b≠S->s.heap.get? b=some o->h.get? b=some o)->
   h.get? S=some {cls:=.type "list",data:=.seq #[] u6}->codeAny (model aw w) A (.builtin "list.extend.loop" ⟨[.ref S,.ref s.heap.objs.size,res],[]⟩) R {s with heap:=h,toks:=tk}:=by
  intro h u6 tk eO ag ny
  refine codeAny_extend_loopS W.toS aE S td res aS.length 0 _ #[] u6 rfl (Nat.zero_le _) eO ny (ItemsOf.nil _) fun az g6 c' mS n7 ik=> ?_
  refine B (Moved.eq_with mS) ?_
  refine f9 az.heap az.toks g6 c' (fun b o ah e=>mS.heap b o (fun wP=> ?_) (ag b o ah e)) n7 ik
  rcases List.mem_cons.mp wP with cg|wP
  ·exact ah cg
  ·exact absurd (Heap.lt_size e) (by refine B (List.mem_singleton.mp wP) ?_;exact Nat.lt_irrefl _)
 unfold Builtin.List.listExtendWith
 refine wpAny_bind (wpAny_typeOf (T:="dict") aY.dictOf.typeIs ?_)
 have M:Builtin.List.listSameRef (.ref S) (.ref d)=false:=by simp [Builtin.List.listSameRef,Dw]
 simp only [M,show(Value.type "dict"==Value.type "list")=false from by decide,show(Value.type "dict"==Value.type "tuple")=false from by decide,Bool.or_false,Bool.false_eq_true,if_false]
 refine wpAny_bind (wpAny_pyIter_dict cZ aY ?_)
 have ny:=Heap.get?_push_of_some {cls:=.type "dict_keyiterator",data:=.fields #[.ref d,.int 0 0,.int aS.length 0,.int cq 0]} m0
 have ao:(((s.heap.push {cls:=.type "dict_keyiterator",data:=.fields #[.ref d,.int 0 0,.int aS.length 0,.int cq 0]}).IsKeyIter s.heap.objs.size d 0 aS.length cq/\(s.heap.push {cls:=.type "dict_keyiterator",data:=.fields #[.ref d,.int 0 0,.int aS.length 0,.int cq 0]}).DictAt knd d aS cq)/\dw A.in1 (s.heap.push {cls:=.type "dict_keyiterator",data:=.fields #[.ref d,.int 0 0,.int aS.length 0,.int cq 0]})):=
  ⟨⟨⟨_,Heap.get?_push_size _ rfl,rfl,rfl⟩,aY.push _⟩,dw.keeps (A:=A.in1) bx fun b _ o e=>Heap.get?_push_of_some _ e⟩
 refine wpAny_bind (wpAny_holding (kdl_hint_dict (aY.push _).dictOf.typeIs ?_))
 refine wpAny_ite_split (fun _=> ?_) (fun _=>wpAny_pure ⟨plainId_quiet PySem.F.plain_extend_loop _,key _ BY _ ao (fun b o _ e=>Heap.get?_push_of_some _ e) ny⟩)
 refine wpAny_bind (wpAny_rule ?_)
 refine wpAny_bind ?_
 show wpAny _ _ (updateSeq S (·.push .none)>>=fun _=>updateSeq S (·.pop)) _ _ _
 refine wpAny_bind (wpAny_updateSeq ny rfl ?_)
 have B8:=Heap.get?_update_self (Obj.mapSeq (·.push Value.none)) ny rfl
 refine wpAny_updateSeq (hz:=by seq_fits) B8 rfl ?_
 have MB:=Heap.get?_update_self (Obj.mapSeq (·.pop)) B8 rfl
 refine wpAny_pure ⟨plainId_quiet PySem.F.plain_extend_loop _,key _ _ _ ?_ (fun b o ah e=> ?_) MB⟩
 ·refine W.frame 0 _ _ ao fun b ah o e=> ?_
  have Ef:b≠S:=fun h=>td (h▸ah)
  exact(Heap.get?_update_other _ _ (Ne.symm Ef)).trans ((Heap.get?_update_other _ _ (Ne.symm Ef)).trans e)
 ·exact(Heap.get?_update_other _ _ (Ne.symm ah)).trans ((Heap.get?_update_other _ _ (Ne.symm ah)).trans (Heap.get?_push_of_some _ e))
theorem UI {R:List Value->Shared->Prop} (bx:dw A s.heap) (cZ:(d==sysModules)=false) (aY:s.heap.DictAt knd d aS cq) (aE:aS.length<=sizeLine)
  (h:∀(h':Heap) (tk:Nat) (cm:Array Value),(∀b o,s.heap.get? b=some o->h'.get? b=some o)->ItemsOf (te knd aS) cm aS.length->R cm.toList {s with heap:=h',toks:=tk}):
  wpAny (model aw w) A (collect (.ref d)) R E s:=by
 have cy:=aY.lt_size
 unfold collect
 refine wpAny_bind (wpAny_runValue (codeAny_builtin entry_proto_collect' ?_))
 refine B (Around.under_plainId PySem.F.plain_proto_collect _) ?_
 show wpAny _ A.in1 (newList []>>=fun l=>again (.builtin "list.__iadd__" ⟨[l,.ref d],[]⟩)) _ _ s
 refine wpAny_bind (wpAny_newObj_type ?_)
 refine wpAny_pure ⟨plainId_quiet PySem.F.plain_list_iadd _,codeAny_builtin entry_list_iadd' ?_⟩
 refine B (Around.under_plainId PySem.F.plain_list_iadd _) ?_
 have ny:(s.heap.push {cls:=.type "list",data:=.seq ([]:List Value).toArray}).get? s.heap.objs.size=some {cls:=.type "list",data:=.seq #[]}:=Heap.get?_push_size _ rfl
 show wpAny _ A.in1 (Builtin.List.listExtendWith (.ref s.heap.objs.size) (.ref d) (.ref s.heap.objs.size)) _ _ _
 have key:=VJ (A:=A) (s:={s with heap:=s.heap.push {cls:=.type "list",data:=.seq ([]:List Value).toArray}})
  (R:=fun(q:Result) (az:Shared)=>∃(h':Heap) (tk:Nat) (g6:Array Value) (c':Nat),q=.ok (.ret (.ref s.heap.objs.size))/\az={s with heap:=h',toks:=tk}/\
   (∀b o,s.heap.get? b=some o->h'.get? b=some o)/\h'.get? s.heap.objs.size=some {cls:=.type "list",dict:=none,data:=.seq g6 c',slots:= #[]}/\ItemsOf (te knd aS) g6 aS.length)
  (bx.keeps fun b _ o e=>Heap.get?_push_of_some _ e) cZ (aY.push _) s.heap.objs.size (Nat.ne_of_gt cy) (fun q=>Nat.lt_irrefl _ (o0 bx _ q)) (.ref s.heap.objs.size) 0 ny
  (fun h' tk g6 c' ag n7 ik=>⟨h',tk,g6,c',rfl,rfl,fun b o e=>ag b o (Nat.ne_of_lt (Heap.lt_size e)) (Heap.get?_push_of_some _ e),n7,ik⟩) aE
 refine wpAny_mono key (fun cI az x=> ?_) fun e az x=> ?_
 ·cases cI with
  |done f=>
   refine BO x ?_;clear x;intro h' tk g6 c' e u;subst u;intro ag n7 ik
   cases e
   show wpAny _ A (load s.heap.objs.size>>=_) _ _ _
   refine wpAny_bind (wpAny_load n7 ?_)
   exact wpAny_pure (h h' tk g6 ag ik)
  |again u6=>
   refine⟨x.1,codeAny_mono x.2 fun q ct y=> ?_⟩
   refine BO y ?_;clear y;intro h' tk g6 c' u;subst u;intro u;subst u;intro ag n7 ik
   show wpAny _ A (load s.heap.objs.size>>=_) _ _ _
   refine wpAny_bind (wpAny_load n7 ?_)
   exact wpAny_pure (h h' tk g6 ag ik)
 ·refine pH x ?_;clear x;intro _ _ _ _ cg _
  cases cg
theorem Wn {Q:Value->Shared->Prop} (bx:dw A s.heap) (cZ:(d==sysModules)=false) (aY:s.heap.DictAt knd d aS cq) (aE:aS.length<=sizeLine)
  (h:∀(h':Heap) (tk:Nat) (vs:List Value),(∀b o,s.heap.get? b=some o->h'.get? b=some o)->vs.length=aS.length->(∀(j:Nat) (v:Value),vs[j]? =some v->te knd aS j v)->
   wpAny (model aw w) A.in1.in1 (Builtin.«list.sort» ⟨[.ref h'.objs.size],[]⟩) (fun cI az=>cI=.done (.ret .none)/\Q (.ref h'.objs.size) az) E {s with heap:=h'.push (seqObj "list" vs.toArray 0),toks:=tk}):
  wpAny (model aw w) A (call (.builtin "sorted") [.ref d]) Q E s:=by
 refine call_function_entry kind_sorted plain_sorted entry_sorted (args_sorted1 _) ?_
 unfold Builtin.«sorted»
 refine wpAny_bind (m:=checkCount "sorted" 1 1 _) (wpAny_pure ?_)
 refine wpAny_bind (UI (A:=A.in1) bx cZ aY aE fun h' tk cm ag ik=> ?_)
 have aq:cm.toList.length=aS.length:=by refine B Array.length_toList ?_;exact ik.1
 refine wpAny_bind (wpAny_newList ?_ (by refine B aq ?_;exact aE))
 have bi:=h h' tk cm.toList ag aq (fun j v e=>ik.2 j v (by refine bu Array.getElem?_toList ?_;exact e))
 have Wj:(h'.push (seqObj "list" cm.toList.toArray 0)).get? h'.objs.size=some (seqObj "list" cm.toList.toArray 0):=Heap.get?_push_size _ rfl
 refine wpAny_bind (wpAny_holding (wpAny_call_entry (s:={s with heap:=h'.push (seqObj "list" cm.toList.toArray 0),toks:=tk}) slot_list_sort ⟨_,Wj,rfl⟩ entry_list_sort (wpAny_mono bi (fun cI az x=> ?_) fun _ _ e=>e) (args_list_sort _)))
 refine cl x ?_;clear x;intro u;subst u;intro x
 exact⟨_,rfl,wpAny_pure ⟨_,rfl,x⟩⟩
end
end Mine
end
section
open PySem PySem.W PySem.Calls PyProof.Rows
namespace Mine
theorem wf (a:Int):∀l:List Int,(jM a l).Perm (a::l)
 |[]=>.refl _
 |b::r=>by
  unfold jM
  split
  ·exact .refl _
  ·exact((wf a r).cons b).trans (.swap ..)
theorem Fs (a:Int):∀l:List Int,l.Pairwise (· <= ·)->(jM a l).Pairwise (· <= ·)
 |[],_=>by simp [jM]
 |b::r,h=>by
  have M:=List.pairwise_cons.mp h
  unfold jM
  split
  ·rename_i cy
   exact List.pairwise_cons.mpr ⟨fun c hc=>by
    rcases List.mem_cons.mp hc with rfl|hc
    ·exact Nd cy
    ·have:=M.1 c hc;exact XG cy this,h⟩
  ·rename_i rL
   refine List.pairwise_cons.mpr ⟨fun c hc=> ?_,Fs a r M.2⟩
   rcases List.mem_cons.mp ((wf a r).mem_iff.mp hc) with rfl|hc
   ·exact I7 rL
   ·exact M.1 c hc
theorem Fo:∀(l cm:List Int),cm.Pairwise (· <= ·)->(l.foldl (fun cm a=>jM a cm) cm).Perm (l++cm)/\(l.foldl (fun cm a=>jM a cm) cm).Pairwise (· <= ·)
 |[],cm,h=>⟨.refl _,h⟩
 |a::r,cm,h=>by
  refine cl (Fo r (jM a cm) (Fs a cm h)) ?_;intro M O
  refine⟨M.trans ?_,O⟩
  exact(List.Perm.append_left r (wf a cm)).trans List.perm_middle
theorem Oa {l k:List Int} (an:k.Perm l) (hs:k.Pairwise (· <= ·)):k=qx l:=by
 refine cl (Fo l [] .nil) ?_;intro M O
 exact List.Perm.eq_of_pairwise (fun _ _ _ _ a b=>Int.le_antisymm a b) hs O (an.trans (by replace M:=(List.append_nil _)▸M;exact M.symm))
noncomputable abbrev kP (a b:Str):Prop:=a.cps.toList<=b.cps.toList
theorem AD {a b:Str}:za a b=true↔a.cps.toList<b.cps.toList:=by unfold za;simp
theorem yR (a:Str):∀l:List Str,(kT a l).Perm (a::l)
 |[]=>.refl _
 |b::r=>by
  unfold kT
  split
  ·exact .refl _
  ·exact((yR a r).cons b).trans (.swap ..)
theorem BM (a:Str):∀l:List Str,l.Pairwise kP->(kT a l).Pairwise kP
 |[],_=>by simp [kT]
 |b::r,h=>by
  have M:=List.pairwise_cons.mp h
  unfold kT
  split
  ·rename_i cy
   have GC:kP a b:=List.le_of_lt (AD.mp cy)
   exact List.pairwise_cons.mpr ⟨fun c hc=>by
    rcases List.mem_cons.mp hc with rfl|hc
    ·exact GC
    ·exact List.le_trans GC (M.1 c hc),h⟩
  ·rename_i rL
   have iW:kP b a:=List.not_lt.mp (fun q=>rL (AD.mpr q))
   refine List.pairwise_cons.mpr ⟨fun c hc=> ?_,BM a r M.2⟩
   rcases List.mem_cons.mp ((yR a r).mem_iff.mp hc) with rfl|hc
   ·exact iW
   ·exact M.1 c hc
theorem Ar:∀(l cm:List Str),cm.Pairwise kP->(l.foldl (fun cm a=>kT a cm) cm).Perm (l++cm)/\(l.foldl (fun cm a=>kT a cm) cm).Pairwise kP
 |[],cm,h=>⟨.refl _,h⟩
 |a::r,cm,h=>by
  refine cl (Ar r (kT a cm) (BM a cm h)) ?_;intro M O
  refine⟨M.trans ?_,O⟩
  exact(List.Perm.append_left r (yR a cm)).trans List.perm_middle
theorem ME {a b:Str} (h:a.cps.toList=b.cps.toList):a=b:=by
 cases a;cases b;simp only [Str.mk.injEq];exact Array.toList_inj.mp h
theorem Nq {l k:List Str} (an:k.Perm l) (hs:k.Pairwise kP):k=Mine.yP l:=by
 refine cl (Ar l [] .nil) ?_;intro M O
 exact List.Perm.eq_of_pairwise (fun _ _ _ _ a b=>ME (List.le_antisymm a b)) hs O (an.trans (by replace M:=(List.append_nil _)▸M;exact M.symm))
theorem En:∀(p:Str) (l:List Str),risingS p l=true->(p::l).Pairwise kP
 |p,[],_=>by simp
 |p,x::r,h=>by
  unfold risingS at h
  simp only [Bool.and_eq_true,Bool.not_eq_true'] at h
  have ih:=En x r h.2
  have A7:kP p x:=by
   replace h:=(ltCps_eq _ _)▸h
   exact List.not_lt.mp (of_decide_eq_false h.1)
  refine List.pairwise_cons.mpr ⟨fun c hc=> ?_,ih⟩
  rcases List.mem_cons.mp hc with rfl|hc
  ·exact A7
  ·exact List.le_trans A7 ((List.pairwise_cons.mp ih).1 c hc)
theorem Oy:∀{l:List Str},PyProof.Rows.sortedS l=true->l.Pairwise kP
 |[],_=>.nil
 |x::r,h=>En x r h
section
variable{w:World} {CM:cn} {bj:dM} {F:Frag} {K:Top} {env:Env} {J:Scope} {A:Around} {ρ ρ₀ ρ':a5} {s c9 az:Shared} {fs fs':X} {R:bk}
theorem Ci:∀{vs:List Value} {ns:List Int},vs.length=ns.length->(∀(j:Nat) v n,vs[j]? =some v->ns[j]? =some n->∃t,v=Value.int n t)->IntsAre vs ns
 |[],[],_,_=>.nil
 |v::vs,n::ns,h,ay=>by
  refine bT (ay 0 v n rfl rfl) ?_;intro t u;subst u
  exact .cons n t (Ci (by simpa using h) fun j u m M O=>ay (j+1) u m (by simpa using M) (by simpa using O))
 |[],_::_,h,_=>by cases h
 |_::_,[],h,_=>by cases h
theorem GU:∀{vs:List Value} {ns:List Str},vs.length=ns.length->(∀(j:Nat) v n,vs[j]? =some v->ns[j]? =some n->∃t,v=Value.str n t)->StrsAre vs ns
 |[],[],_,_=>.nil
 |v::vs,n::ns,h,ay=>by
  refine bT (ay 0 v n rfl rfl) ?_;intro t u;subst u
  exact .cons n t (GU (by simpa using h) fun j u m M O=>ay (j+1) u m (by simpa using M) (by simpa using O))
 |[],_::_,h,_=>by cases h
 |_::_,[],h,_=>by cases h
theorem a8.ints:∀{vs:List Value} {ns:List Int},IntsAre vs ns->a8 w CM ρ (ns.map H.int) vs
 |_,_,.nil=>a8.nil
 |_,_,.cons n t h=>a8.cons ⟨t,rfl⟩ (a8.ints h)
theorem a8.strs:∀{vs:List Value} {ns:List Str},StrsAre vs ns->a8 w CM ρ (ns.map H.str) vs
 |_,_,.nil=>a8.nil
 |_,_,.cons n t h=>a8.cons ⟨t,rfl⟩ (a8.strs h)
theorem Pp (l:List (al×H)):∀{ns:List Int},oB l=some ns->l.map (·.1)=ns.map al.int:=by
 induction l with
 |nil=>intro ns q;exact cC q rfl
 |cons p r ih=>
  intro ns q
  refine hC q (fun i t aR aG q=>cC q ?_) Z
  (refine B List.map_cons ?_;refine B (ih aG) ?_)
  generalize p.1=k at aR
  cases k with
  |int j=>exact cC aR rfl
  |str _=>exact Z aR
theorem QE (l:List (al×H)):∀{ns:List Str},uH l=some ns->l.map (·.1)=ns.map al.str:=by
 induction l with
 |nil=>intro ns q;exact cC q rfl
 |cons p r ih=>
  intro ns q
  refine hC q (fun i t aR aG q=>cC q ?_) Z
  (refine B List.map_cons ?_;refine B (ih aG) ?_)
  generalize p.1=k at aR
  cases k with
  |str j=>exact cC aR rfl
  |int _=>exact Z aR
theorem U3 {l:List (al×H)} {x:Value} {r:aU} (q:ry l=some r) (hz:l.length<64) (bc:f4 K A) (I:aK w CM K env J ρ s fs) (ae:cv w CM ρ s (.V l) x):
  wpAny (model aw w) A (call (.builtin "sorted") [x]) (b4 w CM K env J ρ s fs r fs) cc s:=by
 refine gr (ae.V I.base) ?_;intro a aS u;subst u;intro aL M O
 have bC:=O.length
 have nE:=O.wu
 refine bT M.dictAt ?_;intro cq fw
 have dq:aS.length<=sizeLine:=by(refine B bC ?_;refine B sizeLine_eq ?_);exact Qk hz
 refine Wn (I.base.mb bc) aL fw dq fun h' tk vs ag aq ay=> ?_
 have cI:∀{xs:List H} (out:Array Value),a8 w CM ρ xs out.toList->b4 w CM K env J ρ s fs (.own (.am xs)) fs (.ref h'.objs.size) {s with heap:=sortedHeap (h'.push (seqObj "list" vs.toArray 0)) h'.objs.size vs out,toks:=tk}:=fun{xs} out aP=>by
  refine bT (sortedHeap_at (h:=h'.push (seqObj "list" vs.toArray 0)) (a:=h'.objs.size) (vs:=vs) (n:=0) (out:=out) (Heap.get?_push_size _ rfl)) ?_;intro e aW
  refine b4.trans (a1.dD (tk:=tk) ag) cb.dD ?_
  refine o8 (tk:=tk) (s:={s with heap:=h',toks:=tk}) (I.dD (tk:=tk) ag) (fun b ob e=> ?_) fd ?_
  ·have ah:b<h'.objs.size:=Heap.lt_size e
   (refine B (sortedHeap_old (Nat.ne_of_lt ah) (by rw [size_push'];exact Nat.lt_succ_of_lt ah)) ?_;refine B (Heap.get?_push_ne _ _ _ (Nat.ne_of_lt ah)) ?_)
   exact e
  ·exact⟨out.toList,e,by simpa using aW,aP.bt (fun b o e=>h9.mpr e) (fun b k e=>gT.mpr e)⟩
 refine Rs q (fun ns ey=> ?_) fun ns ey=> ?_
 ·have eB:aS.map (·.1)=ns.map al.int:=nE.trans (Pp l ey)
  have fB:IntsAre vs ns:=Ci (by(refine B aq ?_;refine bu (List.length_map (f:=(·.1)) (as:=aS)) ?_;refine B eB ?_;refine B (List.length_map _) ?_;rfl)) fun j v n ak ar=>by
   refine hw (ay j v ak) ?_;intro k y bP cW
   have dn:(aS.map (·.1))[j]? =some k:=by(refine B List.getElem?_map ?_;refine B bP ?_);rfl
   (replace dn:=eB▸dn;replace dn:=List.getElem?_map▸dn;replace dn:=ar▸dn)
   replace cW:=(Eq.symm (Option.some.inj dn))▸cW
   exact jp cW
  refine list_sort_tree (Heap.get?_push_size _ rfl) fB (by(refine B aq ?_;refine B bC ?_);exact hz) fun out YI bV cE cX=>⟨rfl,?_⟩
  refine bu (Oa cE cX) ?_
  exact cI out (a8.ints bV)
 ·have eB:aS.map (·.1)=ns.map al.str:=nE.trans (QE l ey)
  have fB:StrsAre vs ns:=GU (by(refine B aq ?_;refine bu (List.length_map (f:=(·.1)) (as:=aS)) ?_;refine B eB ?_;refine B (List.length_map _) ?_;rfl)) fun j v n ak ar=>by
   refine hw (ay j v ak) ?_;intro k y bP cW
   have dn:(aS.map (·.1))[j]? =some k:=by(refine B List.getElem?_map ?_;refine B bP ?_);rfl
   (replace dn:=eB▸dn;replace dn:=List.getElem?_map▸dn;replace dn:=ar▸dn)
   replace cW:=(Eq.symm (Option.some.inj dn))▸cW
   exact jG cW
  refine list_sort_treeK strKind_oneLt (Heap.get?_push_size _ rfl) fB.keysOf (fun SH Zj rest e=>keyKind_strs (by refine bu e ?_;exact fB)) (by(refine B aq ?_;refine B bC ?_);exact hz) fun Zd an hs=>⟨rfl,?_⟩
  refine et (sorted_out_str fB an hs) ?_;intro YC bV cE cX
  refine bu (Nq cE (Oy cX)) ?_
  exact cI _ (a8.strs bV)
end
end Mine
end
section
open PySem PySem.W PySem.Calls PyProof.Rows
namespace Mine
section
variable{w:World} {A:Around} {E:Value->Shared->Prop} {s:Shared}
theorem LA {α:Type} {Q:α->Shared->Prop} {e:Addr} {ob:Obj} {vs:Array Value} (bx:dw A s.heap) (aW:s.heap.get? e=some ob) (hd:ob.data=.fields vs) (O:2<vs.size) (b1:e∉dS A)
  (h1:∀h',(∀b o,b≠e->s.heap.get? b=some o->h'.get? b=some o)->(∃hu,h'.get? e=some hu/\hu.cls=ob.cls)->E (.ref e) {s with heap:=h'}):
  wpAny (model aw w) A (raiseNew (.ref e)) Q E s:=by
 delta raiseNew
 refine wpAny_bind (wpAny_handled ?_)
 unfold dS at b1
 refine bx.fa (fun cg=> ?_) fun x Y7 ae M an=> ?_<;>clear bx
 ·refine B cg ?_
  exact wpAny_bind (wpAny_pure (wpAny_throw (h1 _ (fun b o _ q=>q) ⟨_,aW,rfl⟩)))
 ·rw [ae] at b1|-
  obtain⟨aB,c1,Y,aC,bR⟩:=an
  have Sq:x≠e:=fun q=>b1 (List.mem_singleton.mpr q.symm)
  dsimp only
  refine B (if_pos (show(Value.ref x !=Value.ref e)=true from by simpa using Sq)) ?_
  refine wpAny_bind (wpAny_holding (wpAny_runValue (codeAny_builtin Gr ?_)))
  refine B (Around.under_plainId ES _) ?_
  unfold Builtin.«proto.unchain»
  refine wpAny_bind (wpAny_field M Y bR ?_)
  refine B (if_pos (by decide)) ?_
  refine wpAny_pure ?_
  unfold updateField
  refine wpAny_bind (wpAny_bind (wpAny_load aW ?_))
  refine B hd ?_
  dsimp only
  refine B (if_pos (show 2<Array.size _ from O)) ?_
  refine wpAny_update aW (wpAny_throw (h1 _ (fun b o ah q=> ?_) ⟨_,Heap.get?_update_self _ aW (Obj.isFreed_of_fields (Obj.data_mapFields hd _)),Obj.cls_mapFields ..⟩))
  exact(Heap.get?_update_other _ _ (Ne.symm ah)).trans q
theorem L0 {α:Type} {Q:α->Shared->Prop} {o:Value} {name:Str} {Ae:Str} (bx:dw A s.heap)
  (h:∀h' tk e,(∀b o,s.heap.get? b=some o->h'.get? b=some o)->(∃ob,h'.get? e=some ob/\ob.cls=.type "AttributeError")->E (.ref e) {s with heap:=h',toks:=tk}) (aY:Ae.length<=sizeLine:=by size_fits):
  wpAny (model aw w) A (raiseAttrError o name Ae:Sem α) Q E s:=by
 have cy:=o0 bx
 unfold raiseAttrError
 refine wpAny_bind (wpAny_mkStr (wpAny_bind ?_) aY)
 unfold newExc newTuple
 refine wpAny_bind (wpAny_newObj_type ?_ (by size_fits))
 refine wpAny_bind (m:=firstArgMember _ _) (wpAny_of_eq (a:=Value.none) (by simp only [firstArgMember,attrError_no_first];rfl) ?_)
 refine B (ownMembersOf_AttributeError _) ?_
 refine wpAny_newObj_type ?_ (by size_fits)
 obtain⟨an,g,d,tk,os⟩:=s
 have ea:=sub_AttributeError
 have keep:∀(br fj:Obj) (f:Obj->Obj) b ob,an.get? b=some ob->Heap.get? (((an.push br).push fj).update (an.push br).objs.size f) b=some ob:=fun br fj f b ob ah=>by
  have cy:b<an.objs.size:=Heap.lt_size ah
  refine(Heap.get?_update_other _ _ ?_).trans (Heap.get?_push_of_some _ (Heap.get?_push_of_some _ ah))
  simp only [Heap.size_push]
  exact Nat.ne_of_gt (Nat.lt_succ_of_lt cy)
 repeat (any_goals (first|assumption|with_reducible (show wpAny _ _ (raiseNew _) _ _ _;fail_if_success skip)|wp_step))
 dsimp only
 refine LA (dw.keeps bx fun b _ o e=>keep _ _ _ b o e) (Heap.get?_update_self _ (Heap.get?_push_size _ rfl) rfl) rfl (by simp) (fun q=>Nat.lt_irrefl _ (Nat.lt_trans (Nat.lt_succ_self _) (by have:=cy _ q;simp only [Heap.size_push] at this;exact Nat.lt_of_lt_of_le this (Nat.le_refl _)))) fun h' ag aW=> ?_
 refine bb aW ?_;clear aW;intro hu ak ar
 refine h _ _ _ (fun b o ah=>ag b o (fun q=> ?_) (keep _ _ _ b o ah)) ⟨hu,ak,ar⟩
 have:=Heap.lt_size ah
 replace this:=q▸this
 simp only [Heap.size_push] at this
 exact absurd this (Nat.not_lt.mpr (Nat.le_succ _))
theorem Un {a:Addr} {xs:Array Value} {k:Nat} {name:Str} {u:Tok} {P:Fin->Shared->Prop} (bx:dw A s.heap) (ae:s.heap.get? a=some {cls:=.type "list",dict:=none,data:=.seq xs k,slots:= #[]})
  (t1:typeLookup (.type "list") name=pure none) (rW:(["__module__","__name__","__qualname__","__doc__","__annotations__"]:List Str).contains name=false)
  (h:∀h' tk e,(∀b o,s.heap.get? b=some o->h'.get? b=some o)->(∃ob,h'.get? e=some ob/\ob.cls=.type "AttributeError")->E (.ref e) {s with heap:=h',toks:=tk}) (dq:name.length+100<=sizeLine):
  wpAny (model aw w) A (Builtin.«object.__getattribute__» ⟨[.ref a,.str name u],[]⟩) P E s:=by
 obtain⟨an,g,d,tk,os⟩:=s
 have gQ:(⟨an,g,d,tk,os⟩:Shared).TypeIs (.ref a) "list":=⟨_,ae,rfl⟩
 unfold Builtin.«object.__getattribute__»
 repeat (any_goals (first|assumption|wp_step))
 refine wpAny_ite_false (decide_eq_false (by refine B rW ?_;exact Bool.false_ne_true)) ?_
 repeat (any_goals (first|assumption|wp_step))
 exact L0 bx h (attrMsg_fits (by decide+kernel) dq)
set_option maxHeartbeats 1000000 in
theorem JG {a:Addr} {xs:Array Value} {k:Nat} {name:Str} {Q:Option Value->Shared->Prop} (bx:dw A s.heap) (ae:s.heap.get? a=some {cls:=.type "list",dict:=none,data:=.seq xs k,slots:= #[]})
  (t1:typeLookup (.type "list") name=pure none) (rW:(["__module__","__name__","__qualname__","__doc__","__annotations__"]:List Str).contains name=false)
  (h:∀h' tk,(∀b o,s.heap.get? b=some o->h'.get? b=some o)->Q none {s with heap:=h',toks:=tk}) (dq:name.length+100<=sizeLine):
  wpAny (model aw w) A (getAttr? (.ref a) name) Q E s:=by
 have call:∀{s:Shared} {u:Tok} {Q:Value->Shared->Prop} {E:Value->Shared->Prop},dw A s.heap->s.heap.get? a=some {cls:=.type "list",dict:=none,data:=.seq xs k,slots:= #[]}->
   (∀h' tk e,(∀b o,s.heap.get? b=some o->h'.get? b=some o)->(∃ob,h'.get? e=some ob/\ob.cls=.type "AttributeError")->E (.ref e) {s with heap:=h',toks:=tk})->
   wpAny (model aw w) A (call (.builtin "list.__getattribute__") [.ref a,.str name u]) Q E s:=fun{s u Q E} bx ae h=>
  wpAny_call_entry F.slot_list_getattribute ⟨_,ae,rfl⟩ am_entry_list_getattribute (Un (A:=A.in1) bx ae t1 rW h dq) (F.args_list_getattribute_2 _ _)
 obtain⟨an,g,d,tk,os⟩:=s
 have gQ:∀lv,(⟨an,g,d,lv,os⟩:Shared).TypeIs (.ref a) "list":=fun _=>⟨_,ae,rfl⟩
 have ea:=sub_AttributeError
 have ht:=F.slot_list_getattribute.lookup
 have kY:=F.slot_list_getattribute.bind (.ref a)
 have pS:=am_list_getattr_none
 unfold getAttr? getAttrBy? getAttrBy
 repeat (any_goals (first|assumption|exact gQ _|(refine call bx ae fun h' lv e ag aW=> ?_;obtain⟨⟨c,V,YL,f0⟩,je,il⟩:=aW;simp only at il;subst il)|wp_step))
 exact h h' lv ag
end
end Mine
end
section
open PySem PySem.W PySem.Calls PyProof.Rows
namespace Mine
theorem Gf:entryFor table "dict.update.loop"=some Builtin.«dict.update.loop»:=entryFor_of_tree (by kernel_rfl)
theorem uK:plainId "dict.update.loop"=true:=by decide+kernel
section
variable{w:World} {CM:cn} {bj:dM} {F:Frag} {K:Top} {env:Env} {J:Scope} {A:Around} {ρ ρ₀ ρ':a5} {s c9 az:Shared} {fs fs':X} {R:bk}
noncomputable def CX (h:Heap) (vs:List Value) (aS:List (al×Value)):Prop:=
 vs.length=aS.length/\∀(j:Nat) v k x,vs[j]? =some v->aS[j]? =some (k,x)->∃t eD n,v=.ref t/\h.get? t=some (qC [eD,x] n)/\iq k eD=true
theorem Jo {per:List H} (ap:cK w CM K ρ s per) (l:List H):∀{vs:List Value} {ps:List (al×H)},Mine.pairsOf l=some ps->a8 w CM ρ l vs->∃aS,CX s.heap vs aS/\dV w CM ρ ps aS/\aS.length=ps.length:=by
 induction l with
 |nil=>intro vs ps q h;cases q;refine B (show vs=[] from h) ?_;exact⟨[],⟨rfl,fun j v k x e=>Z e⟩,rfl,rfl⟩
 |cons x r ih=>
  intro vs ps q h
  refine b5 q (fun k y ae q=>hC q (fun cY fJ ag aP q=>cC q ?_) Z) Z
  replace h:=(G9 ae)▸h
  obtain⟨v,t,rfl,⟨a,c1,n,rfl,f6,eD,Ra,rfl,q4,m8,zo,rfl,Mu,K4⟩,Y⟩:=h
  replace f6:=(show zo=[] from K4)▸f6
  refine et (ih aP Y) ?_;intro aS aC bR dK
  refine⟨(cY,m8)::aS,⟨congrArg (· +1) aC.1,fun j v k2 a2 ak ar=> ?_⟩,⟨m8,aS,rfl,Mu,bR⟩,congrArg (· +1) dK⟩
  cases j with
  |zero=>
   cases ak;cases ar
   exact⟨a,eD,n,rfl,ap.bK _ _ f6,cv.key (s:=s) (.gg q4) ag⟩
  |succ j=>exact aC.2 j v k2 a2 ak ar
theorem VH {E8:Result->Shared->Prop} {S I ax:Addr} {iU:Heap} {vs:List Value} {aS:List (al×Value)} (an:CX iU vs aS) (b1:ax≠I) (fB:I∉dS A) (sR:S≠I) (HP:S≠ax) (yc:S∉dS A)
  (KB:iU.get? S=none) (Bx:iU.get? I=none) (hz:aS.length<=sizeLine):
  ∀(m i:Nat) (s:Shared),aS.length-i=m->i<=aS.length->((s.heap.IsListIter I ax i/\s.heap.IsList ax (Array.mk vs))/\dw A s.heap)->(∀b o,iU.get? b=some o->s.heap.get? b=some o)->s.heap.DictOf (kk w) S (PySem.merged [] (aS.take i))->
  (∀h' tk,(∀b o,iU.get? b=some o->h'.get? b=some o)->h'.DictOf (kk w) S (PySem.merged [] aS)->E8 (.ok (.ret .none)) {s with heap:=h',toks:=tk})->
  codeAny (model aw w) A (.builtin "dict.update.loop" ⟨[.ref S,.ref I,rawInt (i:Int),.none],[]⟩) E8 s:=by
 have W:=yB (w:=w) (A:=A.in1) I ax b1 fB (Array.mk vs)
 have dq:(Array.mk vs).size=aS.length:=by simp [an.1]
 have td:S∉I::ax::dS A:=by simp only [List.mem_cons,not_or];exact⟨sR,HP,yc⟩
 intro m
 induction m with
 |zero=>
  intro i s aY aR eO ag hd f9
  have w3:i=aS.length:=by exact Lw aY aR
  subst w3
  refine codeAny_builtin Gf ?_
  refine B (Around.under_plainId uK _) ?_
  show wpAny _ A.in1 (pyNext (.ref I)>>=_) _ _ s
  replace eO:=(Eq.symm dq)▸eO
  refine wpAny_bind (W.done s _ _ eO fun h' tk eB=> ?_)
  replace hd:=List.take_length▸hd
  refine wpAny_bind (m:=Builtin.Dict.addKeywords S []) (wpAny_pure (wpAny_pure (f9 h' tk (fun b o e=>eB b o (fun q=> ?_) (ag b o e)) ?_)))
  ·(replace e:=(List.mem_singleton.mp q)▸e;replace e:=Bx▸e);exact Z e
  ·refine vd hd ?_;clear hd;intro o es cq cr r
   exact⟨o,es,cq,eB S o (fun q=>sR (List.mem_singleton.mp q)) cr,r⟩
 |succ m ih=>
  intro i s aY aR eO ag hd f9
  have cy:i<aS.length:=by exact Sc aY
  refine codeAny_builtin Gf ?_
  refine B (Around.under_plainId uK _) ?_
  show wpAny _ A.in1 (pyNext (.ref I)>>=_) _ _ s
  refine wpAny_bind (W.item i s _ _ (by refine B dq ?_;exact cy) eO fun v h' tk iQ it mS=> ?_)
  obtain⟨⟨k,x⟩,FK⟩:∃p,aS[i]? =some p:=⟨aS[i],List.getElem?_eq_getElem cy⟩
  refine dz (an.2 i v k x (by simpa using iQ) FK) ?_;intro t eD n u;subst u;intro aG hi
  have eB:∀b o,iU.get? b=some o->h'.get? b=some o:=fun b o e=>mS b o (fun q=>by(replace e:=(List.mem_singleton.mp q)▸e;replace e:=Bx▸e);exact Z e) (ag b o e)
  have CF:=eB _ _ aG
  have hD:h'.DictOf (kk w) S (PySem.merged [] (aS.take i)):=by
   refine vd hd ?_;clear hd;intro o es cq cr r
   exact⟨o,es,cq,mS S o (fun q=>sR (List.mem_singleton.mp q)) cr,r⟩
  refine wpAny_bind ?_
  refine wpAny_holding (wpAny_bind (wpAny_tryCatch ?_))
  unfold Builtin.Dict.pairItems
  refine wpAny_bind (wpAny_typeOf (T:="tuple") ⟨_,CF,rfl⟩ ?_)
  refine B (if_pos (by decide)) ?_
  refine wpAny_bind (wpAny_seqItems CF rfl (wpAny_pure ?_))
  dsimp only [Option.getD]
  have bC:(PySem.merged [] (aS.take i)).length<=sizeLine:=by
   have ak:=merged_length_le (K:=al) [] (aS.take i)
   have ar:(aS.take i).length<=aS.length:=by refine B List.length_take ?_;exact Q3
   simp only [List.length_nil,Nat.zero_add] at ak
   exact MN hz ar ak
  refine wpAny_holding (wpAny_dictSet_pairs (knd:=kk w) (s:={s with heap:=h',toks:=tk}) hi hD (fun vb pM uW=> ?_) bC)
  refine wpAny_pure ⟨plainId_quiet uK _,?_⟩
  have:=ih (i+1) {s with heap:=vb,toks:=tk+1} (by exact OF aY) cy (W.frame _ _ _ it fun b ah o e=>(uW.2 b (fun q=>td (q▸ah))).trans e) (fun b o e=>(uW.2 b (fun q=>by(replace e:=q▸e;replace e:=KB▸e);exact Z e)).trans (eB b o e))
   (by refine B (merged_take_succ [] aS i (k,x) FK) ?_;exact pM) (fun h' tk ag hd=>f9 h' tk ag hd)
  simpa using this
end
end Mine
end
section
open PySem PySem.W PySem.Calls PyProof.Rows
namespace Mine
section
variable{w:World} {CM:cn} {bj:dM} {F:Frag} {K:Top} {env:Env} {J:Scope} {A:Around} {ρ ρ₀ ρ':a5} {s c9 az:Shared} {fs fs':X} {R:bk}
theorem Hn (i7:∃ob,K.f.lookup sysModules=some ob) {l:List H} {ps:List (al×H)} {x:Value} (hz:l.length<=a4) (q:Mine.pairsOf l=some ps) (bc:f4 K A) (I:aK w CM K env J ρ s fs) (ae:cv w CM ρ s (.am l) x):
  wpAny (model aw w) A (call (.type "dict") [x]) (b4 w CM K env J ρ s fs (.own (.V (ps.foldl (fun d p=>cU p.1 p.2 d) []))) fs) cc s:=by
 refine dz (ae.am I.base) ?_;intro a vs n u;subst u;intro M O
 refine et (Jo I.base _ q O) ?_;intro aS an hd bC
 have ln:=Heap.lt_size M
 have cy:=o0 (I.base.mb bc)
 refine callType_codes (Q₁:=fun obj aj=>obj=.ref s.heap.objs.size/\aj={s with heap:=s.heap.push {cls:=.type "dict",data:=.dict #[]}}) F.kt_called_dict (F.kt_typeCall_dict_1 _) F.entry_dict_init (kt_code_dict_new _ ⟨rfl,rfl⟩) ?_
 rintro obj aj ⟨rfl,rfl⟩
 have hV:(s.heap.push {cls:=.type "dict",data:=.dict #[]}).DictOf (kk w) s.heap.objs.size []:=Heap.DictOf.new s.heap
 refine⟨hV.typeIs,F.args_dict_init_2 _ _,?_⟩
 unfold Builtin.«dict.__init__»
 refine wpAny_bind ?_
 unfold Builtin.Dict.selfAndRest
 refine wpAny_bind (wpAny_notOrdered_dict hV.typeIs ?_)
 show wpAny _ _ (pure (s.heap.objs.size,[Value.ref a])) _ _ _
 refine wpAny_pure ?_
 show wpAny _ _ (Builtin.Dict.updateFrom "dict.__init__" s.heap.objs.size (.ref a) [] .none) _ _ _
 unfold Builtin.Dict.updateFrom
 have yH:(s.heap.push {cls:=.type "dict",data:=.dict #[]}).get? a=some (mN vs n):=Heap.get?_push_of_some _ M
 refine wpAny_bind (wpAny_typeOf (T:="list") ⟨_,yH,rfl⟩ ?_)
 refine B (if_pos (by decide)) ?_
 have t1:typeLookup (.type "list") "keys"=pure none:=by(refine B (typeLookup_type _ _) ?_;refine B builtinLookup_eq_fast ?_);kernel_rfl
 have rW:(["__module__","__name__","__qualname__","__doc__","__annotations__"]:List Str).contains "keys"=false:=by decide+kernel
 have nP:dw A.in1.in1 (s.heap.push {cls:=.type "dict",data:=.dict #[]}):=dw.keeps (A:=A.in1.in1) (I.base.mb (A:=A) bc) fun b _ o e=>Heap.get?_push_of_some _ e
 refine wpAny_bind (JG (A:=A.in1.in1) nP yH t1 rW (fun h' tk ag=> ?_) (by refine B sizeLine_eq ?_;decide+kernel))
 refine B (if_pos (show(none:Option Value).isNone=true from rfl)) ?_
 refine wpAny_bind (wpAny_rule (wpAny_bind ?_))
 have DM:=ag _ _ yH
 refine wpAny_pyIter_list (fA DM) (wpAny_pure ⟨plainId_quiet uK _,?_⟩)
 have dq:s.heap.objs.size<h'.objs.size:=Heap.lt_size (ag _ _ (Heap.get?_push_size _ rfl))
 have mK:∀b o,s.heap.get? b=some o->(h'.push {cls:=.type "list_iterator",data:=.fields #[.ref a,.int 0 0]}).get? b=some o:=fun b o e=>Heap.get?_push_of_some _ (ag _ _ (Heap.get?_push_of_some _ e))
 have ra:s.heap.get? h'.objs.size=none:=by
  cases e:s.heap.get? h'.objs.size with
  |none=>rfl
  |some o=>exact absurd (Heap.lt_size e) (Nat.not_lt.mpr (Nat.le_of_lt dq))
 have Kg:(h'.push {cls:=.type "list_iterator",data:=.fields #[.ref a,.int 0 0]}).DictOf (kk w) s.heap.objs.size (PySem.merged [] (aS.take 0)):=by
  refine vd hV ?_;clear hV;intro o es cq cr r
  exact⟨o,es,cq,Heap.get?_push_of_some _ (ag _ _ cr),r⟩
 refine VH (A:=A.in1) (w:=w) (S:=s.heap.objs.size) (I:=h'.objs.size) (ax:=a) an (Nat.ne_of_lt (Nat.lt_trans ln dq)) (fun q=>absurd (cy _ q) (Nat.not_lt.mpr (Nat.le_of_lt dq))) (Nat.ne_of_lt dq) (Nat.ne_of_gt ln) (fun q=>Nat.lt_irrefl _ (cy _ q)) fd ra
  (by(refine bu an.1 ?_;refine B O.length ?_);exact Nat.le_trans hz ja) _ 0 {s with heap:=_,toks:=tk} rfl (Nat.zero_le _) ⟨⟨⟨_,Heap.get?_push_size _ rfl,rfl,rfl⟩,(fA DM).push _⟩,dw.keeps (A:=A) (I.base.mb (A:=A) bc) fun b _ o e=>mK b o e⟩ mK Kg fun vb lv Hu pM=> ?_
 refine⟨rfl,o8 (tk:=lv) I Hu fd ?_⟩
 refine p0 pM ?_;clear pM;intro ob d3 cq ak ar bP cW dn fe
 exact⟨ob,d3,cq,_,rJ i7 I fd,ak,ar,bP,cW,dn,fe,dV.merged hd rfl .nil⟩
end
end Mine
end
section
open PySem PySem.W PySem.Calls PyProof.Rows
namespace Mine
section
variable{w:World} {CM:cn} {bj:dM} {F:Frag} {K:Top} {env:Env} {J:Scope} {A:Around} {ρ ρ₀ ρ':a5} {s c9 az:Shared} {fs fs' fs₁:X} {R:bk}
theorem pz {id:String} (h:id∈["len","abs","sum","sorted","min","isinstance"]\/id∈["int","tuple","dict","range","reversed","bool","list"]):(Str.ofString id==("__debug__":Str))=false:=by
 have:∀id∈["len","abs","sum","sorted","min","isinstance"]++["int","tuple","dict","range","reversed","bool","list"],(Str.ofString id==("__debug__":Str))=false:=by decide+kernel
 exact this id (List.mem_append.mpr h)
theorem uP (bl:jS CM bj K.f) (S:cB w CM K env J A R) {id:String} {p pos:Pos} {e:Expr} {r r':aU} {v:H} (aY:id∈["len","abs","sum","sorted","min","isinstance"])
  (ae:J.names.lookup (Str.ofString id)=some .globalImplicit) (bZ:R.a9 e fs=some (r,fs₁)) (bn:fs₁.cF r=some v) (I:aK w CM K env J ρ s fs)
  (h:∀{ρ:a5} {s:Shared} {x:Value},aK w CM K env J ρ s fs₁->cv w CM ρ s v x->wpAny (model aw w) A (call (.builtin id) [x]) (b4 w CM K env J ρ s fs₁ r' fs₁) cc s):
  wpAny (model aw w) A (eval (.Call (.Name (Str.ofString id) p) [e] [] pos) env) (b4 w CM K env J ρ s fs r' fs₁) cc s:=by
 refine md (bl.l6 id aY) ae I (pz (.inl aY)) ?_
 exact callWith_builtin (u1 (f:=.builtin id) (Q:=fun _ _=>True) (E:=cc) S bZ I fun _ _ _ _ _ _ _=>trivial).1 (u1 S bZ I fun x aj aN aZ a0 bw aP=>iw a0 bw (h aZ (ie aZ aP bn))).2
theorem yh (bl:jS CM bj K.f) (S:cB w CM K env J A R) {id:String} {p pos:Pos} {e:Expr} {r r':aU} {v:H} (aY:id∈["int","tuple","dict","range","reversed","bool","list"])
  (ae:J.names.lookup (Str.ofString id)=some .globalImplicit) (bZ:R.a9 e fs=some (r,fs₁)) (bn:fs₁.cF r=some v) (I:aK w CM K env J ρ s fs)
  (h:∀{ρ:a5} {s:Shared} {x:Value},aK w CM K env J ρ s fs₁->cv w CM ρ s v x->wpAny (model aw w) A (call (.type id) [x]) (b4 w CM K env J ρ s fs₁ r' fs₁) cc s):
  wpAny (model aw w) A (eval (.Call (.Name (Str.ofString id) p) [e] [] pos) env) (b4 w CM K env J ρ s fs r' fs₁) cc s:=by
 refine md (bl.vo id aY) ae I (pz (.inr aY)) ?_
 exact PyProof.Rows.callWith_type (u1 (f:=.type id) (Q:=fun _ _=>True) (E:=cc) S bZ I fun _ _ _ _ _ _ _=>trivial).1 (u1 S bZ I fun x aj aN aZ a0 bw aP=>iw a0 bw (h aZ (ie aZ aP bn))).2
theorem Rn (bl:jS CM bj F) (bA:K.f=F) (bc:eh K k A) (S:cB w CM K env J A R) {f:Str} {p pos:Pos} {e:Expr} {r r':aU} {v:H}
  (ae:J.names.lookup f=some .globalImplicit) (bZ:R.a9 e fs=some (r,fs₁)) (bn:fs₁.cF r=some v) (ee:gH f v=some r') (I:aK w CM K env J ρ s fs):
  wpAny (model aw w) A (eval (.Call (.Name f p) [e] [] pos) env) (b4 w CM K env J ρ s fs r' fs₁) cc s:=by
 replace bl:=(Eq.symm bA)▸bl
 refine g2 ee (fun e q=> ?_) fun _ q=>g2 q (fun e q=> ?_) fun _ q=>g2 q (fun e q=> ?_) fun _ q=>g2 q (fun e q=> ?_) fun _ q=>g2 q (fun e q=> ?_) fun _ q=>g2 q (fun e q=> ?_) fun _ q=>cH q (fun e q=> ?_) Z
 ·rw [e] at ae|-;exact bG q (fun n h q=>cH q (fun hz q=>cC q (uP bl S (by decide) ae bZ bn I fun I ae=>SU h hz I ae)) Z) Z
 ·rw [e] at ae|-;exact yh bl S (by decide) ae bZ bn I fun I ae=>H0 q I ae
 ·rw [e] at ae|-;exact bG q (fun i h q=>cC q (uP bl S (by decide) ae bZ (jy h▸bn) I fun I ae=>Hq I ae)) Z
 ·rw [e] at ae|-;exact bG q (fun l h q=>bG q (fun ns M q=>cC q (uP bl S (by decide) ae bZ (sC h▸bn) I fun I ae=>J7 M bc.eH I ae)) Z) Z
 ·rw [e] at ae|-;exact bG q (fun l h q=>cH q (fun hz q=>uP bl S (by decide) ae bZ (yC h▸bn) I fun I ae=>U3 q hz bc.eH I ae) Z) Z
 ·rw [e] at ae|-;exact bG q (fun l h q=>cH q (fun hz q=>cC q (yh bl S (by decide) ae bZ (sC h▸bn) I fun I ae=>RG hz I ae)) Z) Z
 ·rw [e] at ae|-
  refine yh bl S (by decide) ae bZ bn I fun I ae=> ?_
  cases v with
  |V l=>exact cH q (fun hz q=>cC q (Nx bl.rH hz I ae)) Z
  |am l=>exact cH q (fun hz q=>bG q (fun ps an q=>cC q (Hn bl.rH hz an bc.eH I ae)) Z) Z
  |_=>exact Z q
theorem L6 (bl:jS CM bj F) (bA:K.f=F) (bc:eh K k A) (S:cB w CM K env J A R) {p pos:Pos} {args:List Expr} {a b:Int}
  (ae:J.names.lookup ("min":Str)=some .globalImplicit) (bZ:dk R args fs=some ([.int a,.int b],fs₁)) (I:aK w CM K env J ρ s fs):
  wpAny (model aw w) A (eval (.Call (.Name "min" p) args [] pos) env) (b4 w CM K env J ρ s fs (.U (.int (if b<a then b else a))) fs₁) cc s:=by
 subst bA
 refine md (bl.l6 "min" (by decide)) ae I (pz (.inl (by decide))) (Hj S bZ I fun be aj P=> ?_)
 refine gn P ?_;clear P;intro aN aZ a0 bw h
 obtain⟨mi,Zq,rfl,⟨t,rfl⟩,o1,SO,rfl,⟨u,rfl⟩,h⟩:=h
 refine B (show SO=[] from h) ?_
 exact iw a0 bw (KV bc.eH aZ)
theorem Sv (bl:pE CM bj F) (bA:K.f=F) (bc:eh K k A) (S:cB w CM K env J A R) {p tD pos:Pos} {e:Expr} {c:Str} {r:aU} {v:H} {b:Bool}
  (ae:J.names.lookup ("isinstance":Str)=some .globalImplicit) (bZ:R.a9 e fs=some (r,fs₁)) (bn:fs₁.cF r=some v) (ee:gF v c=some b) (hc:J.names.lookup c=some .globalImplicit) (I:aK w CM K env J ρ s fs):
  wpAny (model aw w) A (eval (.Call (.Name "isinstance" p) [e,.Name c tD] [] pos) env) (b4 w CM K env J ρ s fs (.U (.bool b)) fs₁) cc s:=by
 subst bA
 have fR:(rn.contains c||hJ.contains c)=true:=by
  unfold gF at ee
  refine cH ee ?_ Z;clear ee;intro _ ee
  assumption
 refine bT (bl.jg fR) ?_;intro eJ AH
 have qe:(c==("__debug__":Str))=false:=by
  cases h:(c==("__debug__":Str)) with
  |false=>rfl
  |true=>replace fR:=(beq_iff_eq.mp h)▸fR;exact absurd fR (by decide+kernel)
 have ak:starEach [e,.Name c tD] env=[(false,eval e env),(false,eval (.Name c tD) env)]:=by
  cases e with
  |Starred e p=>exact Z ((S.sj e p fs).symm.trans bZ)
  |_=>rfl
 refine md (bl.l6 "isinstance" (by decide)) ae I (pz (.inl (by decide))) ?_
 (refine B ak ?_;refine B uw ?_;refine B uw ?_)
 refine callWith_builtin rfl (evalArgs_plain ?_)
 refine spliced_cons (S.eN bZ I fun x aj aN aZ a0 bw aP=>spliced_cons ?_)
 exact nJ (bl.FU c eJ AH) hc aZ.c0 aZ.in qe (spliced_nil (iw a0 bw (Ot bl rfl ee AH aZ (ie aZ aP bn))))
end
end Mine
end
section
open PySem PySem.W PySem.Calls PyProof.Rows
namespace Mine
noncomputable def fD:List DictEntry->List (Str×Value)->Prop
 |[],l=>l=[]
 |e::r,l=>∃n t v c8,l=(n,v)::c8/\e.key=.str n t/\e.val=v/\fD r c8
noncomputable def qt (x:Str):List (Str×Value)->Option Value
 |[]=>none
 |(y,v)::r=>if x=y then some v else qt x r
theorem fD.y6 {nm:Str} {v:Value} {XS:Int} {t:Tok}:∀{es:List DictEntry} {l:List (Str×Value)},fD es l->fD (es++[⟨XS,.str nm t,v⟩]) (l++[(nm,v)])
 |[],l,h=>by refine B (show l=[] from h) ?_;exact⟨nm,t,v,[],rfl,rfl,rfl,rfl⟩
 |e::r,l,⟨n,dR,eY,c8,M,O,Y,aC⟩=>by refine B M ?_;exact⟨n,dR,eY,_,rfl,O,Y,fD.y6 aC⟩
theorem fD.u4:∀{es:List DictEntry} {l:List (Str×Value)},fD es l->es.any (·.refKey)=false
 |[],_,_=>rfl
 |e::r,l,⟨n,dR,eY,c8,M,O,Y,aC⟩=>by
  obtain⟨hs,key,val⟩:=e
  dsimp only at O
  subst O
  (refine B List.any_cons ?_;refine B (fD.u4 aC) ?_);rfl
theorem CO {n nm:Str} {t:Tok}:(Value.str n t).isStr nm=decide (n=nm):=by
 show(n==nm)=_
 by_cases h:n=nm<;>simp [h]
theorem fD.fresh {nm:Str}:∀{es:List DictEntry} {l:List (Str×Value)},fD es l->nm∉l.map (·.1)->∀e∈es,e.key.isStr nm=false
 |[],_,_,_=>fun e h=>nomatch h
 |e::r,l,⟨n,dR,eY,c8,M,O,Y,aC⟩,aE=>fun cg aW=>by
  subst M
  rcases List.mem_cons.mp aW with rfl|aW
  ·(refine B O ?_;refine B CO ?_);exact decide_eq_false (fun q=>aE (by refine B q ?_;exact List.mem_cons_self))
  ·exact fD.fresh aC (fun q=>aE (List.mem_cons_of_mem _ q)) cg aW
theorem fD.nf {nm:Str} {n:Nat}:∀{es:List DictEntry} {l:List (Str×Value)},fD es l->lookIn nm (dictOf es n)=some (qt nm l):=by
 intro es l h
 refine B (lookIn_dict _ _ _) ?_
 unfold PySem.W.getL
 have aP:=h.u4
 induction es generalizing l with
 |nil=>refine B (show l=[] from h) ?_;rfl
 |cons e r ih=>
  refine xe h ?_;clear h;intro i5 dR eY c8 M O Y aC
  subst M
  (refine B List.find?_cons ?_;refine B O ?_;refine B CO ?_)
  unfold qt
  by_cases q:i5=nm
  ·subst q;simp [Y]
  ·have cL:¬nm=i5:=fun e=>q e.symm
   (refine B (decide_eq_false q) ?_;refine B (if_neg cL) ?_)
   replace aP:=List.any_cons▸aP
   simp only [Bool.or_eq_false_iff] at aP
   have:=ih aC aP.2
   simp only [List.any_cons,aP.1,Bool.false_or] at this|-
   exact this
structure yi (h:Heap) (x dx C:Addr) (es:List DictEntry) (n:Nat):Prop where
 gy:h.get? x=some (instObj C dx)
 V:h.get? dx=some (dictOf es n)
structure se (F:Frag) (C:Addr):Prop where
 hs:findIn F (.ref C) "__setattr__"=some (some (.builtin "object.__setattr__"))
 an:plainOver F C=true
 hd:hasDictIn F C=true
section
variable{w:World} {CM:cn} {bj:dM} {F:Frag} {K:Top} {env:Env} {J:Scope} {A:Around} {E:Value->Shared->Prop} {ρ ρ₀ ρ':a5} {s c9 az:Shared} {fs fs' fs₁:X} {R:bk}
theorem FI {x dx C:Addr} {es:List DictEntry} {n:Nat} {nm:Str} {v:Value} {l:List (Str×Value)} {Q:Unit->Shared->Prop} (av:F.In s.heap) (cj:se F C) (aG:takerIn F C nm=some none)
  (I:yi s.heap x dx C es n) (aB:fD es l) (aE:nm∉l.map (·.1)) (hz:es.length<1000)
  (h:∀h' d3,Heap.SameBut dx s.heap h'->h'.get? dx=some (dictOf d3 (n+1))->fD d3 (l++[(nm,v)])->d3.length=es.length+1->Q () {s with heap:=h',toks:=s.toks+2}):
  wpAny (model aw w) A (setAttr (.ref x) nm v) Q E s:=by
 have In:InstAt s.heap x (instObj C dx) C (some (dictOf es n)):=⟨I.gy,rfl,rfl,I.V⟩
 refine set_plain av In cj.hs (osa_open (s:={s with toks:=s.toks+1}) av In cj.an aG fun b=> ?_)
 have sM:=cj.hd
 refine bb (any_some sM) ?_;intro cd hc hD
 have D:=I.V
 have ak:es.any (·.key.isStr nm)=false:=by
  cases q:es.any (·.key.isStr nm) with
  |false=>rfl
  |true=>obtain⟨e,aW,z⟩:=List.any_eq_true.mp q;replace z:=(aB.fresh aE e aW)▸z;cases z
 have e:Obj.putName nm (PyData.keyHash w.params nm) (.str nm (s.toks+1)) v (dictOf es n)=dictOf (es++[⟨PyData.keyHash w.params nm,.str nm (s.toks+1),v⟩]) (n+1):=by
  (rw [putName_dict];refine B (putL_new (aB.fresh aE)) ?_)
  show dictOf _ (if es.any (·.key.isStr nm) then n else n+1)=_
  (refine B ak ?_;refine B (if_neg Bool.false_ne_true) ?_;rfl)
 refine wpAny_bind (wpAny_pure (wpAny_bind (wpAny_bind (wpAny_loadPart I.gy (wpAny_bind (Looks.here (s:={s with toks:=s.toks+1}) (looks_clsIn av hc) ?_))))))
 refine B hD ?_
 refine wpAny_pure (a:=some dx) (wpAny_bind (wpAny_pure (wpAny_bind ?_)))
 unfold nsSet
 refine wpAny_bind (wpAny_bind (wpAny_askSetting (wpAny_pure (wpAny_bind (wpAny_mkText (wpAny_bind (wpAny_loadPart D ?_)))))))
 dsimp only
 have c:aRefKeyMayBeTheName nm es.toArray=false:=by
  (refine B (aRefKeyMayBeTheName_at _ _) ?_;refine bu Array.any_toList ?_;refine bu Array.any_toList ?_)
  show(!es.any (·.key.isStr nm)&&es.any (·.refKey))=false
  (refine B aB.u4 ?_;refine B (Bool.and_false _) ?_;rfl)
 refine B c ?_
 refine wpAny_updatePart D ?_
 have qZ:(s.heap.update dx (Obj.putName nm (PyData.keyHash w.params nm) (.str nm (s.toks+1)) v)).get? dx=some (dictOf (es++[⟨PyData.keyHash w.params nm,.str nm (s.toks+1),v⟩]) (n+1)):=by
  have:=Heap.get?_update_self (Obj.putName nm (PyData.keyHash w.params nm) (.str nm (s.toks+1)) v) D (by refine B e ?_;rfl)
  replace this:=e▸this;exact this
 refine wpAny_bind (wpAny_lookBehind qZ (pastItsLine_dict (by(refine B List.size_toArray ?_;refine B List.length_append ?_;refine B List.length_cons ?_;refine B List.length_nil ?_;refine B sizeLine_eq ?_);exact Dp hz)) ?_)
 exact wpAny_pure (h _ _ (Heap.SameBut.update ..) qZ aB.y6 (by simp))
noncomputable def jc (w:World) (CM:cn) (ρ:a5):List (Str×H)->List (Str×Value)->Prop
 |[],l=>l=[]
 |(n,x)::r,l=>∃v t,l=(n,v)::t/\bY w CM ρ x v/\jc w CM ρ r t
theorem jc.bt (aB:∀a ob,ρ a=.bf ob->ρ' a=.bf ob) (an:∀a k,ρ a=.per k->ρ' a=.per k):∀{l:List (Str×H)} {m:List (Str×Value)},jc w CM ρ l m->jc w CM ρ' l m
 |[],_,h=>h
 |(_,_)::_,_,⟨v,t,M,O,Y⟩=>⟨v,t,M,O.bt aB an,jc.bt aB an Y⟩
theorem jc.none:∀{l:List (Str×H)} {m:List (Str×Value)} {n:Str},jc w CM ρ l m->iC n l=none->qt n m=none
 |[],_,_,h,_=>by refine B (show _=[] from h) ?_;rfl
 |(k,x)::r,_,n,⟨v,t,M,O,Y⟩,q=>by
  refine B M ?_
  unfold iC at q
  unfold qt
  split at q
  ·exact h3 q
  ·rename_i b1;refine B (if_neg b1) ?_;exact jc.none Y q
theorem jc.Gv:∀{l:List (Str×H)} {m:List (Str×Value)} {f:Str->Option Value},jc w CM ρ l m->(l.map (·.1)).Nodup->(∀n,n∈l.map (·.1)->f n=qt n m)->kr w CM ρ l f
 |[],_,_,_,_,_=>trivial
 |(k,x)::r,_,f,⟨v,t,M,O,Y⟩,aE,aB=>by
  subst M
  refine cl (List.nodup_cons.mp aE) ?_;intro k7 ky
  refine⟨⟨v,by refine B (aB k List.mem_cons_self) ?_;exact if_pos rfl,O⟩,jc.Gv Y ky fun n aY=> ?_⟩
  refine B (aB n (List.mem_cons_of_mem _ aY)) ?_
  exact if_neg (fun q:n=k=>k7 (q▸aY))
theorem bY.Fd {c:Str} {C x dx:Addr} {es:List DictEntry} {n:Nat} {l:List (Str×H)} {m:List (Str×Value)} (hc:CM c=some C) (ae:ρ x=.bf (instObj C dx)) (hd:ρ dx=.bf (dictOf es n)) (aB:fD es m) (aP:jc w CM ρ l m) (aE:(l.map (·.1)).Nodup):
  bY w CM ρ (.dT c l) (.ref x):=by
 refine⟨x,dx,dictOf es n,C,rfl,hc,ae,hd,fun k q=> ?_,aP.Gv aE fun k _=> ?_⟩
 ·(refine B aB.nf ?_;refine B (aP.none q) ?_;rfl)
 ·refine B aB.nf ?_;rfl
theorem e4.hU {a:Addr} {h':Heap} {y:Str} {v:Value} (q:e4 env J s.heap y v) (I:aK w CM K env J ρ s fs) (hd:ρ a=.aV) (eG:∀x c,J.names.lookup x=some .free->env.cells.lookup x=some c->c≠a) (hs:Heap.SameBut a s.heap h'):e4 env J h' y v:=by
 rcases q with⟨bV,cE,m,cX,dU⟩|⟨bV,cE,c,cX,dU⟩
 ·exact .inl ⟨bV,cE,m,cX.sameBut hs (d7 I.cJ hd),dU⟩
 ·refine .inr ⟨bV,cE,c,cX,dU.sameBut hs ?_⟩
  rcases bV with bV|bV
  ·intro q
   refine dP (I.cells y bV) ?_;intro c' eY cP dG _
   replace cP:=cX▸cP;cases cP
   (replace dG:=q▸dG;replace dG:=hd▸dG);cases dG
  ·exact eG y c bV cX
theorem e4.eval {y:Str} {v:Value} {pos:Pos} {Q:Value->Shared->Prop} (M:e4 env J s.heap y v) (h1:nY env J) (hd:(y==("__debug__":Str))=false) (h:Q v s):wpAny (model aw w) A (eval (.Name y pos) env) Q E s:=by
 rcases M with⟨bV,cE,m,cX,dU⟩|⟨bV,cE,c,cX,dU⟩
 ·exact wpAny_Name (wpAny_loadName_local h1.kind cE cX dU h) hd
 ·exact wpAny_Name (wpAny_loadName_cell h1.kind cE cX dU h) hd
noncomputable def u8:List Str->List Stmt->Prop
 |[],b=>b=[]
 |n::r,b=>∃gU hB iN jU t,b=.Assign [.Attribute (.Name "self" gU) n hB] (.Name n iN) jU::t/\u8 r t
theorem Vd {n:Str} {p:Pos} {t:Option Expr} {k:Nat}:swapsWith (.Name n p) t k env=pure false:=rfl
theorem F1 {x dx C:Addr} (cj:se F C) (bA:K.f=F) (ae:ρ x=.aV) (mr:ρ dx=.aV) (b1:x≠dx) (eG:∀x c,J.names.lookup x=some .free->env.cells.lookup x=some c->c≠dx):
  ∀{na:List (Str×H)} {body:List Stmt} {s:Shared} {es:List DictEntry} {n:Nat} {l:List (Str×Value)},u8 (na.map (·.1)) body->aK w CM K env J ρ s fs->e4 env J s.heap "self" (.ref x)->yi s.heap x dx C es n->fD es l->
  (∀p∈na,getL p.1 fs.loc=some (.U p.2))->(∀p∈na,takerIn F C p.1=some none)->(∀p∈na,(p.1==("__debug__":Str))=false)->(na.map (·.1)).Nodup->(∀p∈na,p.1∉l.map (·.1))->es.length+na.length<1000->
  wpAny (model aw w) A (execs body env) (fun f az=>f=.next/\∃h' tk d3 i5 m,az={s with heap:=h',toks:=tk}/\Heap.SameBut dx s.heap h'/\aK w CM K env J ρ az fs/\h'.get? dx=some (dictOf d3 i5)/\fD d3 (l++m)/\jc w CM ρ na m) E s
 |[],body,s,es,n,l,ah,I,ay,aP,aB,_,_,_,_,_,_=>by
  refine B (show body=[] from ah) ?_
  exact wpAny_execs_nil ⟨rfl,s.heap,s.toks,es,n,[],rfl,Heap.SameBut.refl ..,I,aP.V,by refine B (List.append_nil _) ?_;exact aB,rfl⟩
 |(k,y)::na,body,s,es,n,l,⟨gU,hB,iN,jU,t,ah,kU⟩,I,ay,aP,aB,bi,aG,qe,iF,ec,hz=>by
  subst ah
  refine bb (I.eW k _ (bi _ List.mem_cons_self)) ?_;intro v MG sD
  refine wpAny_execs_cons (plainObj_wpAny_Assign_Attribute (hs:=Vd) (MG.eval I.c0 (qe _ List.mem_cons_self) (ay.eval I.c0 (by decide+kernel) ?_)))
  refine FI (bA▸I.in) cj (aG _ List.mem_cons_self) aP aB (ec _ List.mem_cons_self) (by simp only [List.length_cons] at hz;exact v4 hz) fun h' d3 hs hD m2 o4=> ?_
  have hq:aK w CM K env J ρ {s with heap:=h',toks:=s.toks+2} fs:=I.hU mr eG hs (by refine B hD ?_;nofun)
  have Fu:=List.nodup_cons.mp iF
  refine wpAny_mono (F1 cj bA ae mr b1 eG (s:={s with heap:=h',toks:=s.toks+2}) kU hq (ay.hU I mr eG hs) ⟨(hs.2 x b1).trans aP.gy,hD⟩ m2 (fun p an=>bi p (List.mem_cons_of_mem _ an)) (fun p an=>aG p (List.mem_cons_of_mem _ an))
   (fun p an=>qe p (List.mem_cons_of_mem _ an)) Fu.2 (fun p an q=> ?_) (by simp only [List.length_cons] at hz;exact Qt hz o4)) (fun f az P=> ?_) fun _ _ f=>f
  ·replace q:=List.map_append▸q
   rcases List.mem_append.mp q with q|q
   ·exact ec p (List.mem_cons_of_mem _ an) q
   ·exact Fu.1 (List.mem_map.mpr ⟨p,an,by simpa using q⟩)
  ·obtain⟨rfl,vb,tk,VG,Uu,m,rfl,uW,Vr,pM,SA,Ki⟩:=P
   exact⟨rfl,vb,tk,VG,Uu,(k,v)::m,rfl,hs.trans uW,Vr,pM,by refine B (List.append_cons _ _ _) ?_;exact SA,v,m,rfl,sD,Ki⟩
end
end Mine
end
section
open PySem PySem.W PySem.Calls PyProof.Rows
namespace Mine
structure oH (F:Frag) (C:Addr) (names:List Str):Prop where
 tm:makesIn F C=true
 ao:se F C
 tk:∀n∈names,takerIn F C n=some none
 init:∃ao fI ob bL,findIn F (.ref C) "__init__"=some (some (.ref fI))/\typeIn F (.ref fI)=some (.type "function")/\ka F ao fI ob bL/\bL.defaults=.none/\params ao=("self":Str)::names/\u8 names (g5 ao)
 keep:keepIn F (.ref C)=true
 ex:names.Nodup
 fu:names.length<900
 Qj:∀n∈names,(n==("__debug__":Str))=false
structure xk (CM:cn) (bj:dM) (F:Frag):Prop extends pE CM bj F where
 AO:∀c names,jz c=some names->∃C,CM c=some C/\hF F c=some (.ref C)/\oH F C names/\(c==("__debug__":Str))=false
theorem Ow (names:List Str):∀{vs:List H} {l:List (Str×H)},qo names vs=some l->jo names vs=some (l.map fun p=>(p.1,.U p.2))/\l.map (·.1)=names/\l.length=names.length:=by
 induction names with
 |nil=>
  intro vs l q
  cases vs with
  |nil=>cases q;exact⟨rfl,rfl,rfl⟩
  |cons _ _=>exact Z q
 |cons x r ih=>
  intro vs l q
  cases vs with
  |nil=>exact Z q
  |cons v t=>
   refine bG q (fun c8 M q=>cC q ?_) Z
   refine⟨?_,congrArg (x:: ·) (ih M).2.1,congrArg (· +1) (ih M).2.2⟩
   show br (jo r t) _=_
   refine B ((ih M).1) ?_;rfl
theorem Rv (l:List (Str×H)):(l.map (·.1)).Nodup->∀p∈l,Mine.getL p.1 (l.map fun p=>(p.1,cf.U p.2))=some (.U p.2):=by
 induction l with
 |nil=>intro _ p an;exact(List.not_mem_nil an).elim
 |cons k r ih=>
  intro aE p an
  refine cl (List.nodup_cons.mp aE) ?_;intro M O
  rcases List.mem_cons.mp an with e|an
  ·refine B e ?_;exact if_pos rfl
  ·exact(if_neg (fun q=>M (List.mem_map.mpr ⟨p,an,q⟩))).trans (ih O p an)
theorem T3 (C:Addr) (l:List Value) (kw:List (Str×Value)):(Code.builtin "type.__call__" ⟨.ref C::l,kw⟩).weight=1:=by rfl
theorem vR {k:Nat} (A:Around) (C:Addr) (l:List Value) (kw:List (Str×Value)):(A.under (.builtin "type.__call__" ⟨.ref C::l,kw⟩)).depth<=A.depth+2*k+8:=by
 show A.depth+(Code.builtin "type.__call__" _).weight<=_
 (refine B (T3 _ _ _) ?_;refine B (Nat.add_assoc _ _ _) ?_);exact Nat.add_le_add_left (Nat.le_trans (by decide:1<=8) (Nat.le_add_left _ _)) _
section
variable{w:World} {CM:cn} {bj:dM} {F:Frag} {K:Top} {env:Env} {J:Scope} {A:Around} {E:Value->Shared->Prop} {ρ ρ₀ ρ':a5} {s c9 az:Shared} {fs fs' fs₁:X} {R:bk}
theorem oX {a:Addr} (h:ρ a=.aV):bo ρ a=.aV:=congrArg e2 h
theorem Ol {k:Nat} (bl:pP CM bj F) (bA:K.f=F) (bc:eh K k A) {c:Str} {C:Addr} {names:List Str} (cj:CM c=some C) (eZ:oH F C names) {vs:List H} {l:List (Str×H)} (hz:qo names vs=some l)
  (I:aK w CM K env J ρ s fs) {be:List Value} (ay:a8 w CM ρ vs be):
  wpAny (model aw w) A (call (.ref C) be) (b4 w CM K env J ρ s fs (.U (.dT c l)) fs) E s:=by
 obtain⟨ao,fI,ob,bL,aR,zl,bU,ro,gw,rS⟩:=eZ.init
 refine ef (Ow _ hz) ?_;intro CD po bC
 have e3:F.In s.heap:=bA▸I.in
 have j4:ρ (s.heap.objs.size+1)=.free:=(I.base.c2 _).mpr (by
  cases e:s.heap.get? (s.heap.objs.size+1) with
  |none=>rfl
  |some ob=>exact absurd (Heap.lt_size e) (Nat.not_lt.mpr (Nat.le_succ _)))
 have iZ:ρ s.heap.objs.size=.free:=(I.base.c2 _).mpr fd
 refine wpAny_call (make_core (makes_of e3 eZ.tm) (looks_findIn e3 aR) (fun self=>bind_fn e3 self zl) (.inl rfl) ?_)
 have iO:∀b o,s.heap.get? b=some o->((s.heap.push emptyDict).push (instObj C s.heap.objs.size)).get? b=some o:=fun b o e=>Heap.get?_push_of_some _ (Heap.get?_push_of_some _ e)
 generalize nP:(s.heap.push emptyDict).push (instObj C s.heap.objs.size)=M at iO
 have jH:M.get? (s.heap.objs.size+1)=some (instObj C s.heap.objs.size):=by(refine bu nP ?_;refine bu (Heap.size_push s.heap emptyDict) ?_);exact Heap.get?_push_size _ rfl
 have ox:M.get? s.heap.objs.size=some emptyDict:=by refine bu nP ?_;exact Heap.get?_push_of_some _ (Heap.get?_push_size _ rfl)
 have oU:bo ρ (s.heap.objs.size+1)=.free:=gY.mpr j4
 have hK:bo ρ s.heap.objs.size=.free:=gY.mpr iZ
 have ei:a1 (bo ρ) s (bQ (bo ρ) M) {s with heap:=M}:=a1.dD (tk:=s.toks) iO
 have oZ:cK w CM K (bQ (bo ρ) M) {s with heap:=M} fs.per:=I.base.bo.dD (tk:=s.toks) iO
 have lR:iJ (bQ (bo ρ) M):=fun a=>⟨fun x q=>(ig ρ a).1 x (f8.mp q),fun q=>(ig ρ a).2.1 (nZ.mp q),fun q=>(ig ρ a).2.2 (o9.mp q)⟩
 have k4:bQ (bo ρ) M (s.heap.objs.size+1)=.aV:=gR oU jH
 have km:bQ (bo ρ) M s.heap.objs.size=.aV:=gR hK ox
 have i4:F.In M:=fun b x e=>iO _ _ (e3 b x e)
 have h4:a8 w CM (bQ (bo ρ) M) vs be:=ay.bo.bt ei.bK ei.per
 have zD:=ay.length
 have fz:(Value.ref (s.heap.objs.size+1)::be).length=(params ao).length:=by
  (refine B gw ?_;refine B List.length_cons ?_;refine B List.length_cons ?_;refine B zD ?_;refine bu (Ag _ CD) ?_;rfl)
 have hi:=rj _ fz.symm
 refine codeAny_call_cells (s:={s with heap:=M}) (Nat.lt_of_le_of_lt (vR (k:=k) A _ _ _) bc.depth) (i4 _ _ bU.gy) bU.data (bl.sb _ i4) (codeRec_of i4 bU.code) bU.body (bU.bind _ fz ro) bU.uu (fun y aQ=> ?_) (fun aj x=> ?_) (by refine B bU.scope ?_;exact bU.J.tz) (by refine B bU.scope ?_;exact bU.J.gen) (by refine B bU.scope ?_;exact bU.J.kind)
 ·have:y.1∈params ao:=by refine bu hi ?_;exact List.mem_map.mpr ⟨_,aQ,rfl⟩
  refine B bU.scope ?_
  rcases bU.J.par _ this with q|q
  ·exact .inl q
  ·exact .inr ⟨q,bU.J.fb _ _ q⟩
 ·have us:(("self":Str),Value.ref (s.heap.objs.size+1))∈(params ao).zip (Value.ref (s.heap.objs.size+1)::be):=by refine B gw ?_;exact List.mem_cons_self
  have a3:=ut (w:=w) (CM:=CM) (K:=K) (loc:=l.map fun p=>(p.1,cf.U p.2)) (ρ:=bQ (bo ρ) M) bU fz.symm (fun y bh g=>by
   refine dP (GA _ CD h4 g) ?_;intro z v ak ar bP
   exact⟨z,v,ak,by refine B gw ?_;exact List.mem_cons_of_mem _ ar,bP⟩) oZ lR rfl x
  have WD:=mQ bU fz.symm rfl x us
  have mI:=bU.J
  obtain⟨o3,gA,u3⟩:=a3
  have oR:=gA.aV _ k4
  have n6:=gA.aV _ km
  refine wpAny_mono (F1 (K:={K with frames:=(callEnvC bL M.objs.size fI).locals::K.frames}) (E:=fun _ _=>False) (fs:=⟨l.map fun p=>(p.1,cf.U p.2),fs.per⟩) (C:=C) (dx:=s.heap.objs.size) (es:=[]) (n:=0) (l:=[]) (na:=l) eZ.ao bA oR n6 (Nat.succ_ne_self _) (fun y c M O=>absurd M (mI.c2 y)) (by refine B po ?_;exact rS) o3 WD ⟨gA.keep _ _ k4 jH,gA.keep _ _ km ox⟩ rfl
   (Rv _ (by refine B po ?_;exact eZ.ex)) (fun p an=>eZ.tk _ (by refine bu po ?_;exact List.mem_map.mpr ⟨p,an,rfl⟩)) (fun p an=>eZ.Qj _ (by refine bu po ?_;exact List.mem_map.mpr ⟨p,an,rfl⟩)) (by refine B po ?_;exact eZ.ex) (fun p an=>by simp) (by refine B bC ?_;have:=eZ.fu;simp only [List.length_nil];exact Pu this)) (fun f az P=> ?_) fun _ _ f=>f.elim
  obtain⟨rfl,h',tk,d3,i5,m,rfl,hs,hq,hD,m2,Nz⟩:=P
  refine⟨rfl,?_⟩
  have og:cp w CM {K with frames:=(callEnvC bL M.objs.size fI).locals::K.frames} (callEnvC bL M.objs.size fI) (bO ao) (bo ρ) s _ {aj with heap:=h',toks:=tk} ⟨l.map fun p=>(p.1,cf.U p.2),fs.per⟩:=
   ⟨hq,(ei.trans gA).hU hK hs,fun a y e=>ei.ic _ (u3 a y e)⟩
  refine ef (cp.uF (K:=K) (K':={K with frames:=(callEnvC bL M.objs.size fI).locals::K.frames}) rfl rfl (fun L h=>List.mem_cons_of_mem _ h) og (ig ρ)) ?_;intro cP dG lD
  refine ef (I.rT cP dG lD) ?_;intro e6 ll lG
  have Zb:=m2
  replace m2:=(List.nil_append _)▸m2
  have xY:fh ρ (bo (h7 (bQ (bo ρ) M) aj.heap (callEnvC bL M.objs.size fI).locals (callEnvC bL M.objs.size fI).cells)) (s.heap.objs.size+1)=.aV:=(kD oU).trans (oX oR)
  have xS:fh ρ (bo (h7 (bQ (bo ρ) M) aj.heap (callEnvC bL M.objs.size fI).locals (callEnvC bL M.objs.size fI).cells)) s.heap.objs.size=.aV:=(kD hK).trans (oX n6)
  have q1:h'.get? (s.heap.objs.size+1)=some (instObj C s.heap.objs.size):=(hs.2 _ (Nat.succ_ne_self _)).trans (gA.keep _ _ k4 jH)
  have xV:=e6.fO (ob:=instObj C s.heap.objs.size) xY (h5 I j4) q1
  have lE:=xV.fO (a:=s.heap.objs.size) (ob:=dictOf d3 i5) ((bq (Nat.ne_of_lt (Nat.lt_succ_self _))).trans xS) (h5 I iZ) hD
  refine⟨_,lE,(ll.fO j4).fO iZ,(lG.fO j4).fO iZ,?_⟩
  refine bY.Fd cj ((bq (Nat.succ_ne_self _)).trans dJ) dJ m2 (Nz.bt (fun b o e=> ?_) fun b o e=> ?_) (by refine B po ?_;exact eZ.ex)
  ·have ah:b≠s.heap.objs.size+1:=fun q=>by(replace e:=q▸e;replace e:=oR▸e);cases e
   have kU:b≠s.heap.objs.size:=fun q=>by(replace e:=q▸e;replace e:=n6▸e);cases e
   (refine B (bq kU) ?_;refine B (bq ah) ?_)
   exact(pj dG).1 _ _ (lT.mpr e)
  ·have ah:b≠s.heap.objs.size+1:=fun q=>by(replace e:=q▸e;replace e:=oR▸e);cases e
   have kU:b≠s.heap.objs.size:=fun q=>by(replace e:=q▸e;replace e:=n6▸e);cases e
   (refine B (bq kU) ?_;refine B (bq ah) ?_)
   exact(pj dG).2 _ _ (o2.mpr e)
theorem MY {k:Nat} (bl:xk CM bj F) (bA:K.f=F) (bc:eh K k A) (S:cB w CM K env J A R) {f:Str} {p pos:Pos} {args:List Expr} {names:List Str} {vs:List H} {l:List (Str×H)}
  (ae:J.names.lookup f=some .globalImplicit) (aR:jz f=some names) (bZ:dk R args fs=some (vs,fs₁)) (hz:qo names vs=some l) (I:aK w CM K env J ρ s fs):
  wpAny (model aw w) A (eval (.Call (.Name f p) args [] pos) env) (b4 w CM K env J ρ s fs (.U (.dT f l)) fs₁) cc s:=by
 subst bA
 refine gn (bl.AO f names aR) ?_;intro C cj bi eZ qe
 refine md bi ae I qe (Gc S eZ.keep bZ I fun be aj P=> ?_)
 refine gn P ?_;clear P;intro aN aZ a0 bw gB
 exact wpAny_mono (Ol bl.topE.tojS.tos9.topP rfl bc cj eZ hz aZ gB) (fun v ct P=>P.trans a0 bw) fun _ _ f=>f
end
end Mine
end
section
open PySem PySem.W PySem.Calls PyProof.Rows
namespace Mine
section
variable{prog:Program} {w:World} {A:Around} {s:Shared}
theorem A6 {R:Result->Shared->Prop} {a:Addr} {o:Obj} {bL:FuncData} {body:List Stmt} {be:List Value} {vp:List (Str×Value)}
  (LR:A.depth<recursionLimit) (cr:s.heap.get? a=some o) (Se:o.data=.func bL) (QK:s.heap.NoLimit) (sM:s.heap.CodeRec bL.code bL.qualname)
  (rS:bL.body=.stmts body) (rc:BindsTo s bL ⟨be,[]⟩ vp) (PQ:bL.closure=[])
  (k9:∀x∈vp,bL.scope.names.lookup x.1=some .local\/(bL.scope.names.lookup x.1=some .cell/\((cellsFrom (s.heap.objs.size+1) bL.scope.names []).lookup x.1).isSome=true))
  (h:∀aj,InCallC s (callEnvC bL s.heap.objs.size a).locals (bindL (callEnvC bL s.heap.objs.size a).kindOf vp fun _=>none) (callEnvC bL s.heap.objs.size a).cells
    (bindC (callEnvC bL s.heap.objs.size a).kindOf vp fun _=>none) aj->
   wpAny (model prog w) (A.deeper (callEnvC bL s.heap.objs.size a)) (execs body (callEnvC bL s.heap.objs.size a)) (fun f az=>R (.ok (.ret (match f with|.ret v=>v|_=>.none))) az)
    (fun e az=>wpAny (model prog w) (A.deeper (callEnvC bL s.heap.objs.size a)) (leaving (callEnvC bL s.heap.objs.size a) e) (fun _ uJ=>R (.error e) uJ) (fun cg uJ=>R (.error cg) uJ) az) aj)
  (JA:bL.scope.isCoroutine=false) (W9:bL.scope.isGenerator=false) (ag:bL.scope.kind=.function):
  codeAny (model prog w) A (.call (.ref a) ⟨be,[]⟩) R s:=by
 refine codeAny_call_function LR cr Se JA W9 rS sM (rc _ _ _ _ ?_)
 refine B PQ ?_
 refine wpAny_newFunctionEnv_cells ag k9 fun env aW az x=> ?_
 subst aW
 exact⟨QK.keeps x.toInCall.keep,codeAny_func (h az x)⟩
end
section
variable{w:World} {CM:cn} {bj:dM} {F:Frag} {K:Top} {env:Env} {J:Scope} {A:Around} {E:Value->Shared->Prop} {ρ ρ₀ ρ':a5} {s c9 az:Shared} {fs fs' fs₁:X} {R:bk}
theorem cK.nr {per:List H} {a:Addr} {v:H} (ap:cK w CM K ρ s per) (hd:ρ a=.aV) (ay:dN w CM ρ s.heap a v):cK w CM K (cx ρ a (.per per.length)) s (per++[v]):=by
 have aB:∀b o,ρ b=.bf o->cx ρ a (.per per.length) b=.bf o:=fun b o e=>by
  refine B (bq (fun q:b=a=>by rw [q,hd] at e;cases e)) ?_;exact e
 have an:∀b k,ρ b=.per k->cx ρ a (.per per.length) b=.per k:=fun b k e=>by
  refine B (bq (fun q:b=a=>by rw [q,hd] at e;cases e)) ?_;exact e
 have cy:∀b k,ρ b=.per k->k<per.length:=fun b k e=>by
  refine bb (ap.fU b k e) ?_;intro x M _
  rcases Nat.lt_or_ge k per.length with h|h
  ·exact h
  ·replace M:=(List.getElem?_eq_none h)▸M;exact Z M
 refine⟨fun b x e=>aB _ _ (ap.fW b x e),fun b x e=>aB _ _ (ap.ft b x e),fun b e=>let⟨M,O⟩:=ap.fi b e;⟨by refine B (bq (fun q:b=a=>by rw [q,hd] at M;exact M)) ?_;exact M,O⟩,fun b o e=> ?_,fun b=> ?_,fun k ag=> ?_,fun b k e=> ?_,fun b c k ak ar=> ?_⟩
 ·by_cases q:b=a
  ·subst q;replace e:=dJ▸e;cases e
  ·replace e:=(bq q)▸e;exact ap.bK b o e
 ·by_cases q:b=a
  ·subst q
   refine B dJ ?_
   refine⟨fun e=>(nomatch e),fun e=> ?_⟩
   replace hd:=((ap.c2 b).mpr e)▸hd;cases hd
  ·refine B (bq q) ?_;exact ap.c2 b
 ·(replace ag:=List.length_append▸ag;replace ag:=List.length_cons▸ag;replace ag:=List.length_nil▸ag)
  by_cases eB:k<per.length
  ·obtain⟨b,e⟩:=ap.gx k eB;exact⟨b,an _ _ e⟩
  ·have:k=per.length:=by exact Qa ag eB
   subst this
   exact⟨a,dJ⟩
 ·by_cases q:b=a
  ·subst q
   replace e:=dJ▸e;cases e
   exact⟨v,by simp,ay.bt aB an fun _ e=>e⟩
  ·replace e:=(bq q)▸e
   obtain⟨x,M,O⟩:=ap.fU b k e
   exact⟨x,by refine B (List.getElem?_append_left (cy b k e)) ?_;exact M,O.bt aB an fun _ e=>e⟩
 ·by_cases bZ:b=a
  ·subst bZ
   replace ak:=dJ▸ak;cases ak
   by_cases bn:c=b
   ·exact bn.symm
   ·replace ar:=(bq bn)▸ar
    exact absurd (cy c _ ar) (Nat.lt_irrefl _)
  ·replace ak:=(bq bZ)▸ak
   by_cases bn:c=a
   ·subst bn
    replace ar:=dJ▸ar;cases ar
    exact absurd (cy b _ ak) (Nat.lt_irrefl _)
   ·replace ar:=(bq bn)▸ar
    exact ap.inj b c k ak ar
theorem aK.nr {a:Addr} {v:H} (I:aK w CM K env J ρ s fs) (hd:ρ a=.aV) (eG:∀x c,J.names.lookup x=some .free->env.cells.lookup x=some c->c≠a) (ay:dN w CM ρ s.heap a v):
  aK w CM K env J (cx ρ a (.per fs.per.length)) s {fs with per:=fs.per++[v]}:=by
 have aB:∀b o,ρ b=.bf o->cx ρ a (.per fs.per.length) b=.bf o:=fun b o e=>by
  refine B (bq (d7 e hd)) ?_;exact e
 have an:∀b k,ρ b=.per k->cx ρ a (.per fs.per.length) b=.per k:=fun b o e=>by
  refine B (bq (d7 e hd)) ?_;exact e
 have bx:∀b k,ρ b=.aD k->cx ρ a (.per fs.per.length) b=.aD k:=fun b o e=>by
  refine B (bq (d7 e hd)) ?_;exact e
 have aY:∀b,ρ b=.frame->cx ρ a (.per fs.per.length) b=.frame:=fun b e=>by
  refine B (bq (d7 e hd)) ?_;exact e
 have qD:∀b,ρ b=.cell->cx ρ a (.per fs.per.length) b=.cell:=fun b e=>by
  refine B (bq (d7 e hd)) ?_;exact e
 have iA:∀b x,cx ρ a (.per fs.per.length) b=.aD x->ρ b=.aD x:=fun b x e=>by
  by_cases q:b=a
  ·(replace e:=q▸e;replace e:=dJ▸e);cases e
  ·rwa [bq q] at e
 exact⟨I.base.nr hd ay,I.c0,aY _ I.cJ,I.fx,fun x bh e=>let⟨v,M,O⟩:=I.eW x bh e;⟨v,M,O.bt aB an bx⟩,
  fun x e=>let⟨c,v,M,O,Y⟩:=I.cells x e;⟨c,v,M,qD _ O,Y⟩,
  fun x c ak ar=>(bq (eG x c ak ar)).trans (I.frees x c ak ar),I.apart,
  fun b x e=>let⟨aL,c,M,O⟩:=I.e1 b x (iA _ _ e);⟨aL,c,M,O.bt aB an fun _ e=>e⟩,fun b c x ak ar=>I.fk b c x (iA _ _ ak) (iA _ _ ar)⟩
theorem a1.kL {a:Addr} {r:cT} (av:a1 ρ₀ c9 ρ s) (aL:ρ₀ a=.free):a1 ρ₀ c9 (cx ρ a r) s:=by
 have b1:∀{b:Addr},ρ₀ b≠.free->b≠a:=fun h q=>h (by refine B q ?_;exact aL)
 exact⟨fun b o e=>(bq (b1 (bI e))).trans (av.bK b o e),fun b e=>(bq (b1 (bI e))).trans (av.aV b e),
  fun b o e=>(bq (b1 (bI e))).trans (av.per b o e),fun b e=>(bq (b1 (bI e))).trans (av.cJ b e),
  fun b e=>(bq (b1 (bI e))).trans (av.fb b e),fun b e=>(bq (b1 (bI e))).trans (av.stk b e),
  fun b o e=>by refine B (bq (b1 (bI e))) ?_;exact av.aD b o e,av.keep,av.hW,av.ao⟩
theorem cb.nr {a:Addr} {k:Nat} {l c8:List (Str×cf)} (av:cb ρ₀ l ρ c8) (aL:ρ₀ a=.free):cb ρ₀ l (cx ρ a (.per k)) c8 where
 U:=av.U
 aD:=fun b x e=>by
  by_cases q:b=a
  ·subst q;replace e:=aL▸e;cases e
  ·refine B (bq q) ?_;exact av.aD b x e
 gv:=fun b x e=>by
  by_cases q:b=a
  ·subst q;replace e:=dJ▸e;cases e
  ·replace e:=(bq q)▸e;exact av.gv b x e
noncomputable def wK (n:Str) (ao:Stmt):Prop:=∃gU hB iN jU EX Gd DU Da Az k,ao=.Assign [.Attribute (.Name "self" gU) n hB] (.IfExp (.Compare (.Name n iN) [.Is] [.Constant .none k jU] EX) (.Dict [] [] Gd) (.Name n DU) Da) Az
structure wl (F:Frag) (C:Addr):Prop where
 tm:makesIn F C=true
 ao:se F C
 tk:takerIn F C "table"=some none/\takerIn F C "trailer"=some none
 init:∃ao fI ob bL d5 dX,findIn F (.ref C) "__init__"=some (some (.ref fI))/\typeIn F (.ref fI)=some (.type "function")/\ka F ao fI ob bL/\params ao=(["self","table","trailer"]:List Str)/\g5 ao=[d5,dX]/\wK "table" d5/\wK "trailer" dX/\
  ∀s,F.In s.heap->∀v,BindsTo s bL ⟨[v],[]⟩ [("self",v),("table",.none),("trailer",.none)]
 keep:keepIn F (.ref C)=true
theorem EB {x dx C:Addr} {n:Str} {ao:Stmt} {es:List DictEntry} {k:Nat} {l:List (Str×Value)} {Q:Flow->Shared->Prop} (m0:wK n ao) (cj:se F C) (bA:K.f=F) (ae:ρ x=.aV) (mr:ρ dx=.aV) (b1:x≠dx) (eG:∀x c,J.names.lookup x=some .free->env.cells.lookup x=some c->c≠dx)
  (aG:takerIn F C n=some none) (ft:(n==("__debug__":Str))=false)
  (I:aK w CM K env J ρ s fs) (ay:e4 env J s.heap "self" (.ref x)) (aE:e4 env J s.heap n .none) (aP:yi s.heap x dx C es k) (aB:fD es l) (ec:n∉l.map (·.1)) (hz:es.length<1000)
  (h:∀h' tk d3,s.heap.objs.size≠dx->h'.get? dx=some (dictOf d3 (k+1))->fD d3 (l++[(n,.ref s.heap.objs.size)])->d3.length=es.length+1->h'.get? s.heap.objs.size=some emptyDict->(∀b o,b≠dx->s.heap.get? b=some o->h'.get? b=some o)->(∀b,b≠dx->s.heap.get? b=none->b≠s.heap.objs.size->h'.get? b=none)->
   (aK w CM K env J (bQ ρ (s.heap.push emptyDict)) {s with heap:=h',toks:=tk} fs)->Heap.SameBut dx (s.heap.push emptyDict) h'->(∀y v,e4 env J s.heap y v->e4 env J h' y v)->Q .next {s with heap:=h',toks:=tk}):
  wpAny (model aw w) A (exec ao env) Q E s:=by
 obtain⟨gU,hB,iN,jU,EX,Gd,DU,Da,Az,kk,rfl⟩:=m0
 refine plainObj_wpAny_Assign_Attribute (wpAny_IfExp (wpAny_isTrue_Compare1 (aE.eval I.c0 ft (wpAny_Constant_none (is_none ?_))))) (hs:=rfl)
 refine B (show(Value.none==Value.none)=true from by decide) ?_
 refine wpAny_truthy_bool ?_
 refine B (if_pos rfl) ?_
 refine wpAny_Dict_empty ?_
 have ag:∀b o,s.heap.get? b=some o->(s.heap.push emptyDict).get? b=some o:=fun b o e=>Heap.get?_push_of_some _ e
 have jD:aK w CM K env J (bQ ρ (s.heap.push emptyDict)) {s with heap:=s.heap.push emptyDict} fs:=I.dD (tk:=s.toks) ag
 have h4:=ay.bt ag
 have Bj:s.heap.objs.size≠dx:=fun q=>by have:=Heap.lt_size aP.V;replace this:=(Eq.symm q)▸this;exact Nat.lt_irrefl _ this
 refine h4.eval (s:={s with heap:=s.heap.push emptyDict}) jD.c0 (by decide+kernel) ?_
 have As:bQ ρ (s.heap.push emptyDict) dx=.aV:=(lY (bI mr)).trans mr
 refine FI (s:={s with heap:=s.heap.push emptyDict}) (bA▸jD.in) cj aG ⟨ag _ _ aP.gy,ag _ _ aP.V⟩ aB ec hz fun h' d3 hs hD m2 o4=> ?_
 refine h h' _ d3 Bj hD m2 o4 ((hs.2 _ Bj).trans (Heap.get?_push_size _ rfl)) (fun b o ah e=>(hs.2 b ah).trans (ag b o e)) (fun b ah e kU=>(hs.2 b ah).trans ?_) (jD.hU As eG hs (by refine B hD ?_;nofun)) hs fun y v q=>(q.bt ag).hU jD As eG hs
 refine B (Heap.get?_push_ne _ _ _ kU) ?_;exact e
theorem BF (i7:∃ob,K.f.lookup sysModules=some ob) (I:aK w CM K env J ρ s fs) {a:Addr} (aE:s.heap.get? a=none) {ρ':a5} {h':Heap} (h:h'.get? a=some emptyDict):dN w CM ρ' h' a (.V []):=
 ⟨_,#[],0,[],rJ i7 I aE,h,⟨rfl,rfl,rfl⟩,rfl,fun e aW=>by simp at aW,.nil,.nil,rfl⟩
set_option maxHeartbeats 1000000 in
theorem TG {k:Nat} (bl:pP CM bj F) (bA:K.f=F) (bc:eh K k A) {C:Addr} (cj:CM "Shelf"=some C) (eZ:wl F C) (I:aK w CM K env J ρ s fs):
  wpAny (model aw w) A (call (.ref C) []) (b4 w CM K env J ρ s fs (.U (.dT "Shelf" [("table",.per fs.per.length),("trailer",.per (fs.per.length+1))])) {fs with per:=fs.per++[.V [],.V []]}) E s:=by
 obtain⟨ao,fI,ob,bL,Zl,YS,aR,zl,bU,gw,rS,rN,Kc,rc⟩:=eZ.init
 have e3:F.In s.heap:=bA▸I.in
 have j4:ρ (s.heap.objs.size+1)=.free:=(I.base.c2 _).mpr (by
  cases e:s.heap.get? (s.heap.objs.size+1) with
  |none=>rfl
  |some ob=>exact absurd (Heap.lt_size e) (Nat.not_lt.mpr (Nat.le_succ _)))
 have iZ:ρ s.heap.objs.size=.free:=(I.base.c2 _).mpr fd
 refine wpAny_call (make_core (makes_of e3 eZ.tm) (looks_findIn e3 aR) (fun self=>bind_fn e3 self zl) (.inl rfl) ?_)
 have iO:∀b o,s.heap.get? b=some o->((s.heap.push emptyDict).push (instObj C s.heap.objs.size)).get? b=some o:=fun b o e=>Heap.get?_push_of_some _ (Heap.get?_push_of_some _ e)
 generalize nP:(s.heap.push emptyDict).push (instObj C s.heap.objs.size)=M at iO
 have jH:M.get? (s.heap.objs.size+1)=some (instObj C s.heap.objs.size):=by(refine bu nP ?_;refine bu (Heap.size_push s.heap emptyDict) ?_);exact Heap.get?_push_size _ rfl
 have ox:M.get? s.heap.objs.size=some emptyDict:=by refine bu nP ?_;exact Heap.get?_push_of_some _ (Heap.get?_push_size _ rfl)
 have oU:bo ρ (s.heap.objs.size+1)=.free:=gY.mpr j4
 have hK:bo ρ s.heap.objs.size=.free:=gY.mpr iZ
 have ei:a1 (bo ρ) s (bQ (bo ρ) M) {s with heap:=M}:=a1.dD (tk:=s.toks) iO
 have oZ:cK w CM K (bQ (bo ρ) M) {s with heap:=M} fs.per:=I.base.bo.dD (tk:=s.toks) iO
 have lR:iJ (bQ (bo ρ) M):=fun a=>⟨fun x q=>(ig ρ a).1 x (f8.mp q),fun q=>(ig ρ a).2.1 (nZ.mp q),fun q=>(ig ρ a).2.2 (o9.mp q)⟩
 have k4:bQ (bo ρ) M (s.heap.objs.size+1)=.aV:=gR oU jH
 have km:bQ (bo ρ) M s.heap.objs.size=.aV:=gR hK ox
 have i4:F.In M:=fun b x e=>iO _ _ (e3 b x e)
 have fz:(params ao).length=[Value.ref (s.heap.objs.size+1),.none,.none].length:=by refine B gw ?_;rfl
 have j5:(params ao).zip [Value.ref (s.heap.objs.size+1),.none,.none]=([("self",.ref (s.heap.objs.size+1)),("table",.none),("trailer",.none)]:List (Str×Value)):=by refine B gw ?_;rfl
 have mI:=bU.J
 refine A6 (s:={s with heap:=M}) (Nat.lt_of_le_of_lt (vR (k:=k) A _ _ _) bc.depth) (i4 _ _ bU.gy) bU.data (bl.sb _ i4) (codeRec_of i4 bU.code) bU.body (rc _ i4 _) bU.uu (fun y aQ=> ?_) (fun aj x=> ?_) (by refine B bU.scope ?_;exact bU.J.tz) (by refine B bU.scope ?_;exact bU.J.gen) (by refine B bU.scope ?_;exact bU.J.kind)
 ·have:y.1∈params ao:=by(refine bu (rj _ fz) ?_;refine B j5 ?_);exact List.mem_map.mpr ⟨_,aQ,rfl⟩
  refine B bU.scope ?_
  rcases mI.par _ this with q|q
  ·exact .inl q
  ·exact .inr ⟨q,mI.fb _ _ q⟩
 replace x:=(Eq.symm j5)▸x
 have a3:=ut (w:=w) (CM:=CM) (K:=K) (loc:=[]) (ρ:=bQ (bo ρ) M) bU fz (fun y bh g=>nomatch g) oZ lR rfl x
 have mi:=mQ bU fz rfl x (y:="self") (v:=.ref (s.heap.objs.size+1)) (by refine B j5 ?_;simp)
 have o1:=mQ bU fz rfl x (y:="table") (v:=.none) (by refine B j5 ?_;simp)
 have yp:=mQ bU fz rfl x (y:="trailer") (v:=.none) (by refine B j5 ?_;simp)
 obtain⟨o3,gA,u3⟩:=a3
 generalize yZ:h7 (bQ (bo ρ) M) aj.heap (callEnvC bL M.objs.size fI).locals (callEnvC bL M.objs.size fI).cells=bH at*
 have o3:aK w CM {K with frames:=(callEnvC bL M.objs.size fI).locals::K.frames} (callEnvC bL M.objs.size fI) (bO ao) bH aj ⟨[],fs.per⟩:=yZ▸o3
 have gA:a1 (bQ (bo ρ) M) {s with heap:=M} bH aj:=yZ▸gA
 have u3:∀a x,bH a=.aD x->bQ (bo ρ) M a=.free:=yZ▸u3
 have oR:=gA.aV _ k4
 have n6:=gA.aV _ km
 have eG:∀y c,(bO ao).names.lookup y=some .free->(callEnvC bL M.objs.size fI).cells.lookup y=some c->c≠s.heap.objs.size:=fun y c M O=>absurd M (mI.c2 y)
 refine B rS ?_
 have pb:∀b o,s.heap.get? b=some o->aj.heap.get? b=some o:=fun b o e=>x.toInCall.keep b o (iO b o e)
 have k7:s.heap.get? aj.heap.objs.size=none:=by
  cases e:s.heap.get? aj.heap.objs.size with
  |none=>rfl
  |some o=>exact absurd (Heap.lt_size (pb _ _ e)) (Nat.lt_irrefl _)
 refine wpAny_execs_cons (EB (K:={K with frames:=(callEnvC bL M.objs.size fI).locals::K.frames}) rN eZ.ao bA oR n6 (Nat.succ_ne_self _) eG eZ.tk.1 (by decide+kernel) o3 mi o1 ⟨gA.keep _ _ k4 jH,gA.keep _ _ km ox⟩ (l:=[]) rfl (by simp) (by decide) fun O tl Zn bZ bn ee ii iB pi Y3 kC Mm z5=> ?_)
 have ky:s.heap.get? O.objs.size=none:=by
  cases e:s.heap.get? O.objs.size with
  |none=>rfl
  |some o=>
   by_cases ah:O.objs.size=s.heap.objs.size
   ·(replace e:=ah▸e;replace e:=fd▸e);exact Z e
   ·exact absurd (Heap.lt_size (pi _ _ ah (pb _ _ e))) (Nat.lt_irrefl _)
 have Fg:=ms (h':=aj.heap.push emptyDict) oR
 have CW:=ms (h':=aj.heap.push emptyDict) n6
 refine wpAny_execs_cons (EB (K:={K with frames:=(callEnvC bL M.objs.size fI).locals::K.frames}) (s:={aj with heap:=O,toks:=tl}) Kc eZ.ao bA Fg CW (Nat.succ_ne_self _) eG eZ.tk.2 (by decide+kernel) kC (z5 _ _ mi) (z5 _ _ yp)
  ⟨pi _ _ (Nat.succ_ne_self _) (gA.keep _ _ k4 jH),bn⟩ ee (by simp;decide+kernel) (by refine B ii ?_;decide) fun Y Er Ii eU jX y8 vO Kb ve BV oG SB Ze=>wpAny_execs_nil ?_)
 refine⟨rfl,?_⟩
 have ea:bH aj.heap.objs.size=.free:=(o3.base.c2 _).mpr fd
 have XE:bQ bH (aj.heap.push emptyDict) aj.heap.objs.size=.aV:=gR ea (Heap.get?_push_size _ rfl)
 have fH:bQ bH (aj.heap.push emptyDict) O.objs.size=.free:=(kC.base.c2 _).mpr fd
 have LH:bQ (bQ bH (aj.heap.push emptyDict)) (O.push emptyDict) O.objs.size=.aV:=gR fH (Heap.get?_push_size _ rfl)
 have KD:=ms (h':=O.push emptyDict) XE
 have QI:=ms (h':=O.push emptyDict) Fg
 have MD:=ms (h':=O.push emptyDict) CW
 have DO:a1 (bo ρ) s bH aj:=ei.trans gA
 have M8:a1 (bo ρ) s (bQ bH (aj.heap.push emptyDict)) {aj with heap:=O,toks:=tl}:=(DO.trans (a1.dD (tk:=aj.toks) (fun b o e=>Heap.get?_push_of_some _ e))).hU hK Mm
 have Up:a1 (bo ρ) s (bQ (bQ bH (aj.heap.push emptyDict)) (O.push emptyDict)) {aj with heap:=Y,toks:=Er}:=(M8.trans (a1.dD (s:={aj with heap:=O,toks:=tl}) (tk:=tl) (fun b o e=>Heap.get?_push_of_some _ e))).hU hK SB
 have og:cp w CM {K with frames:=(callEnvC bL M.objs.size fI).locals::K.frames} (callEnvC bL M.objs.size fI) (bO ao) (bo ρ) s _ {aj with heap:=Y,toks:=Er} ⟨[],fs.per⟩:=
  ⟨oG,Up,fun a y e=>DO.ic _ (by have:=f8.mp (f8.mp e);exact absurd this (by
   intro q
   have:=(o3.e1 a y q).2
   refine bb this ?_;clear this;intro c hc _
   exact Z hc))⟩
 refine ef (cp.uF (K:=K) (K':={K with frames:=(callEnvC bL M.objs.size fI).locals::K.frames}) rfl rfl (fun L h=>List.mem_cons_of_mem _ h) og (ig ρ)) ?_;intro cP dG lD
 refine ef (I.rT cP dG lD) ?_;intro e6 ll lG
 have bV:ρ aj.heap.objs.size=.free:=(I.base.c2 _).mpr k7
 have cE:ρ O.objs.size=.free:=(I.base.c2 _).mpr ky
 have xY:=(kD (ρ':=bo (bQ (bQ bH (aj.heap.push emptyDict)) (O.push emptyDict))) oU).trans (oX QI)
 have xS:=(kD (ρ':=bo (bQ (bQ bH (aj.heap.push emptyDict)) (O.push emptyDict))) hK).trans (oX MD)
 have ak:=(kD (ρ':=bo (bQ (bQ bH (aj.heap.push emptyDict)) (O.push emptyDict))) (gY.mpr bV)).trans (oX KD)
 have ar:=(kD (ρ':=bo (bQ (bQ bH (aj.heap.push emptyDict)) (O.push emptyDict))) (gY.mpr cE)).trans (oX LH)
 have q1:Y.get? (s.heap.objs.size+1)=some (instObj C s.heap.objs.size):=ve _ _ (Nat.succ_ne_self _) (pi _ _ (Nat.succ_ne_self _) (gA.keep _ _ k4 jH))
 have br:Y.get? aj.heap.objs.size=some emptyDict:=ve _ _ bZ iB
 have DV:O.objs.size≠aj.heap.objs.size:=fun q=>by have:=Heap.lt_size iB;replace this:=q▸this;exact Nat.lt_irrefl _ this
 have DN:s.heap.objs.size+1≠aj.heap.objs.size:=fun q=>by have:=Heap.lt_size (gA.keep _ _ k4 jH);replace this:=q▸this;exact Nat.lt_irrefl _ this
 have Ak:s.heap.objs.size+1≠O.objs.size:=fun q=>by have:=Heap.lt_size (pi (s.heap.objs.size+1) _ (Nat.succ_ne_self _) (gA.keep _ _ k4 jH));replace this:=q▸this;exact Nat.lt_irrefl _ this
 have Dr:∃ob,K.f.lookup sysModules=some ob:=bA▸bl.rH
 have xV:=e6.nr (v:=.V []) ak (h5 I bV) (BF Dr I k7 br)
 have lE:=xV.nr (a:=O.objs.size) (v:=.V []) (by refine B (bq DV) ?_;exact ar) (h5 I cE) (BF Dr I ky Kb)
 have Pw:=lE.fO (a:=s.heap.objs.size+1) (ob:=instObj C s.heap.objs.size) (by(refine B (bq Ak) ?_;refine B (bq DN) ?_);exact xY) (h5 I j4) q1
 have Gz:=Pw.fO (a:=s.heap.objs.size) (ob:=dictOf Ii (0+1+1)) (by(refine B (bq (Nat.ne_of_lt (Nat.lt_succ_self _))) ?_;refine B (bq (Ne.symm eU)) ?_;refine B (bq (Ne.symm bZ)) ?_);exact xS) (h5 I iZ) jX
 refine⟨_,by rw [List.append_assoc] at Gz;exact Gz,(((ll.kL bV).kL cE).kL j4).kL iZ,(((lG.nr bV).nr cE).fO j4).fO iZ,?_⟩
 replace y8:=(List.nil_append _)▸y8
 refine bY.Fd (m:=([("table",.ref aj.heap.objs.size),("trailer",.ref O.objs.size)]:List (Str×Value))) cj ((bq (Nat.succ_ne_self _)).trans dJ) dJ y8 ⟨_,_,rfl,⟨_,rfl,?_⟩,_,_,rfl,⟨_,rfl,?_⟩,rfl⟩ (by simp;decide+kernel)
 ·(refine B (bq bZ) ?_;refine B (bq (Ne.symm DN)) ?_;refine B (bq (Ne.symm DV)) ?_);exact dJ
 ·(refine B (bq eU) ?_;refine B (bq (Ne.symm Ak)) ?_)
  have:(fs.per++[H.V []]).length=fs.per.length+1:=by simp
  refine bu this ?_;exact dJ
end
end Mine
end
section
open PySem PySem.W PySem.Calls PyProof.Rows
namespace Mine
section
variable{w:World} {CM:cn} {bj:dM} {F:Frag} {K:Top} {env:Env} {J:Scope} {A:Around} {E:Value->Shared->Prop} {ρ ρ₀ ρ':a5} {s c9 az:Shared} {fs fs' fs₁:X} {R:bk}
theorem e4.sameBut {a:Addr} {h':Heap} {y:Str} {v:Value} (q:e4 env J s.heap y v) (I:aK w CM K env J ρ s fs) (M:ρ a≠.frame) (O:ρ a≠.cell) (Y:ρ a≠.aV) (hs:Heap.SameBut a s.heap h'):e4 env J h' y v:=by
 rcases q with⟨bV,cE,m,cX,dU⟩|⟨bV,cE,c,cX,dU⟩
 ·exact .inl ⟨bV,cE,m,cX.sameBut hs (fun q=>M (by refine bu q ?_;exact I.cJ)),dU⟩
 ·refine .inr ⟨bV,cE,c,cX,dU.sameBut hs ?_⟩
  rcases bV with bV|bV
  ·intro q
   refine dP (I.cells y bV) ?_;intro c' eY cP dG _
   replace cP:=cX▸cP;cases cP
   exact O (by refine bu q ?_;exact dG)
  ·exact fun q=>Y (by refine bu q ?_;exact I.frees y c bV cX)
theorem aK.qy {a:Addr} {x:Str} {c c':H} {h':Heap} {tk:Nat} (I:aK w CM K env J ρ s fs) (hd:ρ a=.aD x) (ae:Mine.getL x fs.loc=some (.aD c)) (hs:Heap.SameBut a s.heap h') (hc:dN w CM ρ h' a c'):
  aK w CM K env J ρ {s with heap:=h',toks:=tk} {fs with loc:=bX x (.aD c') fs.loc}/\a1 ρ s ρ {s with heap:=h',toks:=tk}/\cb ρ fs.loc ρ (bX x (.aD c') fs.loc):=by
 have b1:∀{b:Addr},(∀y,ρ b≠.aD y)->b≠a:=fun h q=>h x (by refine B q ?_;exact hd)
 have keep:∀b ob,(∀y,ρ b≠.aD y)->s.heap.get? b=some ob->h'.get? b=some ob:=fun b ob h e=>(hs.2 b (b1 h)).trans e
 refine bT hc.e5 ?_;intro qd bz
 have ap:cK w CM K ρ {s with heap:=h',toks:=tk} fs.per:=by
  refine⟨I.base.fW,I.base.ft,fun b e=> ?_,fun b ob e=>keep b ob (fun _=>bI e) (I.base.bK b ob e),fun b=> ?_,I.base.gx,fun b k e=> ?_,I.base.inj⟩
  ·obtain⟨M,o,O,Y⟩:=I.base.fi b e
   exact⟨M,o,keep b o (fun y q=>by replace M:=q▸M;exact M) O,Y⟩
  ·by_cases q:b=a
   ·subst q
    refine B hd ?_
    exact⟨fun e=>(nomatch e),fun e=>by replace e:=(show h'.get? b=some qd from bz)▸e;exact h3 e⟩
   ·show ρ b=.free↔h'.get? b=none
    refine B (hs.2 b q) ?_;exact I.base.c2 b
  ·refine bb (I.base.fU b k e) ?_;intro y M O
   exact⟨y,M,O.bt (fun _ _ q=>q) (fun _ _ q=>q) fun ob q=>keep b ob (fun _=>bI e) q⟩
 refine⟨⟨ap,I.c0,I.cJ,let⟨m,e⟩:=I.fx;⟨m,e.sameBut hs (b1 (fun _=>bI I.cJ))⟩,fun y bh e=> ?_,fun y e=> ?_,I.frees,I.apart,fun b y e=> ?_,I.fk⟩,⟨fun _ _ e=>e,fun _ e=>e,fun _ _ e=>e,fun _ e=>e,fun _ e=>e,fun _ e=>e,fun _ _ e=>.inl e,fun b ob e q=>keep b ob (fun _=>bI e) q,fun b ob e q=>⟨_,keep b ob (fun _=>bI e) q⟩,⟨_,_,rfl⟩⟩,⟨fun y v e=> ?_,fun b y e=>.inl e,fun _ _ e=>e⟩⟩
 ·by_cases q:y=x
  ·subst q
   replace e:=j2▸e;cases e
   obtain⟨v,M,b,rfl,O⟩:=I.eW _ _ ae
   exact⟨_,M.sameBut I (bI hd) (bI hd) (bI hd) hs,b,rfl,O⟩
  ·replace e:=(iG q)▸e
   refine bb (I.eW _ _ e) ?_;intro v M O
   exact⟨v,M.sameBut I (bI hd) (bI hd) (bI hd) hs,O⟩
 ·refine gr (I.cells y e) ?_;intro c v M O Y aC
  exact⟨c,v,M,O,Y,aC.sameBut hs (b1 (fun _=>bI O))⟩
 ·obtain⟨aL,y9,M,O⟩:=I.e1 b y e
  by_cases q:y=x
  ·subst q
   obtain rfl:=I.fk b a y e hd
   exact⟨aL,c',j2,hc⟩
  ·refine⟨aL,y9,by refine B (iG q) ?_;exact M,O.bt (fun _ _ q=>q) (fun _ _ q=>q) fun ob cL=>(hs.2 b (fun cg=>q ?_)).trans cL⟩
   (replace e:=cg▸e;replace e:=hd▸e);cases e;rfl
 ·by_cases q:y=x
  ·subst q;replace e:=ae▸e;cases e
  ·refine B (iG q) ?_;exact e
theorem aK.Rd {a:Addr} {k:Nat} {c':H} {h':Heap} {tk:Nat} (I:aK w CM K env J ρ s fs) (hd:ρ a=.per k) (hs:Heap.SameBut a s.heap h') (hc:dN w CM ρ h' a c'):
  aK w CM K env J ρ {s with heap:=h',toks:=tk} {fs with per:=fs.per.set k c'}/\a1 ρ s ρ {s with heap:=h',toks:=tk}:=by
 have b1:∀{b:Addr},(∀y,ρ b≠.per y)->b≠a:=fun h q=>h k (by refine B q ?_;exact hd)
 have keep:∀b ob,(∀y,ρ b≠.per y)->s.heap.get? b=some ob->h'.get? b=some ob:=fun b ob h e=>(hs.2 b (b1 h)).trans e
 refine bT hc.e5 ?_;intro qd bz
 have ap:cK w CM K ρ {s with heap:=h',toks:=tk} (fs.per.set k c'):=by
  refine⟨I.base.fW,I.base.ft,fun b e=> ?_,fun b ob e=>keep b ob (fun _=>bI e) (I.base.bK b ob e),fun b=> ?_,fun j bF=>I.base.gx j (by simpa using bF),fun b j e=> ?_,I.base.inj⟩
  ·obtain⟨M,o,O,Y⟩:=I.base.fi b e
   exact⟨M,o,keep b o (fun y q=>by replace M:=q▸M;exact M) O,Y⟩
  ·by_cases q:b=a
   ·subst q
    refine B hd ?_
    exact⟨fun e=>(nomatch e),fun e=>by replace e:=(show h'.get? b=some qd from bz)▸e;exact h3 e⟩
   ·show ρ b=.free↔h'.get? b=none
    refine B (hs.2 b q) ?_;exact I.base.c2 b
  ·refine bb (I.base.fU b j e) ?_;intro y M O
   by_cases q:j=k
   ·subst q
    obtain rfl:=I.base.inj b a j e hd
    refine⟨c',?_,hc⟩
    have:j<fs.per.length:=by
     rcases Nat.lt_or_ge j fs.per.length with h|h
     ·exact h
     ·replace M:=(List.getElem?_eq_none h)▸M;exact Z M
    simp [this]
   ·exact⟨y,by refine B (List.getElem?_set_ne (fun e=>q e.symm)) ?_;exact M,O.bt (fun _ _ q=>q) (fun _ _ q=>q) fun ob cL=>(hs.2 b (fun cg=>q (by(replace e:=cg▸e;replace e:=hd▸e);cases e;rfl))).trans cL⟩
 refine⟨⟨ap,I.c0,I.cJ,let⟨m,e⟩:=I.fx;⟨m,e.sameBut hs (b1 (fun _=>bI I.cJ))⟩,fun y bh e=> ?_,fun y e=> ?_,I.frees,I.apart,fun b y e=> ?_,I.fk⟩,⟨fun _ _ e=>e,fun _ e=>e,fun _ _ e=>e,fun _ e=>e,fun _ e=>e,fun _ e=>e,fun _ _ e=>.inl e,fun b ob e q=>keep b ob (fun _=>bI e) q,fun b ob e q=>⟨_,keep b ob (fun _=>bI e) q⟩,⟨_,_,rfl⟩⟩⟩
 ·refine bb (I.eW _ _ e) ?_;intro v M O
  exact⟨v,M.sameBut I (bI hd) (bI hd) (bI hd) hs,O⟩
 ·refine gr (I.cells y e) ?_;intro c v M O Y aC
  exact⟨c,v,M,O,Y,aC.sameBut hs (b1 (fun _=>bI O))⟩
 ·obtain⟨aL,y9,M,O⟩:=I.e1 b y e
  exact⟨aL,y9,M,O.bt (fun _ _ q=>q) (fun _ _ q=>q) fun ob q=>keep b ob (fun _=>bI e) q⟩
theorem eP.rX {x:Str} {c:H} {v:Value} (aP:eP w CM ρ₀ ρ s fs (.var x) v) (I:aK w CM K env J ρ s fs) (bi:Mine.getL x fs.loc=some (.aD c)):∃a,v=.ref a/\ρ a=.aD x/\dN w CM ρ s.heap a c:=by
 refine bb aP ?_;clear aP;intro a u;subst u;intro O
 have O:ρ a=.aD x:=by
  rcases O with O|⟨y,O⟩
  ·exact O
  ·replace O:=bi▸O;cases O
 obtain⟨aL,c',Y,aC⟩:=I.e1 a x O
 replace Y:=bi▸Y;cases Y
 exact⟨a,rfl,O,aC⟩
theorem B0 {i j:Int} {v:Value} (q:bY w CM ρ (.aF [.int i,.int j]) v):∃a t u n,v=.ref a/\ρ a=.bf (qC [.int i t,.int j u] n):=by
 refine dz q ?_;clear q;intro a vs n e M O
 refine dP O ?_;clear O;intro mi Ra ak Y aC
 refine dP aC ?_;clear aC;intro o1 zo ar bR dK
 refine Y.elim fun t bP=>bR.elim fun u cW=>⟨a,t,u,n,e,?_⟩
 (refine B M ?_;refine B ak ?_;refine B ar ?_;refine B bP ?_;refine B cW ?_;refine B (show zo=[] from dK) ?_;rfl)
theorem Yg {x df:H} {v:Value} (h:mH x=true) (h':mH df=true) (q:bY w CM ρ x v) (cL:bY w CM ρ df v):x=df:=by
 refine jf (CE h) ?_;intro i j e
 refine jf (CE h') ?_;intro nb gS cg
 refine pH (B0 (e▸q)) ?_;intro a t u n ak M
 refine pH (B0 (cg▸cL)) ?_;intro jB dR r1 i5 ar O
 (replace O:=(Value.ref.inj (ar.symm.trans ak))▸O;replace O:=M▸O)
 have z:=List.cons.inj (Array.mk.inj (Data.seq.inj (congrArg Obj.data (cT.bf.inj O))).1)
 (refine B e ?_;refine B cg ?_;refine B ((Value.int.inj z.1).1) ?_;refine B ((Value.int.inj (List.cons.inj z.2).1).1) ?_;rfl)
end
end Mine
end
section
open PySem PySem.W PySem.Calls PyProof.Rows
namespace Mine
structure tn (CM:cn) (bj:dM) (F:Frag):Prop extends xk CM bj F where
 EQ:∀c m f C,pU c m=some f->CM c=some C->findIn F (.ref C) "__getattribute__"=some (some (.builtin "object.__getattribute__"))/\findIn F (.ref C) "__getattr__"=some none/\
  ∃a,bj f=some a/\findIn F (.ref C) m=some (some (.ref a))/\typeIn F (.ref a)=some (.type "function")
 CT:∃C,CM "Shelf"=some C/\hF F "Shelf"=some (.ref C)/\wl F C
section
variable{w:World} {CM:cn} {bj:dM} {F:Frag} {K:Top} {env:Env} {J:Scope} {A:Around} {E:Value->Shared->Prop} {ρ ρ₀ ρ':a5} {s c9 az:Shared} {fs fs' fs₁:X} {R:bk}
theorem FB {o:Expr} {name:Str} {GX:Sem Value} (h:kS o=true):attributeBase o name env GX=GX:=by
 cases o with
 |Call f args lj pos=>cases f with
  |Name id p=>cases args with
   |nil=>cases lj with
    |nil=>
     have:(id !=("super":Str))=true:=h
     exact if_pos (by refine B this ?_;rfl)
    |cons _ _=>rfl
   |cons _ _=>rfl
  |_=>rfl
 |_=>rfl
theorem Wr {α:Type} {l:List (Bool×α)} (h:l.any (·.1)=false):l.all (!·.1)=true:=by
 refine B List.all_eq_not_any_not ?_
 simp only [Bool.not_not]
 refine B h ?_;rfl
theorem yn {o:Expr} {name:Str} {hY pos:Pos} {args:List Expr} {Q:Value->Shared->Prop} (ey:kS o=true) (gW:(hY.endLine==pos.line)=true) (bC:args.length<30) (an:(backTo pos (starEach args env)).any (·.1)=false)
  (h:wpAny (model aw w) A (eval o env) (fun fc aj=>wpAny (model aw w) A (getMethod fc name (do return (<-importBound o env).getD true)) (fun p ct=>wpAny (model aw w) A (callWith pos p.1 p.2 (backTo pos (starEach args env)) []) Q E ct) E aj) E s):
  wpAny (model aw w) A (eval (.Call (.Attribute o name hY) args [] pos) env) Q E s:=by
 (rw [arm_eval_Call];refine B (FB ey) ?_)
 refine wpAny_bind (wpAny_mono h (fun fc aj bv=>wpAny_bind (wpAny_standAt ?_)) fun _ _ e=>e)
 have OC:methodCallForm (args.length+([]:List Keyword).length) (backTo pos (starEach args env)) (backToKw pos (keywordEach [] env))=true:=by
  unfold methodCallForm
  refine B (Wr an) ?_
  exact Bool.and_eq_true_iff.mpr ⟨rfl,decide_eq_true bC⟩
 have lB:methodCallPos true o env hY pos=pure pos:=by unfold methodCallPos;simp [gW]
 unfold methodCall
 refine B OC ?_
 refine wpAny_bind (wpAny_holding ?_)
 show wpAny _ _ (getMethod fc name _) _ _ _
 refine wpAny_mono bv (fun p ct dI=> ?_) fun _ _ e=>e
 exact wpAny_bind (wpAny_of_eq lB dI)
theorem EC (S:cB w CM K env J A R) {pos:Pos} {es:List Expr} {xs:List H} (q:dk R es fs=some (xs,fs')):(backTo pos (starEach es env)).any (·.1)=false:=(sm S _ q).1
theorem KJ (bl:tn CM bj F) (bA:K.f=F) {k:Nat} {C:cs} (c4:gL w CM bj F k C) (bc:eh K k A) (S:cB w CM K env J A R) {o:Expr} {m f c:Str} {hY pos:Pos} {args:List Expr} {r r':aU} {l:List (Str×H)} {self:H} {vs de:List H} {j8 fs₂:X}
  (ey:kS o=true) (gW:(hY.endLine==pos.line)=true) (bC:args.length<30) (lg:R.a9 o fs=some (r,fs₁)) (bZ:fs₁.cF r=some (.dT c l)) (bn:pU c m=some f) (ee:iC m l=none) (ii:fs₁.oC r=some (self,j8))
  (iB:dk R args j8=some (vs,fs₂)) (pi:C f (self::vs) fs₂.per=some (.ret r',de)) (I:aK w CM K env J ρ s fs):
  wpAny (model aw w) A (eval (.Call (.Attribute o m hY) args [] pos) env) (b4 w CM K env J ρ s fs r' {fs₂ with per:=de}) cc s:=by
 subst bA
 refine yn ey gW bC (EC S iB) (S.eN lg I fun fc aj aN aZ a0 bw aP=> ?_)
 have aR:=(ie aZ aP bZ).dT
 refine gn (zx I aZ a0 bw aP ii) ?_;intro b8 cN ca dF us
 refine Aq aR ?_;clear aR;intro ad d gV nW e M O Y aC bR
 rw [e] at us|-
 refine ef (bl.EQ c m f nW bn M) ?_;intro bH b7 g
 refine et g ?_;clear g;intro a c7 fl hE
 have In:InstAt aj.heap ad (instObj nW d) nW (some gV):=⟨aZ.base.bK _ _ O,rfl,rfl,aZ.base.bK _ _ Y⟩
 refine method_fn aZ.in In bH b7 fl hE (by show(lookIn m gV).map (·.isSome)=_;refine B (aC m ee) ?_;rfl) ?_
 refine bT (c4 f (self::vs) fs₂.per _ de pi K A rfl bc) ?_;intro jB h
 replace h:=(Eq.symm (Option.some.inj (c7.symm.trans h.zr)))▸h
 refine p3 h.rh ?_;intro ao ob bL aB
 exact wj S aB.keep iB cN fun be jx jQ he ej kz ay=>wpAny_mono (he.C4 h (a8.cons (bY.bt ej.bK ej.per us) ay)) (fun v mY P=>b4.trans (ca.trans ej) (dF.trans kz) P) fun e mY P=>nomatch P.1
theorem sq (S:cB w CM K env J A R) {o:Expr} {m:Str} {hY pos:Pos} {args:List Expr} {r r':aU} {vs:List H} {fs₂ fs₃:X} {T id:String} {x:H}
  (ey:kS o=true) (gW:(hY.endLine==pos.line)=true) (bC:args.length<30) (lg:R.a9 o fs=some (r,fs₁)) (bZ:fs₁.cF r=some x) (iB:dk R args fs₁=some (vs,fs₂))
  (Nt:PlainAttrs T) (slot:Slot T m id) (VY:typeOf (.builtin id)=pure (.type "method_descriptor"))
  (gQ:∀{ρ:a5} {s:Shared} {v:Value},aK w CM K env J ρ s fs₁->cv w CM ρ s x v->s.TypeIs v T/\∃a ob,v=.ref a/\s.heap.get? a=some ob/\ob.dict=none)
  (h:∀{b8:a5} {ct:Shared} {fc:Value} {be:List Value},aK w CM K env J b8 ct fs₂->eP w CM ρ b8 ct fs₂ r fc->a8 w CM b8 vs be->wpAny (model aw w) A (call (.builtin id) (fc::be)) (b4 w CM K env J b8 ct fs₂ r' fs₃) cc ct)
  (I:aK w CM K env J ρ s fs):
  wpAny (model aw w) A (eval (.Call (.Attribute o m hY) args [] pos) env) (b4 w CM K env J ρ s fs r' fs₃) cc s:=by
 refine yn ey gW bC (EC S iB) (S.eN lg I fun fc aj aN aZ a0 bw aP=> ?_)
 refine cl (gQ aZ (ie aZ aP bZ)) ?_;intro oz t
 refine dP t ?_;clear t;intro a ob e oc nQ
 refine getMethod_builtin oz Nt slot VY (fun b cg=>by refine bu (Value.ref.inj (e.symm.trans cg)) ?_;exact⟨ob,oc,nQ⟩) ?_
 refine Hj S iB aZ fun be ct P=> ?_
 refine gn P ?_;clear P;intro b8 cN ca dF ay
 exact iw (a0.trans ca) (bw.trans dF) (h cN (aP.bt ca dF) ay)
theorem Ao {l:List (al×H)} {v:Value} (I:aK w CM K env J ρ s fs) (h:cv w CM ρ s (.V l) v):s.TypeIs v "dict"/\∃a ob,v=.ref a/\s.heap.get? a=some ob/\ob.dict=none:=by
 refine gr (h.V I.base) ?_;intro a aS u;subst u;intro aL M O
 refine⟨M.typeIs,a,?_⟩
 refine dz M ?_;clear M;intro ob es cq ak ar _
 exact⟨ob,rfl,ak,ar.2.1⟩
theorem xP {l:List H} {v:Value} (I:aK w CM K env J ρ s fs) (h:cv w CM ρ s (.am l) v):s.TypeIs v "list"/\∃a ob,v=.ref a/\s.heap.get? a=some ob/\ob.dict=none:=by
 refine dz (h.am I.base) ?_;intro a vs n u;subst u;intro M O
 exact⟨⟨_,M,rfl⟩,a,_,rfl,M,rfl⟩
theorem DL {l:List (al×H)} {aS:List (al×Value)} {k:al} {d:H} {ly:Value} (O:dV w CM ρ l aS) (hd:bY w CM ρ d ly):bY w CM ρ ((ba k l).getD d) ((valueAt aS k).getD ly):=by
 have:=O.gh (k:=k)
 cases e:ba k l with
 |some x=>replace this:=e▸this;exact this.elim fun u z=>by refine B z.1 ?_;exact z.2
 |none=>replace this:=e▸this;refine B this ?_;exact hd
theorem OU {l:List (al×H)} {k:al} {eD:H} {d:Option H} {fc:Value} {be:List Value} (ag:gc eD=some k) (I:aK w CM K env J ρ s fs) (h:cv w CM ρ s (.V l) fc) (ay:a8 w CM ρ (eD::d.toList) be):
  wpAny (model aw w) A (call (.builtin "dict.get") (fc::be)) (b4 w CM K env J ρ s fs (.U ((ba k l).getD (d.getD .none))) fs) cc s:=by
 refine gr (h.V I.base) ?_;intro a aS u;subst u;intro aL M O
 refine dP ay ?_;clear ay;intro v t u;subst u;intro h4 iM
 have hi:iq k v=true:=cv.key (s:=s) (.gg h4) ag
 cases d with
 |none=>
  refine B (show t=[] from iM) ?_
  exact call_meetsIn F.slot_dict_get M.typeIs F.entry_dict_get (F.args_dict_get_2 _ _) (meets_dict_get (kk w) a hi aL) ⟨_,M.mapOf,eu I (DL O rfl)⟩
 |some d=>
  refine dP iM ?_;clear iM;intro u dR e iM zI
  (refine B e ?_;refine B (show dR=[] from zI) ?_)
  exact call_meetsIn F.slot_dict_get M.typeIs F.entry_dict_get (F.args_dict_get_3 _ _ _) (meets_dict_get_default (kk w) a hi aL u) ⟨_,M.mapOf,eu I (DL O iM)⟩
theorem dV.Qp (l:List (al×H)):∀{aS:List (al×Value)} {k:al},dV w CM ρ l aS->(aS.map (·.1)).Nodup->dV w CM ρ (ib k l) (PySem.without aS k):=by
 induction l with
 |nil=>intro aS k h _;refine B (show aS=[] from h) ?_;rfl
 |cons p r ih=>
  intro aS k h aE
  refine dP h ?_;clear h;intro v t u O Y;subst u
  refine cl (List.nodup_cons.mp aE) ?_;intro k7 ky
  by_cases e:k=p.1
  ·refine B (show ib k (p::r)=r from if_pos e) ?_
   have:PySem.without ((p.1,v)::t) k=t:=by
    show List.filter _ _=_
    (refine B (List.filter_cons_of_neg (by rw [e];simp)) ?_;refine B e ?_)
    exact without_of_not_mem t _ k7
   refine B this ?_;exact Y
  ·refine B (show ib k (p::r)=p::ib k r from if_neg e) ?_
   have:PySem.without ((p.1,v)::t) k=(p.1,v)::PySem.without t k:=by
    show List.filter _ _=_
    refine B (List.filter_cons_of_pos (by simpa using fun q:p.1=k=>e q.symm)) ?_;rfl
   refine B this ?_
   exact⟨v,_,rfl,O,ih Y ky⟩
theorem Op (l:List (al×H)):∀{k:al},ba k l=none->ib k l=l:=by
 induction l with
 |nil=>intro k _;rfl
 |cons p r ih=>
  intro k h
  by_cases e:k=p.1
  ·exact h3 ((if_pos e).symm.trans h)
  ·exact(if_neg e).trans (congrArg (p:: ·) (ih ((if_neg e).symm.trans h)))
theorem Gm {k:al} {v:Value} (h:iq k v=true):(keyPart v).isSome=true:=by
 cases k with
 |int i=>obtain⟨t,rfl⟩:=jp h;rfl
 |str x=>obtain⟨t,rfl⟩:=jG h;rfl
theorem Yl {x:Str} {l:List (al×H)} {k:al} {eD:H} {fc:Value} {be:List Value} (ag:gc eD=some k) (hz:l.length<=a4) (bi:Mine.getL x fs.loc=some (.aD (.V l))) (I:aK w CM K env J ρ s fs)
  (aP:eP w CM ρ₀ ρ s fs (.var x) fc) (ay:a8 w CM ρ [eD,.none] be):
  wpAny (model aw w) A (call (.builtin "dict.pop") (fc::be)) (b4 w CM K env J ρ s fs (.U ((ba k l).getD .none)) {fs with loc:=bX x (.aD (.V (ib k l))) fs.loc}) cc s:=by
 obtain⟨a,rfl,bz,ob,es,cq,aS,aL,ak,ar,bP,cW,dn,fe,jv⟩:=aP.rX I bi
 refine dP ay ?_;clear ay;intro v t u h4 iM;subst u
 refine dP iM ?_;clear iM;intro u dR e iM zI
 (refine B e ?_;refine B (show dR=[] from zI) ?_;refine B (show u=.none from iM) ?_)
 clear e
 have hi:iq k v=true:=cv.key (s:=s) (.gg h4) ag
 have dL:s.heap.DictOf (kk w) a aS:=⟨ob,es,cq,ak,ar,bP,cW,dn,fe⟩
 have:=jv.gh (k:=k)
 cases e:ba k l with
 |some y=>
  replace this:=e▸this
  refine bb this ?_;clear this;intro u Y aC
  refine call_meetsIn F.slot_dict_pop dL.typeIs F.entry_dict_pop (F.args_dict_pop_3 _ _ _) (meets_dict_pop_there (kk w) a hi [.none] (.inr ⟨_,rfl⟩) (Gm hi)) ⟨aS,u,dL,by refine B jv.length ?_;exact Nat.le_trans hz ja,Y,fun h' sZ fr=> ?_⟩
  refine p0 sZ ?_;clear sZ;intro hu d3 vj ea fH ht kY pS su
  refine ef (I.qy (tk:=s.toks+1) bz bi fr (c':=.V (ib k l)) ⟨hu,d3,vj,_,aL,ea,fH,ht,kY,pS,su,dV.Qp l jv fe⟩) ?_;intro hq eX g1
  exact⟨ρ,hq,eX,g1,aC⟩
 |none=>
  replace this:=e▸this
  refine call_meetsIn F.slot_dict_pop dL.typeIs F.entry_dict_pop (F.args_dict_pop_3 _ _ _) (meets_dict_pop_default (kk w) a hi aL (Gm hi) .none) ⟨aS,dL,this,?_⟩
  refine ef (I.qy (tk:=s.toks+1) (h':=s.heap) bz bi (Heap.SameBut.refl ..) (c':=.V (ib k l)) ⟨ob,es,cq,_,aL,ak,ar,bP,cW,dn,fe,by refine B (Op l e) ?_;exact jv⟩) ?_;intro hq eX g1
  exact⟨ρ,hq,eX,g1,rfl⟩
theorem TB {x:Str} {l:List H} {v:H} {fc:Value} {be:List Value} (hz:l.length<=a4) (bi:Mine.getL x fs.loc=some (.aD (.am l))) (I:aK w CM K env J ρ s fs)
  (aP:eP w CM ρ₀ ρ s fs (.var x) fc) (ay:a8 w CM ρ [v] be):
  wpAny (model aw w) A (call (.builtin "list.append") (fc::be)) (b4 w CM K env J ρ s fs (.U .none) {fs with loc:=bX x (.aD (.am (l++[v]))) fs.loc}) cc s:=by
 obtain⟨a,rfl,bz,vs,n,M,O⟩:=aP.rX I bi
 refine dP ay ?_;clear ay;intro u t u;subst u;intro h4 iM
 refine B (show t=[] from iM) ?_
 have bC:=O.length
 refine call_meets F.slot_list_append ⟨_,M,rfl⟩ F.entry_list_append (F.args_list_append_2 _ _) (list_append a (Array.mk vs) n u (by simp only [List.size_toArray];refine B bC ?_;exact Nat.le_trans hz ja)) ⟨M,?_⟩
 obtain⟨hq,eX,g1⟩:=I.qy (tk:=s.toks) bz bi (Heap.SameBut.update s.heap a (Obj.mapSeq fun y=>y.push u)) (c':=.am (l++[v])) ⟨vs++[u],n+1,by
  have:=get?_update_seq M (fun y=>y.push u)
  simpa using this,O.append (a8.cons h4 a8.nil)⟩
 exact⟨ρ,hq,eX,g1,rfl⟩
theorem a8.dropLast (l:List H):∀{vs:List Value},a8 w CM ρ l vs->a8 w CM ρ l.dropLast vs.dropLast:=by
 induction l with
 |nil=>intro vs h;refine B (show vs=[] from h) ?_;exact a8.nil
 |cons x r ih=>
  intro vs h
  refine dP h ?_;clear h;intro v t u O Y;subst u
  cases r with
  |nil=>refine B (show t=[] from Y) ?_;exact a8.nil
  |cons b r=>
   have z:=ih Y
   refine dP Y ?_;clear Y;intro eY dR u bR dK;subst u
   exact a8.cons O z
theorem a8.OE {l:List H} {vs:List Value} {x:H} (h:a8 w CM ρ l vs) (e:l.getLast? =some x):∃v,vs[vs.length-1]? =some v/\bY w CM ρ x v:=by
 replace e:=List.getLast?_eq_getElem?▸e
 refine B h.length ?_
 exact h.gh e
theorem Ht {x:Str} {l:List H} {v:H} {fc:Value} (aq:l.getLast? =some v) (hz:l.length<=a4) (bi:Mine.getL x fs.loc=some (.aD (.am l))) (I:aK w CM K env J ρ s fs)
  (aP:eP w CM ρ₀ ρ s fs (.var x) fc):
  wpAny (model aw w) A (call (.builtin "list.pop") [fc]) (b4 w CM K env J ρ s fs (.U v) {fs with loc:=bX x (.aD (.am l.dropLast)) fs.loc}) cc s:=by
 obtain⟨a,rfl,bz,vs,n,M,O⟩:=aP.rX I bi
 refine bb (O.OE aq) ?_;intro y aQ RC
 have bC:=O.length
 have yd:(Array.mk vs)[(Array.mk vs).size-1]? =some y:=by simpa using aQ
 have lB:0<vs.length:=by
  rcases Nat.eq_zero_or_pos vs.length with h|h
  ·rw [List.getElem?_eq_none (by exact W1 h)] at aQ;exact Z aQ
  ·exact h
 refine call_meets F.slot_list_pop ⟨_,M,rfl⟩ F.entry_list_pop (F.args_list_pop_1 _) (PySem.MeetsSeq.list_pop_last a (Array.mk vs) n y yd (by simp only [List.size_toArray];refine B bC ?_;exact Nat.le_trans hz ja)) ⟨M,?_⟩
 have iL:=get?_update_seq M (fun xs=>xs.eraseIdxIfInBounds ((Array.mk vs).size-1))
 have ak:((Array.mk vs).eraseIdxIfInBounds ((Array.mk vs).size-1))=Array.mk vs.dropLast:=by
  unfold Array.eraseIdxIfInBounds
  refine B (dif_pos (by simp;exact Hz lB)) ?_
  apply Array.toList_inj.mp
  refine B Array.toList_eraseIdx ?_
  simp only [List.size_toArray]
  exact List.eraseIdx_eq_dropLast (by exact Vz lB)
 obtain⟨hq,eX,g1⟩:=I.qy (tk:=s.toks) bz bi (Heap.SameBut.update s.heap a (Obj.mapSeq fun xs=>xs.eraseIdxIfInBounds ((Array.mk vs).size-1))) (c':=.am l.dropLast) ⟨vs.dropLast,_,by
  (refine B iL ?_;refine B ak ?_;rfl),a8.dropLast l O⟩
 exact⟨ρ,hq,eX,g1,RC⟩
theorem Tm {x:H} (l:List H):∀{j:Nat},Mine.m9 x l=some j->(∃y,l[j]? =some y/\eR eF y x=some true)/\∀m y,m<j->l[m]? =some y->eR eF y x=some false:=by
 induction l with
 |nil=>intro j q;exact Z q
 |cons y r ih=>
  intro j q
  refine bG q (fun b h q=> ?_) Z
  cases b with
  |true=>exact cC (show some 0=some j from q) ⟨⟨y,rfl,h⟩,fun m z aY=>absurd aY (Nat.not_lt_zero _)⟩
  |false=>
   refine bG (show br (Mine.m9 x r) (fun n=>some (n+1))=some j from q) (fun i aR q=>cC q ?_) Z
   refine⟨(ih aR).1,fun m u aY b2=> ?_⟩
   cases m with
   |zero=>refine bu (Option.some.inj b2) ?_;exact h
   |succ m=>exact(ih aR).2 m u (Nat.lt_of_succ_lt_succ aY) b2
open Classical in
theorem Pc {l:List H} {eV:H} {j:Nat} {fc:Value} {be:List Value} (b2:A.units+40<cLine) (hz:l.length<=a4) (t2:l.all (fun y=>mH y&&(eR eF y eV).isSome)=true) (bF:Mine.m9 eV l=some j) (I:aK w CM K env J ρ s fs) (h:cv w CM ρ s (.am l) fc) (ay:a8 w CM ρ [eV] be):
  wpAny (model aw w) A (call (.builtin "list.index") (fc::be)) (b4 w CM K env J ρ s fs (.U (.int j)) fs) cc s:=by
 refine dz (h.am I.base) ?_;intro a vs n u;subst u;intro M O
 refine dP ay ?_;clear ay;intro U1 t u;subst u;intro h4 iM
 refine B (show t=[] from iM) ?_
 refine cl (Tm l bF) ?_;intro aQ gI
 refine bb aQ ?_;clear aQ;intro y sL yd
 have bC:=O.length
 have cy:j<vs.length:=by
  rcases Nat.lt_or_ge j l.length with h|h
  ·refine B bC ?_;exact h
  ·replace sL:=(List.getElem?_eq_none h)▸sL;exact Z sL
 have l0:∀(m:Nat) (y:H) (v:Value),l[m]? =some y->vs[m]? =some v->bY w CM ρ y v:=fun m y v ak ar=>by
  refine bb (O.gh ak) ?_;intro eY bP cW
  replace bP:=ar▸bP;cases bP;exact cW
 have Em:∀(m:Nat) (y:H),l[m]? =some y->mH y=true:=fun m y e=>(Bool.and_eq_true_iff.mp (List.all_eq_true.mp t2 _ (List.mem_of_getElem? e))).1
 have WT:∀(m kZ:Nat) (y hm:H) (v:Value),l[m]? =some y->l[kZ]? =some hm->vs[m]? =some v->vs[kZ]? =some v->∀{b gs},eR eF y eV=some b->eR eF hm eV=some gs->b=gs:=fun m kZ y hm v ak ar bP cW {b gs} q cL=>
  Option.some.inj (q.symm.trans (Yg (Em m y ak) (Em kZ hm ar) (l0 m y v ak bP) (l0 kZ hm v ar cW)▸cL))
 let e:Value->Bool:=fun v=>decide (∃(m:Nat) (y:H),l[m]? =some y/\vs[m]? =some v/\eR eF y eV=some true)
 have fw:∀(m:Nat) y v b,l[m]? =some y->vs[m]? =some v->eR eF y eV=some b->e v=b:=fun m y v b ak ar q=>by
  cases b with
  |true=>exact decide_eq_true ⟨m,y,ak,ar,q⟩
  |false=>
   refine decide_eq_false ?_
   rintro ⟨kZ,hm,bP,cW,cL⟩
   have:=WT m kZ y hm v ak bP ar cW q cL
   cases this
 have p2:∀m (aY:m<(Array.mk vs).size),∃y v b,l[m]? =some y/\vs[m]? =some v/\(Array.mk vs)[m]=v/\eR eF y eV=some b:=fun m aY=>by
  have mS:m<vs.length:=by simpa using aY
  have ui:m<l.length:=by refine bu bC ?_;exact mS
  have:=(Bool.and_eq_true_iff.mp (List.all_eq_true.mp t2 _ (List.getElem_mem ui))).2
  refine bT (Option.isSome_iff_exists.mp this) ?_;intro b ah
  exact⟨_,_,b,List.getElem?_eq_getElem ui,List.getElem?_eq_getElem mS,by simp,ah⟩
 refine call_meets F.slot_list_index ⟨_,M,rfl⟩ F.entry_list_index (F.args_list_index_2 _ _) (PySem.SeqAt.list_indexAt a (Array.mk vs) n none #[] U1 e j (by simpa using cy) (by unfold a4 at hz;exact J4 hz bC cy) ?_ (fun m aY PD=> ?_)) ⟨M,fun v RZ=> ?_,eu I ⟨_,rfl⟩⟩
 ·refine ou (p2 j (by simpa using cy)) ?_;intro hm v b bH b7 c7 fl
  refine B c7 ?_
  replace bH:=sL▸bH;cases(bH)
  exact fw j y v true sL b7 yd
 ·refine ou (p2 m aY) ?_;intro hm v b bH b7 c7 fl
  refine B c7 ?_
  exact fw m hm v false bH b7 (gI m hm PD bH)
 ·obtain⟨m,aY,ak⟩:=Array.mem_iff_getElem.mp RZ
  refine ou (p2 m aY) ?_;intro hm eY b bH b7 c7 fl
  have:eY=v:=c7.symm.trans ak
  subst this
  refine B (fw m hm eY b bH b7 fl) ?_
  exact zT I.base eF (by simp only [Around.in1_units];unfold eF;exact T8 b2) (l0 m hm eY bH b7) h4 fl
theorem OK (bl:tn CM bj F) (bA:K.f=F) {k:Nat} {C:cs} (c4:gL w CM bj F k C) (bc:eh K k A) (S:cB w CM K env J A R) {o:Expr} {m:Str} {hY pos:Pos} {args:List Expr} {r r':aU} {fs₃:X}
  (ey:kS o=true) (gW:(hY.endLine==pos.line)=true) (bC:args.length<30) (lg:R.a9 o fs=some (r,fs₁)) (q:iD C R m r args fs₁=some (r',fs₃)) (I:aK w CM K env J ρ s fs):
  wpAny (model aw w) A (eval (.Call (.Attribute o m hY) args [] pos) env) (b4 w CM K env J ρ s fs r' fs₃) cc s:=by
 refine bG q (fun dd M q=> ?_) Z
 cases dd with
 |dT c l=>exact cH q (fun Y q=>bG q (fun f O q=>b5 q (fun self j8 aC q=>b5 q (fun vs fs₂ bR q=>wU q (fun vK per dK q=>b6 q (KJ bl bA c4 bc S ey gW bC lg M O (Option.isNone_iff_eq_none.mp Y) aC bR dK I)) Z) Z) Z) Z) Z
 |V l=>
  refine g2 q (fun aY q=> ?_) fun _ q=>cH q (fun aY q=> ?_) Z
  ·refine B aY ?_
   refine b5 q (fun vs fs₂ bR q=>b5 q (fun k d hd q=>hC q (fun l₂ pe dK f6 q=>b6 q ?_) Z) Z) Z
   exact sq S ey gW bC lg M bR PySem.F.plainAttrs_dict PySem.F.slot_dict_get PySem.F.type_dict_get (fun I h=>Ao I h) (fun I aP ay=>OU f6 I (ie I aP (Cm dK)) (An hd▸ay)) I
  ·refine B aY ?_
   refine bG q (fun x ae q=>b5 q (fun vs fs₂ bR q=>b5 q (fun k d hd q=>hC q (fun l₂ pe dK f6 q=>cH q (fun hz q=>b6 q ?_) Z) Z) Z) Z) Z
   have hz:=Bool.and_eq_true_iff.mp hz
   have e:=An hd
   replace e:=(OT hz.1)▸e
   exact sq S ey gW bC lg M bR PySem.F.plainAttrs_dict PySem.F.slot_dict_pop PySem.F.type_dict_pop (fun I h=>Ao I h) (fun I aP ay=>Yl f6 (of_decide_eq_true hz.2) (ol (Cm dK)) I (vS ae▸aP) (e▸ay)) I
 |am l=>
  refine g2 q (fun aY q=> ?_) fun _ q=>g2 q (fun aY q=> ?_) fun _ q=>cH q (fun aY q=> ?_) Z
  ·refine B aY ?_
   refine bG q (fun x ae q=>b5 q (fun vs fs₂ bR q=>hC q (fun v l₂ h4 dK q=>cH q (fun hz q=>b6 q ?_) Z) Z) Z) Z
   exact sq S ey gW bC lg M bR PySem.F.plainAttrs_list PySem.F.slot_list_append PySem.F.type_list_append (fun I h=>xP I h) (fun I aP ay=>TB hz (ol (vz dK)) I (vS ae▸aP) (wh h4▸ay)) I
  ·refine B aY ?_
   refine bG q (fun x ae q=>bG q (fun l₂ dK q=>bG q (fun v aq q=>cH q (fun hz q=>b6 q ?_) Z) Z) Z) Z
   have hz:=Bool.and_eq_true_iff.mp hz
   rw [List.isEmpty_iff.mp hz.1] at bC|-
   refine sq S ey gW bC lg M (vs:=[]) (fs₂:=fs₁) rfl PySem.F.plainAttrs_list PySem.F.slot_list_pop PySem.F.type_list_pop (fun I h=>xP I h) (fun I aP ay=> ?_) I
   refine B (show _=[] from ay) ?_
   exact Ht aq (of_decide_eq_true hz.2) (ol (vz dK)) I (vS ae▸aP)
  ·refine B aY ?_
   refine b5 q (fun vs fs₂ bR q=>hC q (fun v l₂ h4 dK q=>cH q (fun hz q=>bG q (fun i aR q=>b6 q ?_) Z) Z) Z) Z
   have hz:=Bool.and_eq_true_iff.mp hz
   exact sq S ey gW bC lg M bR PySem.F.plainAttrs_list PySem.F.slot_list_index PySem.F.type_list_index (fun I h=>xP I h) (fun I aP ay=>Pc (by have:=bc.units;exact Pv this) (of_decide_eq_true hz.1) hz.2 aR I (ie I aP (vz dK)) (wh h4▸ay)) I
 |_=>exact Z q
end
end Mine
end
section
open PySem PySem.W PySem.Calls PyProof.Rows
namespace Mine
section
variable{w:World} {CM:cn} {bj:dM} {F:Frag} {K:Top} {env:Env} {J:Scope} {A:Around} {E:Value->Shared->Prop} {ρ ρ₀ aT ρ':a5} {s c9 a7 az:Shared} {fs fs' fs₁:X} {R:bk}
theorem aK.n9 {l:List (Str×cf)} (I:aK w CM K env J ρ s fs) (h:∀y,Mine.getL y l=Mine.getL y fs.loc):aK w CM K env J ρ s {fs with loc:=l}:=
 ⟨I.base,I.c0,I.cJ,I.fx,fun y bh e=>I.eW y bh ((h y).symm.trans e),I.cells,I.frees,I.apart,fun a y e=>let⟨aL,c,M,O⟩:=I.e1 a y e;⟨aL,c,(h y).trans M,O⟩,I.fk⟩
open Classical in
noncomputable def fm (ρ:a5) (x:Str):a5:=fun a=>if ρ a=.aD x then .aV else ρ a
theorem pT {a:Addr} {x:Str} (h:ρ a≠.aD x):fm ρ x a=ρ a:=if_neg h
theorem oW {a:Addr} {x y:Str}:fm ρ x a=.aD y↔ρ a=.aD y/\y≠x:=by
 unfold fm
 by_cases e:ρ a=.aD x
 ·refine B (if_pos e) ?_
  exact⟨fun q=>cT.noConfusion q,fun q=>absurd (cT.aD.inj (q.1.symm.trans e)) q.2⟩
 ·refine B (if_neg e) ?_
  exact⟨fun q=>⟨q,fun cg=>e (by(refine B q ?_;refine B cg ?_;rfl))⟩,fun q=>q.1⟩
theorem aK.fm (I:aK w CM K env J ρ s fs) (x:Str):aK w CM K env J (fm ρ x) s {fs with loc:=jT x fs.loc}/\a1 ρ s (Mine.fm ρ x) s/\(∀a y,Mine.fm ρ x a=.aD y->ρ a=.aD y)/\∀a,Mine.fm ρ x a≠.aD x:=by
 have aB:∀a o,ρ a=.bf o->Mine.fm ρ x a=.bf o:=fun a o e=>(pT (bI e)).trans e
 have an:∀a o,ρ a=.per o->Mine.fm ρ x a=.per o:=fun a o e=>(pT (bI e)).trans e
 have hd:∀a,ρ a=.aV->Mine.fm ρ x a=.aV:=fun a e=>(pT (bI e)).trans e
 have aY:∀a,ρ a=.frame->Mine.fm ρ x a=.frame:=fun a e=>(pT (bI e)).trans e
 have hc:∀a,ρ a=.cell->Mine.fm ρ x a=.cell:=fun a e=>(pT (bI e)).trans e
 have hs:∀a,ρ a=.stack->Mine.fm ρ x a=.stack:=fun a e=>(pT (bI e)).trans e
 have ap:cK w CM K (Mine.fm ρ x) s fs.per:=I.base.qL fun a=>by
  unfold Mine.fm
  by_cases e:ρ a=.aD x
  ·(refine B (if_pos e) ?_;refine B e ?_);exact .inr ⟨trivial,trivial,fun h=>h.elim⟩
  ·exact .inl (if_neg e)
 refine⟨⟨ap,I.c0,aY _ I.cJ,I.fx,fun y bh e=> ?_,fun y e=> ?_,fun y c ak ar=>hd _ (I.frees y c ak ar),I.apart,fun a y e=> ?_,fun a b y ak ar=>I.fk a b y (oW.mp ak).1 (oW.mp ar).1⟩,
  ⟨aB,hd,an,aY,hc,hs,fun a y e=> ?_,fun _ _ _ e=>e,fun _ _ _ e=>⟨_,e⟩,⟨_,_,rfl⟩⟩,fun a y e=>(oW.mp e).1,fun a e=>(oW.mp e).2 rfl⟩
 ·by_cases q:y=x
  ·subst q;replace e:=qW▸e;exact Z e
  ·replace e:=(rQ q)▸e
   refine bb (I.eW y bh e) ?_;intro v M O
   refine⟨v,M,?_⟩
   cases bh with
   |U z=>exact bY.bt aB an O
   |aD z=>
    refine bb O ?_;clear O;intro a Y aC
    exact⟨a,Y,oW.mpr ⟨aC,q⟩⟩
 ·refine dP (I.cells y e) ?_;intro c v M O Y
  exact⟨c,v,M,hc _ O,Y⟩
 ·refine cl (oW.mp e) ?_;intro ak ar
  obtain⟨aL,c,M,O⟩:=I.e1 a y ak
  exact⟨aL,c,by refine B (rQ ar) ?_;exact M,O.bt aB an fun _ e=>e⟩
 ·by_cases q:y=x
  ·subst q;right;left;unfold Mine.fm;(refine B (if_pos e) ?_;rfl)
  ·exact .inl (oW.mpr ⟨e,q⟩)
theorem aK.Dx {x:Str} {m:Str->Option Value} {val:Value} {h':Heap} {tk:Nat} (I:aK w CM K env J ρ s fs) (ae:J.names.lookup x=some .local) (gI:Mine.getL x fs.loc=none) (aY:s.heap.Ns env.locals m)
  (aE:h'.Ns env.locals fun y=>if y=x then some val else m y) (hs:Heap.SameBut env.locals s.heap h'):
  aK w CM K env J ρ {s with heap:=h',toks:=tk} fs/\a1 ρ s ρ {s with heap:=h',toks:=tk}/\e4 env J h' x val:=by
 have dO:=I.cJ
 have b1:∀{b:Addr},ρ b≠.frame->b≠env.locals:=fun h q=>h (by refine B q ?_;exact dO)
 have keep:∀b ob,ρ b≠.frame->s.heap.get? b=some ob->h'.get? b=some ob:=fun b ob h e=>(hs.2 b (b1 h)).trans e
 refine dz (id aE) ?_;intro tC Ms Q1 sV y4 Yu
 have Rz:=I.c0.loc x ae
 refine⟨⟨⟨I.base.fW,I.base.ft,fun b e=> ?_,fun b ob e=>keep b ob (bI e) (I.base.bK b ob e),fun b=> ?_,I.base.gx,fun b k e=> ?_,I.base.inj⟩,I.c0,I.cJ,⟨_,aE⟩,fun y bh e=> ?_,fun y e=> ?_,I.frees,I.apart,fun b y e=> ?_,I.fk⟩,
  ⟨fun _ _ e=>e,fun _ e=>e,fun _ _ e=>e,fun _ e=>e,fun _ e=>e,fun _ e=>e,fun _ _ e=>.inl e,fun b ob e q=>keep b ob (bI e) q,fun b ob e q=>⟨_,keep b ob (bI e) q⟩,⟨_,_,rfl⟩⟩,.inl ⟨ae,Rz,_,aE,if_pos rfl⟩⟩
 ·obtain⟨M,o,O,Y⟩:=I.base.fi b e
  by_cases q:b=env.locals
  ·subst q;exact⟨M,tC,sV,fun vs q=>by replace q:=y4▸q;cases q⟩
  ·exact⟨M,o,(hs.2 b q).trans O,Y⟩
 ·by_cases q:b=env.locals
  ·subst q;refine B dO ?_;exact⟨fun e=>(nomatch e),fun e=>by replace e:=(show h'.get? env.locals=some tC from sV)▸e;exact h3 e⟩
  ·show ρ b=.free↔h'.get? b=none
   refine B (hs.2 b q) ?_;exact I.base.c2 b
 ·refine bb (I.base.fU b k e) ?_;intro y M O
  exact⟨y,M,O.bt (fun _ _ q=>q) (fun _ _ q=>q) fun ob q=>keep b ob (bI e) q⟩
 ·have yt:y≠x:=fun q=>by(replace e:=q▸e;replace e:=gI▸e);exact Z e
  refine bb (I.eW y bh e) ?_;intro v M O
  refine⟨v,?_,O⟩
  rcases M with⟨bV,cE,kZ,cX,dU⟩|⟨bV,cE,c,cX,dU⟩
  ·refine .inl ⟨bV,cE,_,aE,?_⟩
   refine ou cX ?_;clear cX;intro o es cq gj gP kc oY
   refine ou aY ?_;clear aY;intro oy d3 vj sO rA Ed v8
   replace sO:=gj▸sO;cases sO
   replace rA:=gP▸rA;cases rA
   show(if y=x then some val else m y)=some v
   (refine B (if_neg yt) ?_;refine bu (v8 y) ?_;refine B (oY y) ?_);exact dU
  ·refine .inr ⟨bV,cE,c,cX,dU.sameBut hs (b1 ?_)⟩
   rcases bV with bV|bV
   ·refine dP (I.cells y bV) ?_;intro c' eY cP dG _
    replace cP:=cX▸cP;cases cP
    refine B dG ?_;nofun
   ·refine B (I.frees y c bV cX) ?_;nofun
 ·refine gr (I.cells y e) ?_;intro c v M O Y aC
  exact⟨c,v,M,O,Y,aC.sameBut hs Y⟩
 ·obtain⟨aL,c,M,O⟩:=I.e1 b y e
  exact⟨aL,c,M,O.bt (fun _ _ q=>q) (fun _ _ q=>q) fun ob q=>keep b ob (bI e) q⟩
theorem aK.xr {x:Str} {v:H} {val:Value} (I:aK w CM K env J ρ s fs) (gI:∀a,ρ a≠.aD x) (ay:e4 env J s.heap x val) (aP:bY w CM ρ v val):aK w CM K env J ρ s {fs with loc:=bX x (.U v) fs.loc}:=by
 refine⟨I.base,I.c0,I.cJ,I.fx,fun y bh e=> ?_,I.cells,I.frees,I.apart,fun a y e=> ?_,I.fk⟩
 ·by_cases q:y=x
  ·subst q;replace e:=j2▸e;cases e;exact⟨val,ay,aP⟩
  ·replace e:=(iG q)▸e;exact I.eW y bh e
 ·obtain⟨aL,c,M,O⟩:=I.e1 a y e
  exact⟨aL,c,(iG (fun q:y=x=>gI a (by refine bu q ?_;exact e))).trans M,O⟩
theorem aK.HF {x:Str} {a:Addr} {v:H} (I:aK w CM K env J ρ s fs) (ae:J.names.lookup x=some .local) (gI:∀a,ρ a≠.aD x) (ay:e4 env J s.heap x (.ref a)) (bz:ρ a=.aV) (eG:∀x c,J.names.lookup x=some .free->env.cells.lookup x=some c->c≠a) (bx:dN w CM ρ s.heap a v):
  aK w CM K env J (cx ρ a (.aD x)) s {fs with loc:=bX x (.aD v) fs.loc}:=by
 have b1:∀{b:Addr},ρ b≠.aV->b≠a:=fun h q=>h (by refine B q ?_;exact bz)
 have aB:∀b o,ρ b=.bf o->cx ρ a (.aD x) b=.bf o:=fun b o e=>(bq (b1 (bI e))).trans e
 have an:∀b o,ρ b=.per o->cx ρ a (.aD x) b=.per o:=fun b o e=>(bq (b1 (bI e))).trans e
 have iA:∀b y,ρ b=.aD y->cx ρ a (.aD x) b=.aD y:=fun b y e=>(bq (b1 (bI e))).trans e
 have gX:∀b y,cx ρ a (.aD x) b=.aD y->(b=a/\y=x)\/(ρ b=.aD y/\y≠x):=fun b y e=>by
  by_cases q:b=a
  ·subst q;replace e:=dJ▸e;cases e;exact .inl ⟨rfl,rfl⟩
  ·replace e:=(bq q)▸e;exact .inr ⟨e,fun cL=>gI b (cL▸e)⟩
 refine⟨I.base.qL fun b=> ?_,I.c0,(bq (b1 (bI I.cJ))).trans I.cJ,I.fx,fun y bh e=> ?_,fun y e=> ?_,fun y c ak ar=>(bq (eG y c ak ar)).trans (I.frees y c ak ar),I.apart,fun b y e=> ?_,fun b c y ak ar=> ?_⟩
 ·by_cases q:b=a
  ·subst q;(refine B dJ ?_;refine B bz ?_);exact .inr ⟨trivial,trivial,fun h=>h.elim⟩
  ·exact .inl (bq q)
 ·by_cases q:y=x
  ·subst q;replace e:=j2▸e;cases e;exact⟨_,ay,a,rfl,dJ⟩
  ·replace e:=(iG q)▸e
   refine bb (I.eW y bh e) ?_;intro v M O
   exact⟨v,M,O.bt aB an iA⟩
 ·refine dP (I.cells y e) ?_;intro c v M O Y
  exact⟨c,v,M,(bq (b1 (bI O))).trans O,Y⟩
 ·rcases gX b y e with⟨rfl,rfl⟩|⟨ak,ar⟩
  ·exact⟨ae,v,j2,bx.bt aB an fun _ e=>e⟩
  ·obtain⟨aL,c,M,O⟩:=I.e1 b y ak
   exact⟨aL,c,by refine B (iG ar) ?_;exact M,O.bt aB an fun _ e=>e⟩
 ·rcases gX b y ak with⟨rfl,rfl⟩|⟨bZ,bn⟩
  ·rcases gX c y ar with⟨rfl,_⟩|⟨_,ii⟩
   ·rfl
   ·exact absurd rfl ii
  ·rcases gX c y ar with⟨rfl,rfl⟩|⟨ee,_⟩
   ·exact absurd rfl bn
   ·exact I.fk b c y bZ ee
theorem aK.Et {x:Str} {c:Addr} {val:Value} {h':Heap} {tk:Nat} (I:aK w CM K env J ρ s fs) (ae:J.names.lookup x=some .cell) (hc:env.cells.lookup x=some c) (gI:Mine.getL x fs.loc=none)
  (aE:h'.IsCell c (some val)) (hs:Heap.SameBut c s.heap h'):
  aK w CM K env J ρ {s with heap:=h',toks:=tk} fs/\a1 ρ s ρ {s with heap:=h',toks:=tk}/\e4 env J h' x val:=by
 refine gr (I.cells x ae) ?_;intro c' eY gj gP kc oY
 replace gj:=hc▸gj;cases(gj)
 have b1:∀{b:Addr},ρ b≠.cell->b≠c:=fun h q=>h (by refine B q ?_;exact gP)
 have keep:∀b ob,ρ b≠.cell->s.heap.get? b=some ob->h'.get? b=some ob:=fun b ob h e=>(hs.2 b (b1 h)).trans e
 refine bb (id aE) ?_;intro B2 lR PR
 refine⟨⟨⟨I.base.fW,I.base.ft,fun b e=> ?_,fun b ob e=>keep b ob (bI e) (I.base.bK b ob e),fun b=> ?_,I.base.gx,fun b k e=> ?_,I.base.inj⟩,I.c0,I.cJ,let⟨m,e⟩:=I.fx;⟨m,e.sameBut hs (b1 (bI I.cJ))⟩,fun y bh e=> ?_,fun y e=> ?_,I.frees,I.apart,fun b y e=> ?_,I.fk⟩,
  ⟨fun _ _ e=>e,fun _ e=>e,fun _ _ e=>e,fun _ e=>e,fun _ e=>e,fun _ e=>e,fun _ _ e=>.inl e,fun b ob e q=>keep b ob (bI e) q,fun b ob e q=>⟨_,keep b ob (bI e) q⟩,⟨_,_,rfl⟩⟩,.inr ⟨.inl ae,I.c0.fb x ae,c,hc,aE⟩⟩
 ·obtain⟨M,o,O,Y⟩:=I.base.fi b e
  exact⟨M,o,keep b o (fun q=>by replace M:=q▸M;exact M) O,Y⟩
 ·by_cases q:b=c
  ·subst q;refine B gP ?_;exact⟨fun e=>(nomatch e),fun e=>by replace e:=(show h'.get? b=some B2 from lR)▸e;exact h3 e⟩
  ·show ρ b=.free↔h'.get? b=none
   refine B (hs.2 b q) ?_;exact I.base.c2 b
 ·refine bb (I.base.fU b k e) ?_;intro y M O
  exact⟨y,M,O.bt (fun _ _ q=>q) (fun _ _ q=>q) fun ob q=>keep b ob (bI e) q⟩
 ·have yt:y≠x:=fun q=>by(replace e:=q▸e;replace e:=gI▸e);exact Z e
  refine bb (I.eW y bh e) ?_;intro v M O
  refine⟨v,?_,O⟩
  rcases M with⟨bV,cE,kZ,cX,dU⟩|⟨bV,cE,d,cX,dU⟩
  ·exact .inl ⟨bV,cE,kZ,cX.sameBut hs (b1 (bI I.cJ)),dU⟩
  ·exact .inr ⟨bV,cE,d,cX,dU.sameBut hs (fun q=>yt (I.apart y x c (q▸cX) hc))⟩
 ·refine gr (I.cells y e) ?_;intro d v M O Y aC
  by_cases q:d=c
  ·subst q
   exact⟨d,some val,M,O,Y,aE⟩
  ·exact⟨d,v,M,O,Y,aC.sameBut hs q⟩
 ·obtain⟨aL,c',M,O⟩:=I.e1 b y e
  exact⟨aL,c',M,O.bt (fun _ _ q=>q) (fun _ _ q=>q) fun ob q=>keep b ob (bI e) q⟩
theorem uG {x y:Str} {v:cf} {l:List (Str×cf)}:Mine.getL y (bX x v l)=Mine.getL y (bX x v (jT x l)):=by
 by_cases q:y=x
 ·subst q;(refine B j2 ?_;refine B j2 ?_;rfl)
 ·(refine B (iG q) ?_;refine B (iG q) ?_;refine B (rQ q) ?_;rfl)
theorem nY.plain (h:nY env J):(env.scope.kind==.class||(env.scope.kind==.module&&env.locals !=env.globals))=false:=by refine B h.kind ?_;rfl
theorem sT {x:Str} {y:H} {v:Value} {Q:Unit->Shared->Prop} (q:eL J x (.U y) fs=some fs') (I:aK w CM K env J ρ s fs) (aP:bY w CM ρ y v)
  (h:∀ρ' h' tk,aK w CM K env J ρ' {s with heap:=h',toks:=tk} fs'->a1 ρ s ρ' {s with heap:=h',toks:=tk}->(∀a y,ρ' a=.aD y->ρ a=.aD y)->(∀b ob,b≠env.locals->ρ b≠.cell->s.heap.get? b=some ob->h'.get? b=some ob)->Q () {s with heap:=h',toks:=tk}):
  wpAny (model aw w) A (storeName env x v) Q E s:=by
 refine oF (I.fm x) ?_;intro jD ei cP ho
 have gI:Mine.getL x (jT x fs.loc)=none:=qW
 refine zj q (fun ae q=> ?_) (fun ae q=> ?_)<;>(have q:=Option.some.inj (show some _=some fs' from q);subst q)
 ·refine bT I.fx ?_;intro m aY
  refine wpAny_storeName_local (I.c0.loc x ae) aY (fun h' aE hs=> ?_) I.c0.plain
  refine ef (jD.Dx (tk:=s.toks+1) ae gI aY aE hs) ?_;intro kC lX ay
  have oG:=kC.xr (v:=y) ho ay (bY.bt (fun a o e=>ei.bK a o e) (fun a o e=>ei.per a o e) aP)
  exact h _ h' _ (oG.n9 fun z=>uG) (ei.trans lX) cP fun b ob ah _ e=>(hs.2 b ah).trans e
 ·refine gr (I.cells x ae) ?_;intro c XF nw n1 MA zg
  refine wpAny_storeName_cell I.c0.kind (I.c0.fb x ae) nw zg fun h' aE hs=> ?_
  refine ef (jD.Et (tk:=s.toks) ae nw gI aE hs) ?_;intro kC lX ay
  have oG:=kC.xr (v:=y) ho ay (bY.bt (fun a o e=>ei.bK a o e) (fun a o e=>ei.per a o e) aP)
  exact h _ h' _ (oG.n9 fun z=>uG) (ei.trans lX) cP fun b ob _ ah e=>(hs.2 b (fun q=>ah (by refine B q ?_;exact n1))).trans e
theorem z0 {x:Str} {r:aU} {v:Value} {Q:Unit->Shared->Prop} (q:eL J x r fs=some fs') (I:aK w CM K env J ρ s fs) (aP:eP w CM ρ₀ ρ s fs r v) (aL:∀a,ρ₀ a=.free->∀x c,J.names.lookup x=some .free->env.cells.lookup x=some c->c≠a)
  (h:∀ρ' h' tk,aK w CM K env J ρ' {s with heap:=h',toks:=tk} fs'->a1 ρ s ρ' {s with heap:=h',toks:=tk}\/(∀a7,a1 ρ₀ a7 ρ s->a1 ρ₀ a7 ρ' {s with heap:=h',toks:=tk})->(∀a y,ρ' a=.aD y->ρ a=.aD y\/ρ₀ a=.free)->(∀a ob,ρ a=.aV->s.heap.get? a=some ob->h'.get? a=some ob)->(∀a,ρ a=.aV->v≠.ref a->ρ' a=.aV)->Q () {s with heap:=h',toks:=tk}):
  wpAny (model aw w) A (storeName env x v) Q E s:=by
 cases r with
 |var y=>exact zj q (fun _ q=>Z q) fun _ q=>Z q
 |U y=>exact sT q I aP fun ρ' h' tk hq eX b _=>h ρ' h' tk hq (.inl eX) (fun a z e=>.inl (b a z e)) eX.keep fun a e _=>eX.aV a e
 |own y=>
  refine oF (I.fm x) ?_;intro jD ei cP ho
  have gI:Mine.getL x (jT x fs.loc)=none:=qW
  refine gn aP ?_;clear aP;intro a u;subst u;intro sc qH AY
  have bz:Mine.fm ρ x a=.aV:=ei.aV a qH
  have gX:∀{b:Addr} {z:Str} {r:cT},cx (Mine.fm ρ x) a r b=.aD z->ρ b=.aD z\/ρ₀ b=.free:=fun{b z r} e=>by
   by_cases q:b=a
   ·exact .inr (q▸sc)
   ·replace e:=(bq q)▸e;exact .inl (cP b z e)
  have aV:∀{b:Addr} {r:cT},ρ b=.aV->b≠a->cx (Mine.fm ρ x) a r b=.aV:=fun e ah=>(bq ah).trans (ei.aV _ e)
  refine zj q (fun ae q=> ?_) (fun ae q=> ?_)<;>(have q:=Option.some.inj (show some _=some fs' from q);subst q)
  ·refine bT I.fx ?_;intro m aY
   refine wpAny_storeName_local (I.c0.loc x ae) aY (fun h' aE hs=> ?_) I.c0.plain
   refine ef (jD.Dx (tk:=s.toks+1) ae gI aY aE hs) ?_;intro kC lX ay
   have fw:dN w CM (Mine.fm ρ x) h' a y:=AY.bt ei.bK ei.per fun ob e=>(hs.2 a (d7 qH I.cJ)).trans e
   have oG:=kC.HF ae ho ay bz (aL a sc) fw
   exact h _ h' _ (oG.n9 fun z=>uG) (.inr fun a7 av=>(av.trans (ei.trans lX)).kL sc) (fun b z e=>gX e) (ei.trans lX).keep fun b e ah=>aV e (fun q=>ah (by(refine B q ?_;rfl)))
  ·refine gr (I.cells x ae) ?_;intro c XF nw n1 MA zg
   refine wpAny_storeName_cell I.c0.kind (I.c0.fb x ae) nw zg fun h' aE hs=> ?_
   refine ef (jD.Et (tk:=s.toks) ae nw gI aE hs) ?_;intro kC lX ay
   have fw:dN w CM (Mine.fm ρ x) h' a y:=AY.bt ei.bK ei.per fun ob e=>(hs.2 a (d7 qH n1)).trans e
   have Xh:=(kC.nr bz (aL a sc) fw).xr (x:=x) (v:=.per fs.per.length) (fun b e=>by
    by_cases q:b=a
    ·(replace e:=q▸e;replace e:=dJ▸e);exact cT.noConfusion e
    ·replace e:=(bq q)▸e;exact ho b e) ay ⟨a,rfl,dJ⟩
   exact h _ h' _ (Xh.n9 fun z=>uG) (.inr fun a7 av=>(av.trans (ei.trans lX)).kL sc) (fun b z e=>gX e) (ei.trans lX).keep fun b e ah=>aV e (fun q=>ah (by(refine B q ?_;rfl)))
end
end Mine
end
section
open PySem PySem.W PySem.Calls PyProof.Rows
namespace Mine
section
variable{w:World} {CM:cn} {bj:dM} {F:Frag} {K:Top} {env:Env} {J:Scope} {A:Around} {E:Value->Shared->Prop} {ρ ρ₀ aT ρ':a5} {s c9 a7 az:Shared} {fs fs' fs₁:X} {R:bk}
structure mV (w:World) (CM:cn) (A:Around) (ρ:a5) (s:Shared) (items:List H) (o:Obj) (fo:List Addr) (P:Nat->Value->Prop) (cA:Nat->Heap->Prop):Prop where
 ku:Walks aw w A s.heap.objs.size fo [s.heap.objs.size] items.length P cA
 e5:o.isFreed=false
 t8:∀i h,cA i h->∃ob,h.get? s.heap.objs.size=some ob
 ao:cA 0 (s.heap.push o)
 foot:∀b∈fo,b≠s.heap.objs.size->∃ob,ρ b=.bf ob
 be:∀i v,i<items.length->P i v->∃x,items[i]? =some x/\bY w CM ρ x v
noncomputable def jZ (w:World) (CM:cn) (A:Around) (K:Top) (env:Env) (J:Scope) (ρ:a5) (s:Shared) (fs:X) (items:List H) (fs':X) (dj:Value) (az:Shared):Prop:=
 ∃ρ' aj o fo P cA,dj=.ref aj.heap.objs.size/\az={aj with heap:=aj.heap.push o}/\aK w CM K env J ρ' aj fs'/\a1 ρ s ρ' aj/\cb ρ fs.loc ρ' fs'.loc/\mV w CM A ρ' aj items o fo P cA
theorem PK {e:Expr} (h:∀es k p,e≠.Set es k p):∀x,foldedSetIterable e env x=pure x:=by
 intro x
 cases e<;>first|rfl|exact absurd rfl (h _ _ _)
theorem aK.push {o:Obj} (I:aK w CM K env J ρ s fs) (ln:o.isFreed=false):aK w CM K env J (bQ ρ (s.heap.push o)) {s with heap:=s.heap.push o} fs/\a1 ρ s (bQ ρ (s.heap.push o)) {s with heap:=s.heap.push o}/\cb ρ fs.loc (bQ ρ (s.heap.push o)) fs.loc/\
  bQ ρ (s.heap.push o) s.heap.objs.size=.aV/\ρ s.heap.objs.size=.free:=by
 have ag:∀b ob,s.heap.get? b=some ob->(s.heap.push o).get? b=some ob:=fun b ob e=>Heap.get?_push_of_some _ e
 have aL:ρ s.heap.objs.size=.free:=(I.base.c2 _).mpr fd
 exact⟨I.dD (tk:=s.toks) ag,a1.dD (tk:=s.toks) ag,cb.dD,gR aL (Heap.get?_push_size _ ln),aL⟩
theorem sS {o:Obj} {items:List H} {fo:List Addr} {P:Nat->Value->Prop} {cA:Nat->Heap->Prop} (ln:o.isFreed=false) (I:aK w CM K env J ρ s fs)
  (W:Walks aw w A s.heap.objs.size fo [s.heap.objs.size] items.length P cA) (t8:∀i h,cA i h->∃ob,h.get? s.heap.objs.size=some ob) (ao:cA 0 (s.heap.push o)) (foot:∀b∈fo,b≠s.heap.objs.size->∃ob,ρ b=.bf ob)
  (be:∀i v,i<items.length->P i v->∃x,items[i]? =some x/\bY w CM ρ x v):jZ w CM A K env J ρ s fs items fs (.ref s.heap.objs.size) {s with heap:=s.heap.push o}:=
 ⟨ρ,s,o,fo,P,cA,rfl,rfl,I,a1.refl ..,cb.refl ..,W,ln,t8,ao,foot,be⟩
theorem jZ.trans {aN:a5} {aj ct:Shared} {fs₂:X} {items:List H} {dj:Value} (av:a1 ρ s aN aj) (dv:cb ρ fs.loc aN fs₁.loc) (q:jZ w CM A K env J aN aj fs₁ items fs₂ dj ct):jZ w CM A K env J ρ s fs items fs₂ dj ct:=by
 obtain⟨b8,Ik,o,fo,P,cA,M,O,e6,eX,g1,W⟩:=q
 exact⟨b8,Ik,o,fo,P,cA,M,O,e6,av.trans eX,dv.trans g1,W⟩
theorem Pl {l:List (al×H)} {a:Addr} (h:bY w CM ρ (.V l) (.ref a)):∃ob,ρ a=.bf ob:=
 h.elim fun b h=>h.elim fun ob h=>h.elim fun _ h=>h.elim fun _ h=>h.elim fun _ h=>⟨ob,by refine B (Value.ref.inj h.1) ?_;exact h.2.2.1⟩
theorem Bt (bc:f4 K A) {x:H} {v:Value} {items:List H} (q:qb x=some items) (I:aK w CM K env J ρ s fs) (h:bY w CM ρ x v):wpAny (model aw w) A (pyIter v) (jZ w CM A K env J ρ s fs items fs) E s:=by
 have bx:=I.base.mb bc
 have cy:=o0 bx
 have d8:s.heap.objs.size∉Mine.dS A:=fun q=>Nat.lt_irrefl _ (cy _ q)
 have r5:∀{d:Addr} {ob:Obj},ρ d=.bf ob->∀b∈s.heap.objs.size::d::Mine.dS A,b≠s.heap.objs.size->∃ob,ρ b=.bf ob:=fun hd b ah aE=>by
  rcases List.mem_cons.mp ah with e|ah
  ·exact absurd e aE
  ·rcases List.mem_cons.mp ah with e|ah
   ·refine B e ?_;exact⟨_,hd⟩
   ·exact I.base.dS bc b ah
 cases x with
 |am l=>
  refine cC q ?_
  refine dz h ?_;clear h;intro a vs n u;subst u;intro M O
  have iP:=I.base.bK _ _ M
  have aq:s.heap.IsList a (Array.mk vs):=fA iP
  refine wpAny_pyIter_list aq ?_
  have bC:=O.length
  have W:=yB (w:=w) (A:=A) s.heap.objs.size a (Nat.ne_of_lt (Heap.lt_size iP)) d8 (Array.mk vs)
  replace W:=(show(Array.mk vs).size=l.length from bC)▸W
  refine sS rfl I W (fun i h z=>let⟨o,cr,_⟩:=z.1.1;⟨o,cr⟩) ⟨⟨⟨_,Heap.get?_push_size _ rfl,rfl,rfl⟩,aq.push _⟩,bx.keeps fun b _ o e=>Heap.get?_push_of_some _ e⟩ (r5 M) fun i v aR ay=> ?_
  refine bb (O.gh (List.getElem?_eq_getElem aR)) ?_;intro u ak ar
  exact⟨_,List.getElem?_eq_getElem aR,Option.some.inj (ak.symm.trans ((List.getElem?_toArray ..).symm.trans ay))▸ar⟩
 |aF l=>
  refine cC q ?_
  refine dz h ?_;clear h;intro a vs n u;subst u;intro M O
  have iP:=I.base.bK _ _ M
  have aq:s.heap.IsTuple a (Array.mk vs):=l7 iP
  refine wpAny_pyIter_tuple aq ?_
  have bC:=O.length
  have W:=Af (w:=w) (A:=A) s.heap.objs.size a (Nat.ne_of_lt (Heap.lt_size iP)) d8 (Array.mk vs)
  replace W:=(show(Array.mk vs).size=l.length from bC)▸W
  refine sS rfl I W (fun i h z=>let⟨o,cr,_⟩:=z.1.1;⟨o,cr⟩) ⟨⟨⟨_,Heap.get?_push_size _ rfl,rfl,rfl⟩,aq.push _⟩,bx.keeps fun b _ o e=>Heap.get?_push_of_some _ e⟩ (r5 M) fun i v aR ay=> ?_
  refine bb (O.gh (List.getElem?_eq_getElem aR)) ?_;intro u ak ar
  exact⟨_,List.getElem?_eq_getElem aR,Option.some.inj (ak.symm.trans ((List.getElem?_toArray ..).symm.trans ay))▸ar⟩
 |V l=>
  refine cC q ?_
  refine gr ((cv.gg (s:=s) h).V I.base) ?_;intro a aS u;subst u;intro aL dL jv
  have M:=(Pl h).choose_spec
  refine bT dL.dictAt ?_;intro cq fw
  refine wpAny_pyIter_dict aL fw ?_
  have bC:=jv.length
  have W:=BH (w:=w) (A:=A) (knd:=kk w) s.heap.objs.size a (Nat.ne_of_lt fw.lt_size) d8 aS cq
  (replace W:=bC▸W;replace W:=(Eq.symm (List.length_map (f:=fun p:al×H=>p8 p.1) (as:=l)))▸W)
  refine sS rfl I W (fun i h z=>let⟨o,cr,_⟩:=z.1.1;⟨o,cr⟩) ⟨⟨⟨_,Heap.get?_push_size _ rfl,rfl,by simp [bC]⟩,by have:=fw.push {cls:=.type "dict_keyiterator",data:=.fields #[.ref a,.int 0 0,.int aS.length 0,.int cq 0]};simpa [bC] using this⟩,bx.keeps fun b _ o e=>Heap.get?_push_of_some _ e⟩ (r5 M) fun i v aR ay=> ?_
  refine hw ay ?_;clear ay;intro k y ag qJ
  have nE:=jv.wu
  have n5:(aS.map (·.1))[i]? =some k:=by(refine B List.getElem?_map ?_;refine B ag ?_);rfl
  (replace n5:=nE▸n5;replace n5:=List.getElem?_map▸n5)
  refine bb (Option.map_eq_some_iff.mp n5) ?_;intro p an u;subst u
  refine⟨p8 p.1,by(refine B List.getElem?_map ?_;refine B an ?_);rfl,?_⟩
  generalize p.1=k at qJ
  cases k with
  |int n=>exact jp qJ
  |str n=>exact jG qJ
 |_=>exact Z q
theorem t0 {a:Expr} {v:H} (h:d0 R a fs=some (v,fs')):dk R [a] fs=some ([v],fs'):=by
 show ob (d0 R a fs) _=_
 refine B h ?_;rfl
theorem XH (bl:jS CM bj K.f) (bc:f4 K A) (S:cB w CM K env J A R) {e a:Expr} {n:Int} (bv:d0 R a fs=some (.int n,fs')) (hz:(decide (-1048576<=n)&&decide (n<=1048576))=true) (ae:J.names.lookup ("range":Str)=some .globalImplicit)
  (aW:∃p q,e=.Call (.Name "range" p) [a] [] q) (I:aK w CM K env J ρ s fs):
  (∀x,foldedSetIterable e env x=pure x)/\wpAny (model aw w) A (eval e env) (fun eV aj=>wpAny (model aw w) A (pyIter eV) (jZ w CM A K env J ρ s fs ((List.range n.toNat).map fun(i:Nat)=>H.int i) fs') cc aj) cc s:=by
 refine jf aW ?_;clear aW;intro IX pos u;subst u
 have k7:=of_decide_eq_true (Bool.and_eq_true_iff.mp hz).1
 have ky:=of_decide_eq_true (Bool.and_eq_true_iff.mp hz).2
 clear hz
 refine⟨fun x=>rfl,md (bl.vo "range" (by decide)) ae I (pz (.inr (by decide))) ?_⟩
 refine PyProof.Rows.callWith_type (sm S _ (t0 bv)).1 (CH S (t0 bv) I fun be aj aN aZ a0 bw ay=> ?_)
 refine dP ay ?_;clear ay;intro v t u ay aG;subst u
 refine ay.elim fun tk u=> ?_;subst u
 refine B (show t=[] from aG) ?_
 refine call_range_1 ?_
 refine jY ((aZ.tok (tk:=aj.toks+1+1)).push (o:={cls:=.type "range",data:=.fields #[.int 0 aj.toks,.int n tk,.int 1 (aj.toks+1)]}) rfl) ?_;intro cN ca dF pJ mF
 have aP:=IsRange.new aj.heap 0 n 1 aj.toks tk (aj.toks+1)
 refine wpAny_pyIter_range (s:={aj with heap:=aj.heap.push {cls:=.type "range",data:=.fields #[.int 0 aj.toks,.int n tk,.int 1 (aj.toks+1)]},toks:=aj.toks+1+1}) aP (small_one (by decide) (by decide) (by exact NM k7) (by exact Ni ky)) ?_
 have dq:Builtin.Range.rangeSize 0 n 1=(n.toNat:Int):=by refine B (rangeSize_one _ _) ?_;split<;>omega
 have bx:=cN.base.mb bc
 have d8:(aj.heap.push {cls:=.type "range",data:=.fields #[.int 0 aj.toks,.int n tk,.int 1 (aj.toks+1)]}).objs.size∉Mine.dS A:=fun q=>Nat.lt_irrefl _ (o0 bx _ q)
 have W:=HH (w:=w) (A:=A) _ d8 0 1 ((List.range n.toNat).map fun(i:Nat)=>H.int i).length
 have bC:((List.range n.toNat).map fun(i:Nat)=>H.int i).length=n.toNat:=by simp
 refine jZ.trans ((a0.trans (a1.tok (tk:=aj.toks+1+1))).trans ca) (bw.trans dF) (sS (items:=(List.range n.toNat).map fun(i:Nat)=>H.int i) rfl cN W (fun i h z=>⟨_,z.1⟩) ⟨?_,dw.keeps (A:=A) bx fun b _ o e=>Heap.get?_push_of_some _ e⟩ (fun b ah Qo=> ?_) fun i v aR ay=> ?_)
 ·have:=Heap.get?_push_size (aj.heap.push {cls:=.type "range",data:=.fields #[.int 0 aj.toks,.int n tk,.int 1 (aj.toks+1)]}) (o:={cls:=.type "range_iterator",data:=.fields #[rawInt 0,rawInt (Builtin.Range.rangeSize 0 n 1),rawInt 1]}) rfl
  rw [dq] at this|-
  refine B bC ?_
  simpa using this
 ·rcases List.mem_cons.mp ah with e|ah
  ·exact absurd e Qo
  ·exact cN.base.dS bc b ah
 ·refine bT ay ?_;clear ay;intro PI u;subst u
  have vu:i<n.toNat:=by simpa using aR
  exact⟨.int i,by(refine B List.getElem?_map ?_;refine B (List.getElem?_range vu) ?_);rfl,PI,by simp⟩
theorem OA (bl:jS CM bj K.f) (bc:f4 K A) (S:cB w CM K env J A R) {e a:Expr} {l:List H} (bv:d0 R a fs=some (.am l,fs')) (ae:J.names.lookup ("reversed":Str)=some .globalImplicit)
  (aW:∃p q,e=.Call (.Name "reversed" p) [a] [] q) (I:aK w CM K env J ρ s fs):
  (∀x,foldedSetIterable e env x=pure x)/\wpAny (model aw w) A (eval e env) (fun eV aj=>wpAny (model aw w) A (pyIter eV) (jZ w CM A K env J ρ s fs l.reverse fs') cc aj) cc s:=by
 refine jf aW ?_;clear aW;intro IX pos u;subst u
 refine⟨fun x=>rfl,md (bl.vo "reversed" (by decide)) ae I (pz (.inr (by decide))) ?_⟩
 refine PyProof.Rows.callWith_type (sm S _ (t0 bv)).1 (CH S (t0 bv) I fun be aj aN aZ a0 bw ay=> ?_)
 refine dP ay ?_;clear ay;intro v t u ay aG;subst u
 refine dz ay ?_;clear ay;intro ad vs n u O Y;subst u
 refine B (show t=[] from aG) ?_
 have wk:=aZ.base.bK _ _ O
 have bC:=Y.length
 refine call_reversed_list (fA wk) ?_
 have bx:=aZ.base.mb bc
 have d8:aj.heap.objs.size∉Mine.dS A:=fun q=>Nat.lt_irrefl _ (o0 bx _ q)
 have D0:(aj.heap.push (revObj ad (((Array.mk vs).size:Int)-1))).IsRevIter aj.heap.objs.size ad (((Array.mk vs).size:Int)-1):=⟨_,Heap.get?_push_size _ rfl,rfl,rfl⟩
 refine wpAny_pyIter_revIter (s:={aj with heap:=aj.heap.push (revObj ad (((Array.mk vs).size:Int)-1))}) D0 ?_
 have W:=Qe (w:=w) (A:=A) aj.heap.objs.size ad (Nat.ne_of_lt (Heap.lt_size wk)) d8 (Array.mk vs)
 replace W:=(show(Array.mk vs).size=l.reverse.length by simpa using bC)▸W
 refine jZ.trans a0 bw (sS rfl aZ W (fun i h z=>let⟨o,cr,_⟩:=z.1.2.1;⟨o,cr⟩) ⟨⟨Nat.zero_le _,by simpa [bC] using D0,(fA wk).push _⟩,bx.keeps fun b _ o e=>Heap.get?_push_of_some _ e⟩ (fun b ah aE=> ?_) fun i v aR ay=> ?_)
 ·rcases List.mem_cons.mp ah with e|ah
  ·exact absurd e aE
  ·rcases List.mem_cons.mp ah with e|ah
   ·refine B e ?_;exact⟨_,O⟩
   ·exact aZ.base.dS bc b ah
 ·have vu:i<l.length:=by simpa using aR
  have wC:vs[l.length-1-i]? =some v:=by simpa using ay
  have bF:l.length-1-i<l.length:=by exact Wp vu
  refine bb (Y.gh (List.getElem?_eq_getElem bF)) ?_;intro u ak ar
  replace ak:=wC▸ak;cases ak
  exact⟨_,by(refine B (List.getElem?_reverse vu) ?_;refine B (List.getElem?_eq_getElem bF) ?_;rfl),ar⟩
theorem vU (bl:jS CM bj F) (bA:K.f=F) (bc:f4 K A) (S:cB w CM K env J A R) {e:Expr} {items:List H} (q:hG R J e fs=some (items,fs')) (I:aK w CM K env J ρ s fs):
  (∀x,foldedSetIterable e env x=pure x)/\wpAny (model aw w) A (eval e env) (fun eV aj=>wpAny (model aw w) A (pyIter eV) (jZ w CM A K env J ρ s fs items fs') cc aj) cc s:=by
 replace bl:=(Eq.symm bA)▸bl
 have other:nG R qb e fs=some (items,fs')->(∀x,foldedSetIterable e env x=pure x)/\wpAny (model aw w) A (eval e env) (fun eV aj=>wpAny (model aw w) A (pyIter eV) (jZ w CM A K env J ρ s fs items fs') cc aj) cc s:=fun q=>
  b5 q (fun v fs₁ bv q=>bG q (fun l aq q=>b6 q ⟨PK fun es k p h=>b5 (h▸bv) (fun r fs₂ dI _=>Z ((S.set es k p fs).symm.trans dI)) Z,r8 S bv I fun v aj aN aZ a0 bw aP=>wpAny_mono (Bt bc aq aZ aP) (fun dj ct P=>P.trans a0 bw) fun _ _ f=>f⟩) Z) Z
 unfold hG at q
 generalize hc:yk e=c at q
 cases c with
 |none=>exact other q
 |some p=>
  obtain⟨f,a⟩:=p
  refine cH q (fun ae q=>g2 q (fun aB q=> ?_) fun _ q=>g2 q (fun aB q=> ?_) fun _ q=>other q) Z<;>clear other
  ·refine b5 q (fun n fs₁ bv q=>bG q (fun l aq q=>b6 q ?_) Z) Z
   exact bG aq (fun n aE aq=>cH aq (fun hz aq=>cC aq (XH bl bc S (jy aE▸bv) hz (aB▸ae) (aB▸DP hc) I)) Z) Z
  ·refine b5 q (fun n fs₁ bv q=>bG q (fun l aq q=>b6 q ?_) Z) Z
   exact bG aq (fun n aE aq=>cC aq (OA bl bc S (sC aE▸bv) (aB▸ae) (aB▸DP hc) I)) Z
end
end Mine
end
section
open PySem PySem.W PySem.Calls PyProof.Rows
namespace Mine
theorem wW {env:Env}:∀(names:List (Str×NameKind)) (fM:List (Str×Addr)),(∀n k,(n,k)∈names->k=.free->∃c,env.cells.lookup n=some c)->(∀n c,(n,c)∈fM->env.cells.lookup n=some c)->
  ∃eK,(forIn names fM fun(x:Str×NameKind) r=>(if(x.2==.free)=true then(do let a<-cellOf env x.1;pure (ForInStep.yield ((x.1,a)::r))) else pure (ForInStep.yield r):Sem (ForInStep (List (Str×Addr)))))=(pure eK:Sem _)/\
   (∀n c,(n,c)∈eK->env.cells.lookup n=some c)/\(∀n c,(n,c)∈fM->∃c',(n,c')∈eK)/\∀n,(n,NameKind.free)∈names->∃c,(n,c)∈eK
 |[],fM,_,tQ=>⟨fM,rfl,tQ,fun n c h=>⟨c,h⟩,fun n h=>nomatch h⟩
 |(n,k)::r,fM,aE,tQ=>by
  rw [List.forIn_cons]
  by_cases ag:k=.free
  ·subst ag
   refine bT (aE n .free List.mem_cons_self rfl) ?_;intro c hc
   obtain⟨eK,M,O,Y,aC⟩:=wW r ((n,c)::fM) (fun m k h=>aE m k (List.mem_cons_of_mem _ h)) (fun m d h=>by
    rcases List.mem_cons.mp h with e|h
    ·cases e;exact hc
    ·exact tQ m d h)
   refine⟨eK,?_,O,fun m d h=>Y m d (List.mem_cons_of_mem _ h),fun m h=> ?_⟩
   ·refine B (if_pos (show((n,NameKind.free).2==NameKind.free)=true from rfl)) ?_
    unfold cellOf
    refine B hc ?_
    simp only [pure_bind]
    exact M
   ·rcases List.mem_cons.mp h with e|h
    ·cases e;exact Y n c List.mem_cons_self
    ·exact aC m h
  ·refine gn (wW r fM (fun m k h=>aE m k (List.mem_cons_of_mem _ h)) tQ) ?_;intro eK M O Y aC
   refine⟨eK,?_,O,Y,fun m h=> ?_⟩
   ·refine B (if_neg (show¬((n,k).2==NameKind.free)=true from by simpa using ag)) ?_
    simp only [pure_bind]
    exact M
   ·rcases List.mem_cons.mp h with e|h
    ·cases e;exact absurd rfl ag
    ·exact aC m h
theorem GF {env:Env} {scope:Scope} (aE:∀n k,(n,k)∈scope.names->k=.free->∃c,env.cells.lookup n=some c):
  ∃eK,closureFor scope env=pure eK/\(∀n c,eK.lookup n=some c->env.cells.lookup n=some c)/\∀n,scope.names.lookup n=some .free->∃c,eK.lookup n=some c:=by
 refine gn (wW scope.names [] aE (fun n c h=>nomatch h)) ?_;intro eK M O Y aC
 refine⟨eK,?_,fun n c h=>O n c (mem_of_lookup h),fun n h=> ?_⟩
 ·unfold closureFor
  simp only []
  (refine bu (bind_pure (pure eK:Sem (List (Str×Addr)))) ?_;refine bu M ?_;rfl)
 ·refine bT (aC n (mem_of_lookup h)) ?_;intro c hc
  cases e:eK.lookup n with
  |some d=>exact⟨d,rfl⟩
  |none=>
   have:=List.lookup_eq_none_iff.mp e (n,c) hc
   simp at this
theorem wq {env:Env}:∀{names:List (Str×NameKind)} {x:Str},names.lookup x=some .free->env.scope.kind=.function->env.kindOf x=some .cell->
  (names.map fun(n,k)=>if(k==NameKind.free&&env.scope.kind==.function&&env.kindOf n==some .cell) then(n,NameKind.cell) else(n,k)).lookup x=some .cell
 |[],_,h,_,_=>by simp at h
 |(n,k)::r,x,h,ag,hc=>by
  have ih:= @wq env r x
  show List.lookup x ((if(k==NameKind.free&&env.scope.kind==.function&&env.kindOf n==some .cell)=true then(n,NameKind.cell) else(n,k))::_)=_
  cases ae:x==n with
  |true=>
   simp only [List.lookup_cons,ae] at h
   refine oD h ?_;clear h;intro u;subst u
   have mv:=beq_iff_eq.mp ae
   subst mv
   refine B (if_pos (by rw [ag,hc];rfl)) ?_
   simp [List.lookup_cons]
  |false=>
   simp only [List.lookup_cons,ae] at h
   by_cases fR:(k==NameKind.free&&env.scope.kind==.function&&env.kindOf n==some .cell)=true
   ·refine B (if_pos fR) ?_;simp only [List.lookup_cons,ae];exact ih h ag hc
   ·refine B (if_neg fR) ?_;simp only [List.lookup_cons,ae];exact ih h ag hc
theorem DC {env:Env}:∀{names:List (Str×NameKind)} {x:Str},names.lookup x=some .globalImplicit->
  (names.map fun(n,k)=>if(k==NameKind.free&&env.scope.kind==.function&&env.kindOf n==some .cell) then(n,NameKind.cell) else(n,k)).lookup x=some .globalImplicit
 |[],_,h=>by simp at h
 |(n,k)::r,x,h=>by
  have ih:= @DC env r x
  show List.lookup x ((if(k==NameKind.free&&env.scope.kind==.function&&env.kindOf n==some .cell)=true then(n,NameKind.cell) else(n,k))::_)=_
  cases ae:x==n with
  |true=>
   simp only [List.lookup_cons,ae] at h
   refine oD h ?_;clear h;intro u;subst u
   simp [List.lookup_cons,ae]
  |false=>
   simp only [List.lookup_cons,ae] at h
   by_cases fR:(k==NameKind.free&&env.scope.kind==.function&&env.kindOf n==some .cell)=true
   ·refine B (if_pos fR) ?_;simp only [List.lookup_cons,ae];exact ih h
   ·refine B (if_neg fR) ?_;simp only [List.lookup_cons,ae];exact ih h
theorem X7 {aX:Scope} {loc:List (Str×cf)} {x:Str} {bh:cf} (h:Mine.getL x (mg aX loc)=some bh):aX.names.lookup x=some .free/\∃v,bh=.U v/\Mine.getL x loc=some (.U v):=by
 unfold mg at h
 have key:∀(l:List (Str×cf)),Mine.getL x (l.filterMap fun p=>if aX.names.lookup p.1=some .free then(match Mine.getL p.1 loc with
   |some (.U v)=>some (p.1,cf.U v)
   |_=>none) else none)=some bh->aX.names.lookup x=some .free/\∃v,bh=.U v/\Mine.getL x loc=some (.U v):=by
  intro l
  induction l with
  |nil=>intro h;exact Z h
  |cons p r ih=>
   intro h
   replace h:=List.filterMap_cons▸h
   split at h
   ·exact ih h
   ·rename_i b ah
    refine cH ah ?_ Z;clear ah;intro eG ah
    split at ah
    ·rename_i v ay
     refine oD ah ?_;clear ah;intro u;subst u
     unfold Mine.getL at h
     split at h
     ·rename_i e
      refine oD h ?_;clear h;intro u;subst u
      subst e
      exact⟨eG,v,rfl,ay⟩
     ·exact ih h
    ·exact Z ah
 exact key loc h
structure zB (J aX:Scope):Prop where
 kind:aX.kind=.function
 cell:∀y∈aX.names,y.2≠.cell
 loc:∀y∈aX.names,y.2=.local->aX.names.lookup y.1=some .local
 c2:∀n,(n,NameKind.free)∈aX.names->J.names.lookup n=some .cell
theorem EL {J aX:Scope} (h:n4 J aX=true):zB J aX:=by
 unfold n4 at h
 simp only [Bool.and_eq_true,beq_iff_eq,List.all_eq_true] at h
 refine cl h ?_;clear h;intro M O
 refine⟨M,fun y aQ q=> ?_,fun y aQ q=> ?_,fun n aE=> ?_⟩
 ·have:=(O y aQ).1.1;simp [q] at this
 ·have:=(O y aQ).1.2;simpa [q] using this
 ·have:=(O _ aE).2;simpa using this
section
variable{w:World} {CM:cn} {bj:dM} {F:Frag} {K:Top} {env:Env} {J aX:Scope} {A:Around} {E:Value->Shared->Prop} {ρ ρ₀ aT ρ':a5} {s c9 a7 az:Shared} {fs fs' fs₁:X} {R:bk}
noncomputable def eM (ρ:a5) (i:Addr) (h':Heap):a5:=bQ (cx ρ i .free) h'
theorem m1 {a i:Addr} {h':Heap} {r:cT} (e:ρ a=r) (aE:a≠i) (M:(r.k6==0)=false:=by rfl) (O:(r.k6==1)=false:=by rfl):Mine.eM ρ i h' a=r:=(mE M O).mpr ((bq aE).trans e)
theorem zz {a i:Addr} {h':Heap} {r:cT} (e:Mine.eM ρ i h' a=r) (M:(r.k6==0)=false:=by rfl) (O:(r.k6==1)=false:=by rfl):a≠i/\ρ a=r:=by
 have z:=(mE M O).mp e
 by_cases q:a=i
 ·(replace z:=q▸z;replace z:=dJ▸z);replace M:=(Eq.symm z)▸M;exact Bool.noConfusion M
 ·exact⟨q,(bq q).symm.trans z⟩
theorem aK.eM {i:Addr} {h':Heap} {tk:Nat} (I:aK w CM K env J ρ s fs) (aR:ρ i=.aV) (eG:∀x c,J.names.lookup x=some .free->env.cells.lookup x=some c->c≠i)
  (ag:∀b o,b≠i->s.heap.get? b=some o->h'.get? b=some o):
  aK w CM K env J (Mine.eM ρ i h') {s with heap:=h',toks:=tk} fs/\(∀{ρ₀:a5} {c9:Shared},ρ₀ i=.free->a1 ρ₀ c9 ρ s->a1 ρ₀ c9 (Mine.eM ρ i h') {s with heap:=h',toks:=tk})/\(∀a y,Mine.eM ρ i h' a=.aD y->ρ a=.aD y)/\
  (∀a,a≠i->ρ a≠.free->Mine.eM ρ i h' a=ρ a)/\(h'.get? i≠none->Mine.eM ρ i h' i=.aV):=by
 have f2:∀{a:Addr},ρ a≠.aV->a≠i:=fun h q=>h (by refine B q ?_;exact aR)
 have aB:∀a o,ρ a=.bf o->Mine.eM ρ i h' a=.bf o:=fun a o e=>m1 e (f2 (bI e))
 have an:∀a o,ρ a=.per o->Mine.eM ρ i h' a=.per o:=fun a o e=>m1 e (f2 (bI e))
 have bx:∀a o,ρ a=.aD o->Mine.eM ρ i h' a=.aD o:=fun a o e=>m1 e (f2 (bI e))
 have ak:∀{a:Addr},a≠i->ρ a≠.free->Mine.eM ρ i h' a=ρ a:=fun{a} aE d8=>(lY (fun q=>d8 ((bq aE).symm.trans q))).trans (bq aE)
 have Xp:∀a o,Mine.eM ρ i h' a=.bf o->a≠i/\ρ a=.bf o:=fun a o e=>zz e
 have zZ:∀a o,Mine.eM ρ i h' a=.per o->a≠i/\ρ a=.per o:=fun a o e=>zz e
 have s2:∀a o,Mine.eM ρ i h' a=.aD o->a≠i/\ρ a=.aD o:=fun a o e=>zz e
 have e5:∀{a:Addr} {o:Obj},a≠i->s.heap.get? a=some o->h'.get? a=some o:=fun aE e=>ag _ _ aE e
 refine⟨⟨⟨fun a x e=>aB _ _ (I.base.fW a x e),fun a x e=>aB _ _ (I.base.ft a x e),fun a e=> ?_,fun a o e=> ?_,fun a=> ?_,fun k cy=>let⟨a,e⟩:=I.base.gx k cy;⟨a,an _ _ e⟩,fun a k e=> ?_,fun a b k ak ar=>I.base.inj a b k (zZ _ _ ak).2 (zZ _ _ ar).2⟩,
   I.c0,?_,?_,fun x bh e=> ?_,fun x e=> ?_,fun x c bZ bn=> ?_,I.apart,fun a x e=> ?_,fun a b x bZ bn=>I.fk a b x (s2 _ _ bZ).2 (s2 _ _ bn).2⟩,
  fun{ρ₀ c9} aL av=> ?_,fun a y e=>(s2 a y e).2,fun a aE d8=>ak aE d8,fun h=> ?_⟩
 ·obtain⟨M,o,O,Y⟩:=I.base.fi a e
  have aE:a≠i:=f2 (fun q=>by replace M:=q▸M;exact M)
  exact⟨by refine B (ak aE (fun q=>by rw [q] at M;exact M)) ?_;exact M,o,e5 aE O,Y⟩
 ·refine cl (Xp a o e) ?_;intro aE e
  exact e5 aE (I.base.bK _ _ e)
 ·by_cases q:a=i
  ·refine B q ?_
   exact xu (h:=⟨#[],{}⟩) ⟨fun _=>rfl,fun _=>dJ⟩ fun ob e=>Z e
  ·exact xu ((by refine B (bq q) ?_;exact I.base.c2 a)) fun ob e=>e5 q e
 ·refine cl (zZ a k e) ?_;intro aE e
  refine bb (I.base.fU a k e) ?_;intro x M O
  exact⟨x,M,O.bt aB an fun ob q=>e5 aE q⟩
 ·exact m1 I.cJ (f2 (bI I.cJ))
 ·refine pH I.fx ?_;intro m o es cq bZ bn
  exact⟨m,o,es,cq,e5 (f2 (bI I.cJ)) bZ,bn⟩
 ·refine bb (I.eW x bh e) ?_;intro v M O
  refine⟨v,?_,O.bt aB an bx⟩
  rcases M with⟨bV,cE,m,⟨o,es,cq,bZ,bn⟩,dU⟩|⟨bV,cE,c,cX,⟨o,dU,sA⟩⟩
  ·exact .inl ⟨bV,cE,m,⟨o,es,cq,e5 (f2 (bI I.cJ)) bZ,bn⟩,dU⟩
  ·refine .inr ⟨bV,cE,c,cX,o,e5 ?_ dU,sA⟩
   rcases bV with bV|bV
   ·refine dP (I.cells x bV) ?_;intro c' eY cP dG _
    replace cP:=cX▸cP;cases cP
    exact f2 (bI dG)
   ·exact eG x c bV cX
 ·obtain⟨c,v,bZ,bn,ee,⟨o,ii,iB⟩⟩:=I.cells x e
  have aE:c≠i:=f2 (bI bn)
  exact⟨c,v,bZ,m1 bn aE,ee,o,e5 aE ii,iB⟩
 ·have:=I.frees x c bZ bn
  exact(ak (eG x c bZ bn) (bI this)).trans this
 ·refine cl (s2 a x e) ?_;intro aE e
  obtain⟨aL,c,M,O⟩:=I.e1 a x e
  exact⟨aL,c,M,O.bt aB an fun ob q=>e5 aE q⟩
 ·have oM:∀{a:Addr},ρ₀ a≠.free->a≠i:=fun h q=>h (by refine B q ?_;exact aL)
  refine⟨fun a o e=>aB _ _ (av.bK a o e),fun a e=> ?_,fun a k e=>an _ _ (av.per a k e),fun a e=> ?_,fun a e=> ?_,fun a e=> ?_,fun a x e=> ?_,fun a ob e q=>e5 (oM (bI e)) (av.keep a ob e q),fun a ob e q=> ?_,?_⟩
  ·exact(ak (oM (bI e)) (bI (av.aV a e))).trans (av.aV a e)
  ·exact m1 (av.cJ a e) (oM (bI e))
  ·exact m1 (av.fb a e) (oM (bI e))
  ·exact m1 (av.stk a e) (oM (bI e))
  ·rcases av.aD a x e with q|q|⟨ob,q⟩
   ·exact .inl (bx _ _ q)
   ·exact .inr (.inl ((ak (oM (bI e)) (bI q)).trans q))
   ·exact .inr (.inr ⟨ob,aB _ _ q⟩)
  ·refine bT (av.hW a ob e q) ?_;intro f0 cg
   exact⟨f0,e5 (oM (bI e)) cg⟩
  ·obtain⟨h,lv,e⟩:=av.ao;refine B e ?_;exact⟨h',tk,rfl⟩
 ·exact(Option.ne_none_iff_exists'.mp h).elim fun ob e=>gR dJ e
theorem aK.drop {c:Addr} (I:aK w CM K env J ρ s fs) (hc:ρ c=.stack) (aE:c∉K.frames):aK w CM K env J (cx ρ c .aV) s fs:=by
 have f2:∀{a:Addr},ρ a≠.stack->a≠c:=fun h q=>h (by refine B q ?_;exact hc)
 have aB:∀a o,ρ a=.bf o->cx ρ c .aV a=.bf o:=fun a o e=>(bq (f2 (bI e))).trans e
 have an:∀a o,ρ a=.per o->cx ρ c .aV a=.per o:=fun a o e=>(bq (f2 (bI e))).trans e
 have bx:∀a o,ρ a=.aD o->cx ρ c .aV a=.aD o:=fun a o e=>(bq (f2 (bI e))).trans e
 have o5:∀a r,r≠.aV->cx ρ c .aV a=r->a≠c/\ρ a=r:=fun a r aP e=>by
  by_cases q:a=c
  ·subst q;replace e:=dJ▸e;exact absurd e.symm aP
  ·replace e:=(bq q)▸e;exact⟨q,e⟩
 refine⟨⟨fun a x e=>aB _ _ (I.base.fW a x e),fun a x e=>aB _ _ (I.base.ft a x e),fun a e=> ?_,fun a o e=>I.base.bK a o (o5 a _ (by nofun) e).2,fun a=> ?_,fun k cy=>let⟨a,e⟩:=I.base.gx k cy;⟨a,an _ _ e⟩,fun a k e=> ?_,fun a b k ak ar=>I.base.inj a b k (o5 _ _ (by nofun) ak).2 (o5 _ _ (by nofun) ar).2⟩,
  I.c0,(bq (f2 (bI I.cJ))).trans I.cJ,I.fx,fun x bh e=>let⟨v,M,O⟩:=I.eW x bh e;⟨v,M,O.bt aB an bx⟩,fun x e=> ?_,fun x d bZ bn=> ?_,I.apart,fun a x e=> ?_,fun a b x bZ bn=>I.fk a b x (o5 _ _ (by nofun) bZ).2 (o5 _ _ (by nofun) bn).2⟩
 ·refine cl (I.base.fi a e) ?_;intro M O
  exact⟨by refine B (bq (fun q:a=c=>aE (q▸e))) ?_;exact M,O⟩
 ·by_cases q:a=c
  ·subst q
   refine B dJ ?_
   refine⟨fun e=>(nomatch e),fun e=> ?_⟩
   replace hc:=((I.base.c2 a).mpr e)▸hc;cases hc
  ·refine B (bq q) ?_;exact I.base.c2 a
 ·refine bb (I.base.fU a k (o5 _ _ (by nofun) e).2) ?_;intro x M O
  exact⟨x,M,O.bt aB an fun _ e=>e⟩
 ·refine dP (I.cells x e) ?_;intro d v bZ bn ee
  exact⟨d,v,bZ,(bq (f2 (bI bn))).trans bn,ee⟩
 ·have:=I.frees x d bZ bn
  refine B (bq (f2 (bI this))) ?_;exact this
 ·obtain⟨aL,d,M,O⟩:=I.e1 a x (o5 _ _ (by nofun) e).2
  exact⟨aL,d,M,O.bt aB an fun _ e=>e⟩
theorem cb.kL {a:Addr} {r:cT} {l c8:List (Str×cf)} (av:cb ρ₀ l ρ c8) (aL:ρ₀ a=.free) (aP:∀x,r≠.aD x):cb ρ₀ l (cx ρ a r) c8 where
 U:=av.U
 aD:=fun b x e=>by
  by_cases q:b=a
  ·subst q;replace e:=aL▸e;cases e
  ·refine B (bq q) ?_;exact av.aD b x e
 gv:=fun b x e=>by
  by_cases q:b=a
  ·subst q;replace e:=dJ▸e;exact absurd e (aP x)
  ·replace e:=(bq q)▸e;exact av.gv b x e
theorem mV.AW {items:List H} {o:Obj} {fo:List Addr} {P:Nat->Value->Prop} {cA:Nat->Heap->Prop} (dY:mV w CM A ρ s items o fo P cA) {DX ip fP:a5} {iz fv:Shared} {j:Nat} (aL:∀b ob,ρ b=.bf ob->DX b=.bf ob) (ue:a1 DX s ip iz)
  (fB:ip s.heap.objs.size=.aV) (av:a1 ip iz fP fv) (M:∀a ob,ip a=.bf ob->iz.heap.get? a=some ob) (O:∀a ob,fP a=.bf ob->fv.heap.get? a=some ob) (ao:cA j iz.heap):cA j fv.heap:=
 dY.ku.frame _ _ _ ao fun b ah ob e=>by
  by_cases q:b=s.heap.objs.size
  ·exact av.keep b ob (by refine B q ?_;exact fB) e
  ·refine(dY.foot b ah q).elim fun hu cg=> ?_
   have uo:=ue.bK _ _ (aL _ _ cg)
   refine B (Option.some.inj (e.symm.trans (M b hu uo))) ?_;exact O b _ (av.bK _ _ uo)
end
end Mine
end
section
open PySem PySem.W PySem.Calls PyProof.Rows
namespace Mine
section
variable{w:World} {CM:cn} {bj:dM} {F:Frag} {K:Top} {env eb:Env} {J aX:Scope} {A:Around} {E:Value->Shared->Prop} {ρ ρ₀ aT ρ':a5} {s c9 a7 az:Shared} {fs fs' fs₁:X} {R:bk}
theorem SN {h:Heap} {a:Addr} {l:List H} (q:dN w CM ρ h a (.am l)):∃vs,h.PlainList a (Array.mk vs)/\a8 w CM ρ l vs:=by
 refine hw q ?_;clear q;intro vs n M O
 exact⟨vs,⟨n,M⟩,O⟩
theorem Qs {h:Heap} {a:Addr} {l:List H} {vs:Array Value} (q:h.PlainList a vs) (r:a8 w CM ρ l vs.toList):dN w CM ρ h a (.am l):=by
 refine bT q ?_;clear q;intro n M
 exact⟨vs.toList,n,M,r⟩
structure Iw (w:World) (CM:cn) (K:Top) (eb:Env) (aX:Scope) (R:bk) (ρ:a5) (s:Shared) (x:Str) (ifs:List Expr) (elt:Expr) (items ck:List H) (kI:X) (cA:Nat->Heap->Prop) (D:Addr) (i:Nat) (gi:a5) (t:Shared) (ha:X) (cm qp:List H):Prop where
 aR:i<=items.length
 go:ga R x ifs elt (items.drop i) ha=some (qp,kI)
 ck:cm++qp=ck
 dE:cp w CM K eb aX (bo ρ) s gi t ha
 dj:gi s.heap.objs.size=.aV
 NY:gi D=.aV
 QU:dN w CM gi t.heap D (.am cm)
 ao:cA i t.heap
 len:cm.length<=i
theorem Qw (S:cB w CM K eb aX A R) (ec:eb.locals≠s.heap.objs.size) {elt iter:Expr} {x:Str} {px pos:Pos} {ifs:List Expr} {scope:Scope} {items:List H} {o:Obj} {fo:List Addr} {P:Nat->Value->Prop} {cA:Nat->Heap->Prop} {D:Addr}
  {RR:Result->Shared->Prop} {ck:List H} {wb kI:X}
  (ae:aX.names.lookup x=some .local) (dq:items.length<=a4) (dY:mV w CM A ρ s items o fo P cA) (ra:bo ρ s.heap.objs.size=.free) (zL:bo ρ D=.free) (nS:D≠s.heap.objs.size)
  (q:ga R x ifs elt items wb=some (ck,kI))
  {rv:a5} {tg:Shared} (a3:cp w CM K eb aX (bo ρ) s rv tg wb) (vt:∀x c,aX.names.lookup x=some .free->eb.cells.lookup x=some c->bo ρ c=.aV)
  (fB:rv s.heap.objs.size=.aV) (dL:rv D=.aV) (uE:dN w CM rv tg.heap D (.am [])) (eO:cA 0 tg.heap)
  (f9:∀iS tr,cp w CM K eb aX (bo ρ) s iS tr kI->iS D=.aV->dN w CM iS tr.heap D (.am ck)->RR (.ok .next) tr):
  codeAny (model aw w) A (.compLoop (.ListComp elt [⟨.Name x px,iter,ifs,0⟩] scope pos) 0 (.ref s.heap.objs.size) (.ref D) eb) RR tg:=by
 obtain⟨e6,kn⟩:∃e6:Nat->Shared->Prop,∀n t,e6 n t↔∃i,n=items.length-i+1/\∃gi ha cm qp,Iw w CM K eb aX R ρ s x ifs elt items ck kI cA D i gi t ha cm qp:=⟨_,fun _ _=>Iff.rfl⟩
 refine codeAny_compLoop_tests e6 ?_ (items.length+1) ((kn _ _).mpr ⟨0,rfl,rv,wb,[],ck,Nat.zero_le _,q,rfl,a3,fB,dL,uE,eO,Nat.le_refl _⟩)
 intro n t aE
 refine bb ((kn n t).mp aE) ?_;clear aE;intro i aE h;subst aE
 refine jn h ?_;clear h;intro gi ha cm qp C
 have aR:=C.aR;have ff:=C.go;have ss:=C.ck;have qc:=C.dE;have mn:=C.dj;have tc:=C.NY;have Ga:=C.QU;have Ft:=C.ao;have ik:=C.len;clear C
 have FM:∀x c,aX.names.lookup x=some .free->eb.cells.lookup x=some c->c≠s.heap.objs.size:=fun x c M O q=>by have:=vt x c M O;(replace this:=q▸this;replace this:=ra▸this);cases this
 have Ul:∀x c,aX.names.lookup x=some .free->eb.cells.lookup x=some c->c≠D:=fun x c M O q=>by have:=vt x c M O;(replace this:=q▸this;replace this:=zL▸this);cases this
 have r5:∀b∈fo,b≠s.heap.objs.size->∃ob,bo ρ b=.bf ob:=fun b ah aE=>let⟨ob,e⟩:=dY.foot b ah aE;⟨ob,lT.mpr e⟩
 by_cases cy:i<items.length
 ·refine dY.ku.item i t _ _ cy Ft fun v bv kF iQ mu mo=> ?_
  have sl:∀b ob,b≠s.heap.objs.size->t.heap.get? b=some ob->bv.get? b=some ob:=fun b ob ah e=>mo b ob (fun q=>ah (List.mem_singleton.mp q)) e
  refine jY (qc.dE.eM (tk:=kF) mn FM sl) ?_;intro aZ a0 iy lN r4
  refine bT (dY.t8 _ _ mu) ?_;intro pV v5
  have sN:=r4 (fun q=>Z (q.symm.trans v5))
  have mc:=a0 ra qc.ext
  have Co:eM gi s.heap.objs.size bv D=.aV:=by refine B (lN D nS (bI tc)) ?_;exact tc
  have UL:dN w CM (eM gi s.heap.objs.size bv) bv D (.am cm):=Ga.bt (fun a ob e=>by refine B (lN a (d7 e mn) (bI e)) ?_;exact e) (fun a k e=>by refine B (lN a (d7 e mn) (bI e)) ?_;exact e) fun ob e=>sl D ob nS e
  refine bb (dY.be i v cy iQ) ?_;intro eV pI sD
  have S5:items.drop i=eV::items.drop (i+1):=by
   refine B (List.drop_eq_getElem_cons cy) ?_
   replace pI:=(List.getElem?_eq_getElem cy)▸pI
   refine oD pI ?_;clear pI;intro u;subst u;rfl
  replace ff:=S5▸ff
  have Vs:bY w CM (eM gi s.heap.objs.size bv) eV v:=bY.bt mc.bK mc.per sD.bo
  have UK:eL aX x (.U eV) ha=some {ha with loc:=bX x (.U eV) ha.loc}:=by show br _ _=_;refine B ae ?_;rfl
  have oI:∀{ip fP:a5} {iz fv:Shared},a1 (bo ρ) s ip iz->ip s.heap.objs.size=.aV->a1 ip iz fP fv->(∀a ob,ip a=.bf ob->iz.heap.get? a=some ob)->(∀a ob,fP a=.bf ob->fv.heap.get? a=some ob)->cA (i+1) iz.heap->cA (i+1) fv.heap:=dY.AW fun b ob e=>lT.mpr e
  refine wpAny_assign_Name (sT UK aZ Vs fun b8 dI jO cN ca oT pe=> ?_)
  have lw:=mc.trans ca
  have xm:∀a y,b8 a=.aD y->bo ρ a=.free:=fun a y e=>qc.gN a y (iy a y (oT a y e))
  have my:=ca.aV _ sN
  have sE:=ca.aV _ Co
  have x2:dN w CM b8 dI D (.am cm):=UL.bt ca.bK ca.per fun ob e=>ca.keep D ob Co e
  have rV:cA (i+1) dI:=oI mc sN ca aZ.base.bK cN.base.bK mu
  have cI:∀{fP:a5} {fv:Shared} {U:X} {g6 Fz:List H},aK w CM K eb aX fP fv U->a1 (bo ρ) s fP fv->(∀a y,fP a=.aD y->bo ρ a=.free)->fP s.heap.objs.size=.aV->fP D=.aV->dN w CM fP fv.heap D (.am g6)->cA (i+1) fv.heap->g6.length<=i+1->
    ga R x ifs elt (items.drop (i+1)) U=some (Fz,kI)->g6++Fz=ck->∃m,m<items.length-i+1/\e6 m fv:=fun u9 uj xz uq uY yT yq bC W0 wI=>
   ⟨items.length-(i+1)+1,by exact Tb cy,(kn _ _).mpr ⟨i+1,rfl,_,_,_,_,cy,W0,wI,⟨u9,uj,xz⟩,uq,uY,yT,yq,bC⟩⟩
  have GQ:∀{fP:a5} {fv:Shared} {U:X},aK w CM K eb aX fP fv U->a1 (bo ρ) s fP fv->(∀a y,fP a=.aD y->bo ρ a=.free)->fP s.heap.objs.size=.aV->fP D=.aV->dN w CM fP fv.heap D (.am cm)->cA (i+1) fv.heap->
    (ob (d0 R elt U) fun y fs₂=>ob (ga R x ifs elt (items.drop (i+1)) fs₂) fun ck fs₃=>some (y::ck,fs₃))=some (qp,kI)->
    wpAny (model aw w) A (eval elt eb) (fun y mY=>wpAny (model aw w) A (call (.builtin "list.append") [.ref D,y]) (fun _ vY=>∃m,m<items.length-i+1/\e6 m vY) (notedBy (model aw w) A eb fun e az=>RR (.error e) az) mY) (notedBy (model aw w) A eb fun e az=>RR (.error e) az) fv:=fun{fP fv U} u9 uj xz uq uY yT yq bi=>by
   refine b5 bi ?_ Z;clear bi;intro y fs₂ aQ bi
   refine b5 bi ?_ Z;clear bi;intro YO fs₃ KR bi
   cases(bi)
   refine r8 S aQ u9 fun m8 mY v3 uM kQ J8 X0=> ?_
   have AN:=kQ.aV _ uY
   have IU:=kQ.aV _ uq
   have KQ:dN w CM v3 mY.heap D (.am cm):=yT.bt kQ.bK kQ.per fun ob e=>kQ.keep D ob uY e
   have OD:=oI uj uq kQ u9.base.bK uM.base.bK yq
   obtain⟨vs,gq,i2⟩:=SN KQ
   have bC:=i2.length
   refine wpAny_list_append_plain gq (fun EI AS wV=> ?_) (by simp only [List.size_toArray];refine B bC ?_;have:=ja;exact IC dq ik cy this)
   have R2:EI.get? D≠none:=by obtain⟨n,e⟩:=AS;refine B e ?_;nofun
   have OM:dN w CM v3 EI D (.am (cm++[y])):=Qs AS (by simpa using i2.append (a8.cons X0 a8.nil))
   refine cI (uM.hU (tk:=mY.toks) AN Ul wV R2) ((uj.trans kQ).hU zL wV) (fun a y e=>xz a y (J8.gv a y e)) IU AN OM ?_ (by simp;exact Tu ik) KR (by refine bu ss ?_;simp)
   refine dY.ku.frame _ _ _ OD fun b ah ob e=>(wV.2 b (fun q=> ?_)).trans e
   by_cases bn:b=s.heap.objs.size
   ·exact nS (q.symm.trans bn)
   ·exact(r5 b ah bn).elim fun hu cg=>cT.noConfusion (zL.symm.trans ((congrArg (bo ρ) q).symm.trans cg))
  refine b5 ff (fun b fs₁ hc ff=> ?_) Z
  cases ifs with
  |nil=>
   refine wpAny_pure ?_
   refine B (if_pos rfl) ?_
   cases hc
   exact GQ cN lw xm my sE x2 rV ff
  |cons c ifs=>cases ifs with
   |cons _ _=>exact Z hc
   |nil=>
    rw [List.forIn_cons]
    refine wpAny_bind ?_
    refine B (if_pos rfl) ?_
    refine wpAny_bind (S.l8 hc cN fun jx jQ he ej kz=>wpAny_pure ?_)
    cases b with
    |true=>
     refine wpAny_pure ?_
     refine B (if_pos rfl) ?_
     exact GQ he (lw.trans ej) (fun a y e=>xm a y (kz.gv a y e)) (ej.aV _ my) (ej.aV _ sE) (x2.bt ej.bK ej.per fun ob e=>ej.keep D ob sE e) (oI lw my ej cN.base.bK he.base.bK rV) ff
    |false=>
     refine wpAny_pure ?_
     refine B (if_neg Bool.false_ne_true) ?_
     exact cI he (lw.trans ej) (fun a y e=>xm a y (kz.gv a y e)) (ej.aV _ my) (ej.aV _ sE) (x2.bt ej.bK ej.per fun ob e=>ej.keep D ob sE e) (oI lw my ej cN.base.bK he.base.bK rV) (Nat.le_succ_of_le ik) ff ss
 ·have w3:i=items.length:=by exact Lc aR cy
  subst w3
  refine dY.ku.done t _ _ Ft fun bv kF mo=> ?_
  replace ff:=List.drop_length▸ff
  refine ym ff ?_;clear ff;intro u v;subst u;subst v
  replace ss:=(List.append_nil _)▸ss
  subst ss
  have sl:∀b ob,b≠s.heap.objs.size->t.heap.get? b=some ob->bv.get? b=some ob:=fun b ob ah e=>mo b ob (fun q=>ah (List.mem_singleton.mp q)) e
  obtain⟨aZ,a0,iy,lN,r4⟩:=qc.dE.eM (tk:=kF) mn FM sl
  refine f9 _ _ ⟨aZ,a0 ra qc.ext,fun a y e=>qc.gN a y (iy a y e)⟩ (by refine B (lN D nS (bI tc)) ?_;exact tc) ?_
  exact Ga.bt (fun a ob e=>by refine B (lN a (d7 e mn) (bI e)) ?_;exact e) (fun a k e=>by refine B (lN a (d7 e mn) (bI e)) ?_;exact e) fun ob e=>sl D ob nS e
end
end Mine
end
section
open PySem PySem.W PySem.Calls PyProof.Rows
namespace Mine
section
variable{w:World} {CM:cn} {bj:dM} {F:Frag} {K:Top} {env eb:Env} {J aX:Scope} {A:Around} {E:Value->Shared->Prop} {ρ ρ₀ aT ρ':a5} {s c9 a7 az:Shared} {fs fs' fs₁:X} {R:bk}
theorem MJ {eK:List (Str×Addr)} {C:Addr} {fn:Heap} {tk:Nat} (I:aK w CM K env J ρ s fs) (hc:zB J aX) (e8:∀n c,eK.lookup n=some c->env.cells.lookup n=some c) (n0:∀n,aX.names.lookup n=some .free->∃c,eK.lookup n=some c)
  (ag:∀b o,s.heap.get? b=some o->fn.get? b=some o) (cj:ρ C=.free) (ey:fn.Ns C fun _=>none):
  cp w CM K (compEnvC aX eK C env) aX (bo ρ) s (cx (bQ (bo ρ) fn) C .frame) {s with heap:=fn,toks:=tk} ⟨mg aX fs.loc,fs.per⟩/\
  (∀x c,aX.names.lookup x=some .free->(compEnvC aX eK C env).cells.lookup x=some c->bo ρ c=.aV):=by
 have x7:bo ρ C=.free:=gY.mpr cj
 have oZ:cK w CM K (bQ (bo ρ) fn) {s with heap:=fn,toks:=tk} fs.per:=I.base.bo.dD ag
 refine dz (id ey) ?_;intro B2 Zz Zy lR PR _
 have tu:bQ (bo ρ) fn C=.aV:=gR x7 lR
 have f2:∀{a:Addr},bQ (bo ρ) fn a≠.aV->a≠C:=fun h q=>h (by refine B q ?_;exact tu)
 have aB:∀a o,bQ (bo ρ) fn a=.bf o->cx (bQ (bo ρ) fn) C .frame a=.bf o:=fun a o e=>(bq (f2 (bI e))).trans e
 have an:∀a o,bQ (bo ρ) fn a=.per o->cx (bQ (bo ρ) fn) C .frame a=.per o:=fun a o e=>(bq (f2 (bI e))).trans e
 have aD:∀a y,cx (bQ (bo ρ) fn) C .frame a≠.aD y:=fun a y e=>by
  by_cases q:a=C
  ·(replace e:=q▸e;replace e:=dJ▸e);cases e
  ·replace e:=(bq q)▸e;exact(ig ρ a).1 y (f8.mp e)
 have NP:cK w CM K (cx (bQ (bo ρ) fn) C .frame) {s with heap:=fn,toks:=tk} fs.per:=oZ.qL fun a=>by
  by_cases q:a=C
  ·subst q;(refine B dJ ?_;refine B tu ?_);exact .inr ⟨trivial,trivial,fun _=>trivial⟩
  ·exact .inl (bq q)
 have xW:∀n,aX.names.lookup n=some .free->J.names.lookup n=some .cell:=fun n h=>hc.c2 n (mem_of_lookup h)
 have rM:∀x c,aX.names.lookup x=some .free->eK.lookup x=some c->bo ρ c=.aV:=fun x c M O=>by
  refine dP (I.cells x (xW x M)) ?_;intro c' v bZ bn _
  replace bZ:=(e8 x c O)▸bZ;cases bZ
  exact congrArg e2 bn
 have ei:a1 (bo ρ) s (bQ (bo ρ) fn) {s with heap:=fn,toks:=tk}:=a1.dD ag
 refine⟨⟨⟨NP,⟨?_,I.c0.tB,I.c0.l6,fun x h=> ?_,fun x h=> ?_,fun x h=> ?_,fun x h=> ?_⟩,dJ,⟨_,ey⟩,fun x bh h=> ?_,fun x h=> ?_,fun x c M O=> ?_,fun x y c M O=> ?_,fun a x e=>absurd e (aD a x),fun a b x e _=>absurd e (aD a x)⟩,ei.kL x7,fun a x e=>absurd e (aD a x)⟩,rM⟩
 ·show(relabel aX env).kind=.function
  exact hc.kind
 ·exact lookup_relabel_local h
 ·exact absurd rfl (hc.cell _ (mem_of_lookup h))
 ·exact wq h I.c0.kind (I.c0.fb x (xW x h))
 ·exact DC h
 ·obtain⟨M,v,rfl,O⟩:=X7 h
  refine bb (I.eW x _ O) ?_;intro val Y aC
  have vi:=xW x M
  refine⟨val,?_,(bY.bo aC).bt (fun a o e=>aB a o (ei.bK a o e)) fun a o e=>an a o (ei.per a o e)⟩
  rcases Y with⟨bV,_⟩|⟨bV,cE,c,cX,dU⟩
  ·replace bV:=vi▸bV;cases bV
  ·refine bT (n0 x M) ?_;intro c' oQ
   have:=e8 x c' oQ
   replace this:=cX▸this;cases(this)
   exact .inr ⟨.inr M,wq M I.c0.kind (I.c0.fb x vi),c,oQ,dU.keeps ag⟩
 ·exact absurd rfl (hc.cell _ (mem_of_lookup h))
 ·have hd:=rM x c M O
  refine B (bq (fun q=>by rw [q,x7] at hd;cases hd)) ?_
  exact ei.aV c hd
 ·exact I.apart x y c (e8 x c M) (e8 y c O)
theorem FH (S:∀eb,cB w CM K eb aX A R) {elt iter:Expr} {x:Str} {px pos:Pos} {ifs:List Expr} {items:List H} {o:Obj} {fo:List Addr} {P:Nat->Value->Prop} {cA:Nat->Heap->Prop}
  {RR:Value->Addr->Result->Shared->Prop} {ck:List H} {kI:X} {eK:List (Str×Addr)}
  (ae:aX.names.lookup x=some .local) (dq:items.length<=a4) (hc:zB J aX) (e8:∀n c,eK.lookup n=some c->env.cells.lookup n=some c) (n0:∀n,aX.names.lookup n=some .free->∃c,eK.lookup n=some c)
  (I:aK w CM K env J ρ s fs) (dY:mV w CM A ρ s items o fo P cA) (q:ga R x ifs elt items ⟨mg aX fs.loc,fs.per⟩=some (ck,kI))
  (cV:∀ρ' az D C m,aK w CM K env J ρ' az {fs with per:=kI.per}->a1 ρ s ρ' az->cb ρ fs.loc ρ' fs.loc->ρ D=.free->ρ' D=.aV->dN w CM ρ' az.heap D (.am ck)->ρ C=.free->ρ' C=.aV->C≠D->az.heap.Ns C m->RR (.ref D) C (.ok .next) az):
  wpAny (model aw w) A (newList []) (fun cm jx=>wpAny (model aw w) A (newFunctionEnv aX env.globals eK [] env.qual none .none (some env)) (fun eb mY=>
   codeAny (model aw w) A (.compStart (.ListComp elt [⟨.Name x px,iter,ifs,0⟩] aX pos) 0 (.ref s.heap.objs.size) cm {eb with scope:=relabel aX env}) (RR cm eb.locals) mY) E jx) E {s with heap:=s.heap.push o}:=by
 have hV:∀a,s.heap.objs.size<=a->ρ a=.free:=fun a bz=>(I.base.c2 a).mpr (by
  cases e:s.heap.get? a with
  |none=>rfl
  |some oy=>exact absurd (Heap.lt_size e) (Nat.not_lt.mpr bz))
 refine wpAny_newObj_type (wpAny_newFunctionEnv hc.cell (by intro y aQ;simp at aQ) (fun bv s8 rz=> ?_) hc.kind)
 dsimp only at s8 rz|-
 generalize tK:s.heap.push o=f5 at s8 rz|-
 have dL:f5.objs.size=s.heap.objs.size+1:=by(refine bu tK ?_;refine B (Heap.size_push _ _) ?_;rfl)
 generalize zs:f5.push {cls:=.type "list",dict:=none,data:=.seq ([]:List Value).toArray}=gp at s8 rz|-
 have cj:gp.objs.size=s.heap.objs.size+2:=by(refine bu zs ?_;refine B (Heap.size_push _ _) ?_;refine B dL ?_;rfl)
 have nS:f5.objs.size≠s.heap.objs.size:=by refine B dL ?_;exact Nat.succ_ne_self _
 have vl:f5.objs.size≠gp.objs.size:=by(refine B dL ?_;refine B cj ?_);exact Nat.ne_of_lt (Nat.lt_succ_self _)
 have xK:s.heap.objs.size≠gp.objs.size:=by refine B cj ?_;exact Nat.ne_of_lt (Nat.lt_succ_of_lt (Nat.lt_succ_self _))
 have up1:∀b ob,f5.get? b=some ob->b≠gp.objs.size->bv.get? b=some ob:=fun b ob e ah=>rz.extBut b ob ah (Heap.get?_push_of_some _ (zs▸Heap.get?_push_of_some _ e))
 have Rr:∀b ob,s.heap.get? b=some ob->bv.get? b=some ob:=fun b ob e=>by
  have cy:b<s.heap.objs.size:=Heap.lt_size e
  exact up1 b ob (tK▸Heap.get?_push_of_some _ e) (Nat.ne_of_lt (by refine B cj ?_;exact Nat.lt_succ_of_lt (Nat.lt_succ_of_lt cy)))
 have JS:f5.get? s.heap.objs.size=some o:=by refine bu tK ?_;exact Heap.get?_push_size _ dY.e5
 have FZ:bv.get? f5.objs.size=some (mN [] 0):=rz.extBut _ _ vl (Heap.get?_push_of_some _ (zs▸Heap.get?_push_size _ rfl))
 have fI:ρ s.heap.objs.size=.free:=hV _ (Nat.le_refl _)
 have np:ρ f5.objs.size=.free:=hV _ (by refine B dL ?_;exact Nat.le_succ _)
 have jF:ρ gp.objs.size=.free:=hV _ (by refine B cj ?_;exact Nat.le_add_right _ _)
 have ey:bv.Ns gp.objs.size fun _=>none:=by
  have:=s8
  simpa using this
 refine cl (MJ (tk:=s.toks+([]:List (Str×Value)).length) I hc e8 n0 Rr jF ey) ?_;intro a3 vt
 have mu:cA 0 bv:=dY.ku.frame _ _ _ dY.ao fun b ah ob e=>by
  have cg:f5.get? b=some ob:=by refine bu tK ?_;exact e
  refine up1 b ob cg (fun q=> ?_)
  have:=Heap.lt_size cg
  (replace this:=q▸this;replace this:=cj▸this;replace this:=dL▸this)
  exact absurd this (Nat.not_lt.mpr (Nat.le_succ _))
 have Lj:cx (bQ (bo ρ) bv) gp.objs.size .frame s.heap.objs.size=.aV:=by refine B (bq xK) ?_;exact gR (gY.mpr fI) (up1 _ _ JS xK)
 have O8:cx (bQ (bo ρ) bv) gp.objs.size .frame f5.objs.size=.aV:=by refine B (bq vl) ?_;exact gR (gY.mpr np) FZ
 have EY:codeAny (model aw w) A (.compLoop (.ListComp elt [⟨.Name x px,iter,ifs,0⟩] aX pos) 0 (.ref s.heap.objs.size) (.ref f5.objs.size) (compEnvC aX eK gp.objs.size env)) (RR (.ref f5.objs.size) gp.objs.size) {s with heap:=bv,toks:=s.toks+([]:List (Str×Value)).length}:=by
  refine Qw (S _) (Ne.symm xK) ae dq dY (gY.mpr fI) (gY.mpr np) nS q a3 vt Lj O8 ⟨[],0,FZ,a8.nil⟩ mu fun iS tr sB Qc pY=> ?_
  refine ef (cp.uF (K:=K) (K':=K) rfl rfl (fun _ h=>h) sB (ig ρ)) ?_;intro cP dG lD
  refine ef (I.rT cP dG lD) ?_;intro e6 ll lG
  have IR:fh ρ (bo iS) gp.objs.size=.stack:=(kD (gY.mpr jF)).trans (by
   have:iS gp.objs.size=.frame:=sB.dE.cJ
   exact congrArg e2 this)
  have Nw:fh ρ (bo iS) f5.objs.size=.aV:=(kD (gY.mpr np)).trans (oX Qc)
  have QG:gp.objs.size∉K.frames:=fun h=>by have:=(I.base.fi _ h).1;replace this:=jF▸this;exact this
  have lE:=e6.drop IR QG
  refine bT sB.dE.fx ?_;intro m aY
  have Uq:∀a ob,iS a=.bf ob->cx (fh ρ (bo iS)) gp.objs.size .aV a=.bf ob:=fun a ob e=>by
   have b1:a≠gp.objs.size:=fun q=>by have:iS gp.objs.size=.frame:=sB.dE.cJ;(replace e:=q▸e;replace e:=this▸e);cases e
   refine B (bq b1) ?_;exact(pj dG).1 a ob (lT.mpr e)
  have Sh:∀a k,iS a=.per k->cx (fh ρ (bo iS)) gp.objs.size .aV a=.per k:=fun a ob e=>by
   have b1:a≠gp.objs.size:=fun q=>by have:iS gp.objs.size=.frame:=sB.dE.cJ;(replace e:=q▸e;replace e:=this▸e);cases e
   refine B (bq b1) ?_;exact(pj dG).2 a ob (o2.mpr e)
  exact cV _ _ _ _ m lE (ll.kL jF) (lG.kL jF (by nofun)) np (by refine B (bq vl) ?_;exact Nw) (pY.bt Uq Sh fun _ e=>e) jF dJ (Ne.symm vl) aY
 exact codeAny_compStart_list EY (dY.ku.self 0 _ _ _ mu EY)
theorem Ku (bl:jS CM bj F) (bA:K.f=F) (bc:f4 K A) (w5:cB w CM K env J A yu) (S:∀eb,cB w CM K eb aX A R) {elt iter:Expr} {x:Str} {px pos:Pos} {ifs:List Expr} {items ck:List H} {fs₁ fs₂:X}
  (bZ:hG yu J iter fs=some (items,fs₁)) (dq:items.length<=a4) (ae:aX.names.lookup x=some .local) (hc:n4 J aX=true) (bn:ga R x ifs elt items {fs₁ with loc:=mg aX fs₁.loc}=some (ck,fs₂)) (I:aK w CM K env J ρ s fs):
  wpAny (model aw w) A (eval (.ListComp elt [⟨.Name x px,iter,ifs,0⟩] aX pos) env) (b4 w CM K env J ρ s fs (.own (.am ck)) {fs₁ with per:=fs₂.per}) cc s:=by
 refine cl (vU bl bA bc w5 bZ I) ?_;intro sr l0
 have lF:=EL hc
 obtain⟨eK,yD,e8,n0⟩:=GF (env:=env) (scope:=aX) (fun n k aY ag=>by
  subst ag
  refine hw (I.cells n (lF.c2 n aY)) ?_;intro c v M _
  exact⟨c,M⟩)
 rw [eval_ListComp]
 refine wpAny_comprehension_free (use:=none) rfl sr yD lF.kind lF.loc (wpAny_mono l0 (fun eV aj bv=>wpAny_mono bv (fun dj ct dI=> ?_) fun _ _ e=>e) fun _ _ e=>e)
 obtain⟨aN,pa,o,fo,P,cA,rfl,rfl,aZ,a0,bw,dY⟩:=dI
 refine FH S ae dq lF e8 n0 aZ dY bn (RR:=fun cm C=>compPost (model aw w) A cc none _ cm C) fun ρ' az D C m e6 ll lG np u2 aq jF rZ ul aY=> ?_
 refine⟨m,aY,fun h' hs=> ?_⟩
 refine jY (e6.eM (h':=h') (tk:=az.toks) rZ (h5 aZ jF) fun b ob ah e=>(hs.2 b ah).trans e) ?_;intro lE t5 dG js _
 have y1:∀a,ρ' a≠.aV->ρ' a≠.free->eM ρ' C h' a=ρ' a:=fun a M O=>js a (fun q=>M (by refine B q ?_;exact rZ)) O
 refine⟨eM ρ' C h',lE,t5 (a0.ic _ jF) (a0.trans ll),?_,D,rfl,a0.ic _ np,(js D (Ne.symm ul) (bI u2)).trans u2,?_⟩
 ·have op:=bw.trans lG
  refine⟨op.U,fun a y e=> ?_,fun a y e=>op.gv a y (dG a y e)⟩
  rcases op.aD a y e with h|h
  ·exact .inl ((y1 a (bI h) (bI h)).trans h)
  ·exact .inr h
 ·exact aq.bt (fun a ob e=>(y1 a (bI e) (bI e)).trans e) (fun a ob e=>(y1 a (bI e) (bI e)).trans e) fun ob e=>(hs.2 D (Ne.symm ul)).trans e
theorem R8 (bl:jS CM bj F) (bA:K.f=F) (bc:f4 K A) (w5:cB w CM K env J A yu) (S:∀eb,cB w CM K eb aX A R) {elt iter:Expr} {x y:Str} {px jI pos o7:Pos} {ifs:List Expr} {items ck:List H} {fs₁ fs₂ fs₃:X}
  (qY:swapsWith (.ListComp elt [⟨.Name x px,iter,ifs,0⟩] aX pos) (some (.Name y jI)) o7.line env=pure true)
  (bZ:hG yu J iter fs=some (items,fs₁)) (dq:items.length<=a4) (ae:aX.names.lookup x=some .local) (hc:n4 J aX=true) (bn:ga R x ifs elt items {fs₁ with loc:=mg aX fs₁.loc}=some (ck,fs₂))
  (ee:eL J y (.own (.am ck)) {fs₁ with per:=fs₂.per}=some fs₃) (a3:cp w CM K env J aT a7 ρ s fs):
  wpAny (model aw w) A (exec (.Assign [.Name y jI] (.ListComp elt [⟨.Name x px,iter,ifs,0⟩] aX pos) o7) env) (eg w CM K env J aT a7 ρ s .next fs₃) cc s:=by
 obtain⟨I,uO,gN⟩:=a3
 refine cl (vU bl bA bc w5 bZ I) ?_;intro sr l0
 have lF:=EL hc
 obtain⟨eK,yD,e8,n0⟩:=GF (env:=env) (scope:=aX) (fun n k aY ag=>by
  subst ag
  refine hw (I.cells n (lF.c2 n aY)) ?_;intro c v M _
  exact⟨c,M⟩)
 refine B (exec_Assign_Name_used _ _ _ _ qY) ?_
 refine wpAny_bind (wpAny_standAt (wpAny_bind ?_))
 show wpAny _ A (do let _<-comprehension (.ListComp elt [⟨.Name x px,iter,ifs,0⟩] aX pos) aX env _ (newList []) false (eval iter env) (some (assign (.Name y jI) env))) _ _ s
 refine wpAny_bind (wpAny_mono (wpAny_comprehension_free (use:=some (assign (.Name y jI) env)) (Q:=fun _ az=>eg w CM K env J aT a7 ρ s .next fs₃ .next az) rfl sr yD lF.kind lF.loc
  (wpAny_mono l0 (fun eV aj bv=>wpAny_mono bv (fun dj ct dI=> ?_) fun _ _ e=>e) fun _ _ e=>e)) (fun _ az aA=>wpAny_pure (wpAny_pure aA)) fun _ _ e=>e)
 obtain⟨aN,pa,o,fo,P,cA,rfl,rfl,aZ,a0,bw,dY⟩:=dI
 refine FH S ae dq lF e8 n0 aZ dY bn (RR:=fun cm C=>compPost (model aw w) A cc (some (assign (.Name y jI) env)) (fun _ az=>eg w CM K env J aT a7 ρ s .next fs₃ .next az) cm C) fun ρ' az D C m e6 ll lG np u2 aq jF rZ ul aY=> ?_
 have Nr:=a0.ic _ np
 have Fi:=a0.ic _ jF
 have hA:=a0.trans ll
 show wpAny _ A (assign (.Name y jI) env (.ref D)) _ _ _
 refine wpAny_assign_Name (z0 (ρ₀:=ρ) ee e6 ⟨D,rfl,Nr,u2,aq⟩ (fun a aL x c M O=>h5 I aL x c M O) fun b8 dI jO cN ca oT pe pJ=> ?_)
 have ui:dI.Ns C m:=by obtain⟨o,es,cq,gj,gP⟩:=aY;exact⟨o,es,cq,pe _ _ rZ gj,gP⟩
 have Sa:=pJ C rZ (fun q=>ul (by injection q with q;exact q.symm))
 refine⟨m,ui,fun h' hs=> ?_⟩
 have HR:a1 aT a7 b8 {az with heap:=dI,toks:=jO}:=by
  rcases ca with ca|ca
  ·exact(uO.trans hA).trans ca
  ·exact uO.trans (ca _ hA)
 refine jY (cN.eM (h':=h') (tk:=jO) Sa (h5 aZ jF) fun b ob ah e=>(hs.2 b ah).trans e) ?_;intro lE t5 dG js _
 have Q0:a1 ρ s b8 {az with heap:=dI,toks:=jO}:=by
  rcases ca with ca|ca
  ·exact hA.trans ca
  ·exact ca _ hA
 refine⟨rfl,eM b8 C h',⟨lE,t5 (uO.ic _ Fi) HR,fun a z e=> ?_⟩,t5 Fi Q0⟩
 rcases oT a z (dG a z e) with h|h
 ·exact gN a z (bw.gv a z (lG.gv a z h))
 ·exact uO.ic _ h
end
end Mine
end
section
open PySem PySem.W PySem.Calls PyProof.Rows
namespace Mine
structure nH (CM:cn) (bj:dM) (F:Frag):Prop extends tn CM bj F where
 inh:∃a n oz oc nQ un,hF F "INHERITED"=some (.ref a)/\F.lookup a=some (qC [.str "Resources" oz,.str "MediaBox" oc,.str "CropBox" nQ,.str "Rotate" un] n)
 Fl:∃t,hF F "MOST_HOPS"=some (.int 30 t)
section
variable{w:World} {CM:cn} {bj:dM} {F:Frag} {K:Top} {env eb:Env} {J aX:Scope} {A:Around} {E:Value->Shared->Prop} {ρ ρ₀ aT ρ':a5} {s c9 a7 az:Shared} {fs fs' fs₁:X} {R:bk} {C:cs} {k:Nat}
theorem eh.BI {k:Nat} (bc:eh K k A):A.units+eF<cLine:=Nat.lt_of_le_of_lt (by refine B (Nat.add_assoc _ _ _) ?_;exact Nat.add_le_add_left (Nat.le_trans (by decide:eF<=400) (Nat.le_add_left _ _)) _) bc.units
theorem O5 (bl:nH CM bj F) (bA:K.f=F) {x:Str} {pos:Pos} {v:H} (ae:J.names.lookup x=some .globalImplicit) (q:DK x=some v) (I:aK w CM K env J ρ s fs):
  wpAny (model aw w) A (eval (.Name x pos) env) (b4 w CM K env J ρ s fs (.U v) fs) cc s:=by
 subst bA
 refine g2 q (fun h q=>cC q ?_) fun _ q=>cH q (fun h q=>cC q ?_) Z<;>rw [h] at ae|-
 ·refine Jl bl.inh ?_;intro a n oz oc nQ un M O
  refine nJ M ae I.c0 I.in (by decide+kernel) (eu (tk:=s.toks) I ⟨a,_,n,rfl,I.base.fW _ _ O,?_⟩)
  exact a8.cons ⟨_,rfl⟩ (a8.cons ⟨_,rfl⟩ (a8.cons ⟨_,rfl⟩ (a8.cons ⟨_,rfl⟩ a8.nil)))
 ·refine bT bl.Fl ?_;intro t M
  exact nJ M ae I.c0 I.in (by decide+kernel) (eu (tk:=s.toks) I ⟨t,rfl⟩)
theorem Kl (bl:nH CM bj F) (bA:K.f=F) (c4:gL w CM bj F k C) (bc:eh K k A) (S:cB w CM K env J A R) {f:Str} {p pos:Pos} {args:List Expr} {r:aU} (q:qB C R J f args fs=some (r,fs')) (I:aK w CM K env J ρ s fs):
  wpAny (model aw w) A (eval (.Call (.Name f p) args [] pos) env) (b4 w CM K env J ρ s fs r fs') cc s:=by
 have DD:=bl.totn.toxk
 have Be:=DD.topE
 have kv:=Be.tojS
 refine cH q (fun ae q=>g2 q (fun aB q=> ?_) fun _ q=>g2 q (fun aB q=> ?_) fun _ q=>g2 q (fun _ q=> ?_) fun _ q=>g2 q (fun aB q=> ?_) fun _ q=> ?_) Z
 ·refine b5 q (fun e c bz q=>b5 q (fun gB fs₁ M q=>bG q (fun v O q=>bG q (fun b Y q=>cH q (fun aC q=>b6 q ?_) Z) Z) Z) Z) Z
  rw [aB] at ae|-
  refine bT (TW bz) ?_;intro tD ak
  refine B ak ?_
  exact Sv Be bA bc S ae M O Y aC I
 ·refine b5 q (fun vs fs₁ M q=>b5 q (fun a b O q=>b6 q ?_) Z) Z
  rw [aB] at ae|-
  exact L6 kv bA bc S ae (XR O▸M) I
 ·refine bG q (fun e bz q=>b5 q (fun gB fs₁ M q=>bG q (fun v O q=>bG q (fun r' Y q=>b6 q ?_) Z) Z) Z) Z
  refine B (uk bz) ?_
  exact Rn kv bA bc S ae M O Y I
 ·refine cH q (fun bz q=>b6 q ?_) Z
  rw [aB] at ae|-
  refine B (List.isEmpty_iff.mp bz) ?_
  refine et bl.CT ?_;intro Y9 cj bi eZ
  refine md (bA▸bi) ae I (by decide+kernel) (wj S (bA▸eZ.keep) (vs:=[]) (fs':=fs) rfl I fun be aj aN aZ a0 bw ay=> ?_)
  refine B (show be=[] from ay) ?_
  exact iw a0 bw (TG kv.tos9.topP bA bc cj eZ aZ)
 ·unfold rP at q
  generalize aR:jz f=t at q
  cases t with
  |some names=>exact b5 q (fun vs fs₁ M q=>bG q (fun l hz q=>b6 q (MY DD bA bc S ae aR M hz I)) Z) Z
  |none=>exact cH q (fun an q=>b5 q (fun vs fs₁ M q=>wU q (fun r' per O q=>b6 q (wpAny_mono (Bv kv.tos9 bA c4 bc S an ae M O I) (fun v aj P=>P) fun e aj P=>nomatch P.1)) Z) Z) Z
theorem I1 (bl:nH CM bj F) (bA:K.f=F) {x:Str} {pos:Pos} {r:aU} (q:DS J x fs=some (r,fs')) (I:aK w CM K env J ρ s fs):
  wpAny (model aw w) A (eval (.Name x pos) env) (b4 w CM K env J ρ s fs r fs') cc s:=
 bG q (fun k ag q=>g2 q (fun ae q=>bG q (fun v ay q=>b6 q (O5 bl bA (ae▸ag) ay I)) Z) fun _ q=>yQ q fun hd q=>bG q (fun bh aq q=>b6 q (KL aq (Bool.eq_false_iff.mpr hd) I)) Z) Z
theorem RW (bl:nH CM bj F) (bA:K.f=F) (bc:eh K k A) {b9:Scope->bk} (S:∀env J,cB w CM K env J A (b9 J)) {elt:Expr} {gens:List Comprehension} {aX:Scope} {pos:Pos} {r:aU} (q:zt b9 J elt gens aX fs=some (r,fs')) (I:aK w CM K env J ρ s fs):
  wpAny (model aw w) A (eval (.ListComp elt gens aX pos) env) (b4 w CM K env J ρ s fs r fs') cc s:=by
 refine bG q (fun g bi q=>b5 q (fun items fs₁ M q=>cH q (fun hz q=>b5 q (fun ck fs₂ O q=>b6 q ?_) Z) Z) Z) Z
 refine bT (E7 bi) ?_;intro px e
 refine B e ?_
 have hz:=Bool.and_eq_true_iff.mp hz
 have nU:=Bool.and_eq_true_iff.mp hz.2
 exact Ku bl.totn.toxk.topE.tojS bA bc.eH (S env J) (fun eb=>S eb aX) M (of_decide_eq_true hz.1) (beq_iff_eq.mp nU.1) nU.2 O I
theorem Q2 (S:cB w CM K env J A R) {e i:Expr} {pos:Pos} {r:aU} (q:vZ R e i fs=some (r,fs')) (I:aK w CM K env J ρ s fs):
  wpAny (model aw w) A (eval (.Subscript e i pos) env) (b4 w CM K env J ρ s fs r fs') cc s:=by
 unfold vZ at q
 generalize hs:nF i=t at q
 cases t with
 |some t=>
  refine b5 q (fun gB fs₁ M q=>b5 q (fun a fs₂ O q=>b5 q (fun b fs₃ Y q=>bG q (fun l aC q=>cH q (fun hz q=>b6 q ?_) Z) Z) Z) Z) Z
  refine bT (Xf hs) ?_;intro p ak
  refine B ak ?_
  exact T4 (r':=gB) S M O Y (vz aC) hz I
 |none=>
  refine b5 q (fun gB fs₁ M q=>si q (fun eD fs₂ O q=>bG q (fun v Y q=>bG q (fun YU d9 q=>b6 q ?_) Z) Z) Z) Z
  exact Subscript_ (S.eN M I fun fc aj aN aZ a0 bw aP=>S.eN O aZ fun l4 ct b8 cN ca dF ot=>iw (a0.trans ca) (bw.trans dF) (Pz (IV hs) d9 cN (ie cN (aP.bt ca dF) Y) (.gg ot)))
theorem ID (S:cB w CM K env J A R) {bW:UnaryOp} {x:Expr} {pos:Pos} {r:aU} (q:E9 R bW x fs=some (r,fs')) (I:aK w CM K env J ρ s fs):
  wpAny (model aw w) A (eval (.UnaryOp bW x pos) env) (b4 w CM K env J ρ s fs r fs') cc s:=by
 cases bW with
 |Not=>
  refine AU q (fun b fs₁ M q=>b6 q (wpAny_UnaryOp (S.eN M I fun v aj aN aZ a0 bw aP=> ?_))) Z
  refine B (show v=.bool b from aP) ?_
  exact not_value (wpAny_truthy_bool ⟨aN,aZ,a0,bw,rfl⟩)
 |USub=>
  refine Hh q (fun i fs₁ M q=>b6 q (wpAny_UnaryOp (S.eN M I fun v aj aN aZ a0 bw aP=> ?_))) Z
  refine aP.elim fun t e=> ?_
  refine B e ?_
  exact PyProof.Rows.neg_int (b4.trans a0 bw (eu aZ ⟨_,rfl⟩))
 |_=>exact Z q
theorem Kj (bl:nH CM bj F) (bA:K.f=F) (c4:gL w CM bj F k C) (bc:eh K k A) {b9:Scope->bk} (S:∀env J,cB w CM K env J A (b9 J)) {e:Expr} {r:aU} (q:i1 C b9 J e fs=some (r,fs')) (I:aK w CM K env J ρ s fs):
  wpAny (model aw w) A (eval e env) (b4 w CM K env J ρ s fs r fs') cc s:=by
 have kv:=bl.totn.toxk.topE.tojS
 have fg:=S env J
 cases e with
 |Constant c kk pos=>exact Vm q I
 |Name x pos=>exact I1 bl bA q I
 |BoolOp bW vs pos=>
  cases bW with
  |Or=>exact Z q
  |And=>exact b5 (show(ob (oa (b9 J) vs fs) fun b fs₁=>some (.U (.bool b),fs₁))=some (r,fs') from q) (fun b fs₁ M q=>b6 q (by rw [arm_eval_BoolOp];exact Mq fg _ M I)) Z
 |BinOp l bW jL pos=>
  exact b5 q (fun a fs₁ M q=>b5 q (fun b fs₂ O q=>hC q (fun YB nO Y aC q=>bG q (fun c bR q=>b6 q (wpAny_BinOp (fg.eN M I fun mi aj aN aZ a0 bw gB=>fg.eN O aZ fun o1 ct b8 cN ca dF vK=>
   iw (a0.trans ca) (bw.trans dF) (Ud bR cN (ie cN (gB.bt ca dF) Y) (ie cN vK aC))))) Z) Z) Z) Z
 |UnaryOp bW x pos=>exact ID fg q I
 |IfExp c a b pos=>
  refine b5 q (fun t fs₁ M q=>wpAny_IfExp (fg.l8 M I fun aj aN aZ a0 bw=> ?_)) Z
  cases t with
  |true=>exact iw a0 bw (fg.a9 a fs₁ r fs' q aN aj aZ)
  |false=>exact iw a0 bw (fg.a9 b fs₁ r fs' q aN aj aZ)
 |Dict ks vs pos=>exact b5 q (fun l fs₁ M q=>cH q (fun hz q=>b6 q (UN (bA▸kv.rH) fg M hz I)) Z) Z
 |List es pos=>exact b5 q (fun vs fs₁ M q=>cH q (fun hz q=>b6 q (O3 fg M hz I)) Z) Z
 |Tuple es kk pos=>exact b5 q (fun vs fs₁ M q=>cH q (fun hz q=>b6 q (WP fg M hz I)) Z) Z
 |ListComp elt gens aX pos=>exact RW bl bA bc S q I
 |Compare l e7 mm pos=>
  refine b5 q (fun a fs₁ M q=>b5 q (fun b fs₂ O q=>b6 q ?_) Z) Z
  rw [arm_eval_Compare]
  exact wpAny_bind (fg.eN M I fun v aj aN aZ a0 bw aP=>iw a0 bw (Gy fg bc.BI _ O aZ aP).1)
 |Call f args lj pos=>
  refine cH q (fun ag q=> ?_) Z
  refine B (List.isEmpty_iff.mp ag) ?_
  cases f with
  |Attribute o m hY=>
   refine cH q (fun hz q=>b5 q (fun gB fs₁ M q=> ?_) Z) Z
   have hz:=Bool.and_eq_true_iff.mp hz
   have mO:=Bool.and_eq_true_iff.mp hz.1
   exact OK bl.totn bA c4 bc fg mO.1 mO.2 (of_decide_eq_true hz.2) M q I
  |Name f p=>exact Kl bl bA c4 bc fg q I
  |_=>exact Z q
 |Attribute o a pos=>
  refine b5 q (fun gB fs₁ M q=>b5 q (fun c l O q=>cH q (fun hz q=>bG q (fun v ay q=>b6 q ?_) Z) Z) Z) Z
  have hz:=Bool.and_eq_true_iff.mp hz
  exact Attribute_any_ (fg.eN M I fun fc aj aN aZ a0 bw aP=>iw a0 bw (Mv (bA▸kv.tos9.topP.toy7) aZ (ie aZ aP (PY O)).dT hz.1 ay)) (by(rw [arm_eval_Attribute];refine B (FB hz.2) ?_;rfl))
 |Subscript o i pos=>exact Q2 fg q I
 |_=>exact Z q
theorem DI (S:cB w CM K env J A R) {e:Expr} {b:Bool} (an:∀{Q E},wpAny (model aw w) A (eval e env) (fun v aj=>wpAny (model aw w) A (truthy v) Q E aj) E s->wpAny (model aw w) A (isTrue e env (eval e env)) Q E s)
  (q:vM R e fs=some (b,fs')) (I:aK w CM K env J ρ s fs):
  wpAny (model aw w) A (isTrue e env (eval e env)) (kj w CM K env J ρ s fs b fs') cc s:=
 b5 q (fun r fs₁ bH q=>bG q (fun v b7 q=>bG q (fun gs c7 q=>b6 q (an (S.eN bH I fun fc aj aN aZ a0 bw aP=>sy a0 bw (Wv c7 aZ (ie aZ aP b7))))) Z) Z) Z
theorem UA (bl:nH CM bj F) (bA:K.f=F) (c4:gL w CM bj F k C) (bc:eh K k A) {b9:Scope->bk} (S:∀env J,cB w CM K env J A (b9 J)) {e:Expr} {b:Bool} (q:sz b9 J e fs=some (b,fs')) (I:aK w CM K env J ρ s fs):
  wpAny (model aw w) A (isTrue e env (eval e env)) (kj w CM K env J ρ s fs b fs') cc s:=by
 have fg:=S env J
 cases e with
 |UnaryOp bW x pos=>
  cases bW with
  |Not=>exact b5 q (fun gs fs₁ M q=>b6 q (wpAny_isTrue_Not (fg.l8 M I fun aj aN aZ a0 bw=>⟨rfl,aN,aZ,a0,bw⟩))) Z
  |_=>exact DI fg (fun h=>isTrue_plain h rfl) q I
 |BoolOp bW vs pos=>exact wpAny_isTrue_BoolOp (PG fg _ q I)
 |Compare l e7 mm pos=>
  refine b5 q (fun a fs₁ M q=> ?_) Z
  rw [arm_isTrue_Compare]
  exact wpAny_bind (fg.eN M I fun v aj aN aZ a0 bw aP=>sy a0 bw (Gy fg bc.BI _ q aZ aP).2)
 |IfExp c a b pos=>exact Z q
 |_=>exact DI fg (fun h=>isTrue_plain h rfl) q I
end
end Mine
end
section
open PySem PySem.W PySem.Calls PyProof.Rows
namespace Mine
section
variable{w:World} {CM:cn} {bj:dM} {F:Frag} {K:Top} {env eb:Env} {J aX:Scope} {A:Around} {E:Value->Shared->Prop} {ρ ρ₀ aT ρ':a5} {s c9 a7 az:Shared} {fs fs' fs₁:X} {R:bk} {C:cs} {k:Nat}
theorem H1 {l:Addr} {vs:List Value} {n:Nat} {i:Int} {t:Tok} {v:Value} {Q:Unit->Shared->Prop} (cr:s.heap.get? l=some (mN vs n)) (aL:0<=i) (Bp:i<2^63) (aE:i.toNat<vs.length)
  (cV:∀h' i5,h'.get? l=some (mN (vs.set i.toNat v) i5)->Heap.SameBut l s.heap h'->Q () {s with heap:=h'}):
  wpAny (model aw w) A (setItem (.ref l) (.int i t) v) Q E s:=by
 have aq:s.heap.IsList l (Array.mk vs):=fA cr
 unfold setItem
 try with_reducible refine wpAny_holding ?_
 first|refine wpAny_bind (wpAny_pure ?_)|skip
 refine wpAny_bind (wpAny_sequenceKey aq.typeIs (by decide) ?_)
 refine wpAny_bind (wpAny_callSpecial?_slot (name:=Str.ofString "__setitem__") aq.typeIs slot_list_setitem
  (wpAny_call_entry slot_list_setitem aq.typeIs entry_list_setitem ?_ (args_list_setitem _ _ _)))
 show wpAny _ _ (Builtin.List.listSubscript? (.int i t)>>=_) _ _ s
 refine wpAny_bind (wpAny_listSubscript_int (fitsIndex_of aL Bp) ?_)
 clear Bp
 refine bT (Int.eq_ofNat_of_zero_le aL) ?_;intro j u;subst u
 have bF:j<(Array.mk vs).size:=by simpa using aE
 have qO:(Array.mk vs)[j]? =some (Array.mk vs)[j]:=Array.getElem?_eq_getElem bF
 show wpAny _ _ ((seqItemAt l j>>=fun r=>pure (r.map (j, ·)))>>=_) _ _ s
 refine wpAny_bind (wpAny_bind (wpAny_seqItemAt cr rfl (wpAny_pure ?_)))
 refine B qO ?_
 show wpAny _ _ (setSeqItemAt l j v>>=_) _ _ s
 have A2:=get?_update_seq cr (·.setIfInBounds j v)
 have e:(Array.mk vs).setIfInBounds j v=Array.mk (vs.set j v):=by
  apply Array.toList_inj.mp
  simp
 refine wpAny_bind (wpAny_setSeqItemAt cr rfl ?_)
 first
  |exact wpAny_bind (wpAny_pure (wpAny_pure ⟨.none,rfl,wpAny_pure (cV _ _ (by(refine B A2 ?_;refine B e ?_);rfl) (Heap.SameBut.update ..))⟩))
  |exact wpAny_pure ⟨.none,rfl,wpAny_pure (cV _ _ (by rw [A2,e];rfl) (Heap.SameBut.update ..))⟩
theorem Mi {base:aU} {c:H} {jl:H->X} {nO:Value} (q:EF base fs=some (c,jl)) (I:aK w CM K env J ρ s fs) (ah:eP w CM ρ₀ ρ s fs base nO):
  ∃a,nO=.ref a/\dN w CM ρ s.heap a c/\∀h' tk c',Heap.SameBut a s.heap h'->dN w CM ρ h' a c'->aK w CM K env J ρ {s with heap:=h',toks:=tk} (jl c')/\a1 ρ s ρ {s with heap:=h',toks:=tk}:=by
 cases base with
 |own _=>exact Z q
 |var x=>
  refine bG q (fun v ay q=>b6 q ?_) Z
  have bi:=ol ay
  refine et (ah.rX I bi) ?_;intro a ak ar bP
  exact⟨a,ak,bP,fun h' tk c' hs oQ=>⟨(I.qy (tk:=tk) ar bi hs oQ).1,(I.qy (tk:=tk) ar bi hs oQ).2.1⟩⟩
 |U v=>
  refine bG q (fun k ag q=>bG q (fun y aQ q=>b6 q ?_) Z) Z
  replace ah:=(Wh ag)▸ah
  refine bb ah ?_;clear ah;intro a ak ar
  refine bb (I.base.fU a k ar) ?_;intro x M O
  exact⟨a,ak,Option.some.inj (M.symm.trans aQ)▸O,fun h' tk c' hs oQ=>I.Rd ar hs oQ⟩
theorem Pg {base:aU} {eD v:H} {nO l4 qz:Value} {Q:Unit->Shared->Prop} (q:p9 base eD v fs=some fs') (I:aK w CM K env J ρ s fs) (ah:eP w CM ρ₀ ρ s fs base nO) (ag:bY w CM ρ eD l4) (ay:bY w CM ρ v qz)
  (h:∀h' tk,aK w CM K env J ρ {s with heap:=h',toks:=tk} fs'->a1 ρ s ρ {s with heap:=h',toks:=tk}->Q () {s with heap:=h',toks:=tk}):
  wpAny (model aw w) A (setItem nO l4 qz) Q E s:=by
 refine b5 q (fun c jl an q=> ?_) Z
 refine et (Mi an I ah) ?_;intro a u fw DZ;subst u;clear an ah
 cases c with
 |V l=>
  refine bG q (fun cY eB q=>cH q (fun hz q=> ?_) Z) Z
  replace h:=(Eq.symm (Option.some.inj q))▸h
  have hi:iq cY l4=true:=cv.key (s:=s) (.gg ag) eB
  refine Aq fw ?_;intro ob es cq aS aL ak ar bP cW dn
  refine ef dn ?_;intro dn fe jv
  refine wpAny_setItem_pairs (knd:=kk w) hi ⟨ob,es,cq,ak,ar,bP,cW,dn,fe⟩ (fun h' sZ fr=> ?_) (by refine B jv.length ?_;exact Nat.le_trans hz ja)
  refine p0 sZ ?_;clear sZ;intro hu d3 vj ea fH ht kY pS su
  have z:=DZ h' (s.toks+1) (.V (cU cY v l)) fr ⟨hu,d3,vj,_,aL,ea,fH,ht,kY,pS,su,jv.set fe ay⟩
  exact h _ _ z.1 z.2
 |am l=>
  refine bG q (fun i aR q=>cH q (fun hz q=> ?_) Z) Z
  replace h:=(Eq.symm (Option.some.inj q))▸h
  have mO:=Bool.and_eq_true_iff.mp hz
  have nU:=Bool.and_eq_true_iff.mp mO.2
  refine hw fw ?_;intro vs n ak ar
  replace ag:=(jy aR)▸ag
  refine ag.elim fun t u=> ?_;subst u
  refine H1 ak (of_decide_eq_true mO.1) (Int.lt_trans (of_decide_eq_true nU.1) (by decide)) (by refine B ar.length ?_;exact of_decide_eq_true nU.2) fun h' i5 bP fr=> ?_
  have z:=DZ h' s.toks (.am (l.set i.toNat v)) fr ⟨_,i5,bP,ar.set _ ay⟩
  exact h _ s.toks z.1 z.2
 |_=>exact Z q
theorem mV.draw {items:List H} {o:Obj} {fo:List Addr} {P:Nat->Value->Prop} {cA:Nat->Heap->Prop} (dY:mV w CM A ρ s items o fo P cA):
  ∀(n i:Nat) (t:Shared) (Q:List Value->Shared->Prop),cA i t.heap->i+n<=items.length->
  (∀vs h' tk,a8 w CM ρ ((items.drop i).take n) vs->cA (i+n) h'->(∀b ob,b≠s.heap.objs.size->t.heap.get? b=some ob->h'.get? b=some ob)->Q vs {t with heap:=h',toks:=tk})->wpAny (model aw w) A (draw (.ref s.heap.objs.size) n) Q E t:=by
 intro n
 induction n with
 |zero=>
  intro i t Q ao pY cV
  exact wpAny_pure (cV [] t.heap t.toks a8.nil ao fun _ _ _ e=>e)
 |succ n ih=>
  intro i t Q ao pY cV
  show wpAny _ _ (pyNext (.ref s.heap.objs.size)>>=_) Q E t
  have cy:i<items.length:=Nat.lt_of_lt_of_le (Nat.lt_add_of_pos_right (Nat.succ_pos n)) pY
  rw [show i+(n+1)=i+1+n from(Nat.add_right_comm i 1 n).symm] at pY cV
  refine wpAny_bind (dY.ku.item i t _ _ cy ao fun v bv kF iQ H5 mo=> ?_)
  refine bb (dY.be i v cy iQ) ?_;intro x ae aP
  refine wpAny_bind (wpAny_holding (ih (i+1) _ _ H5 pY fun vs dI jO i2 LB Vv=>wpAny_pure ?_))
  refine cV _ dI jO ?_ LB fun b ob ah e=>Vv b ob ah (mo b ob (fun q=>ah (List.mem_singleton.mp q)) e)
  (refine B (List.drop_eq_getElem_cons cy) ?_;refine B List.take_succ_cons ?_;refine B (show items[i]=x from Option.some.inj ((List.getElem?_eq_getElem cy).symm.trans ae)) ?_)
  exact a8.cons aP i2
theorem CS (bc:f4 K A) {l:List H} {v:Value} {n:Nat} {Q:List Value->Shared->Prop} (aE:n=l.length) (I:aK w CM K env J ρ s fs) (aP:bY w CM ρ (.aF l) v)
  (h:∀ρ' vs h' tk,aK w CM K env J ρ' {s with heap:=h',toks:=tk} fs->a1 ρ s ρ' {s with heap:=h',toks:=tk}->cb ρ fs.loc ρ' fs.loc->a8 w CM ρ' l vs->Q vs {s with heap:=h',toks:=tk}):
  wpAny (model aw w) A (unpackItems v n none) Q E s:=by
 subst aE
 refine dz (id aP) ?_;intro a c1 m u;subst u;intro M O
 have iP:=I.base.bK _ _ M
 have aG:s.heap.IsTuple a (Array.mk c1):=l7 iP
 unfold unpackItems
 refine wpAny_bind ?_
 unfold notIterableAtAll
 refine wpAny_bind (wpAny_specialOf aG.typeIs slot_tuple_iter.lookup ?_)
 refine wpAny_pure ?_
 simp only [Bool.false_eq_true,if_false]
 refine wpAny_bind (wpAny_holding (wpAny_mono (Bt bc (x:=.aF l) rfl I aP) (fun dj aj P=> ?_) fun _ _ f=>f))
 refine jn P ?_;clear P;intro aN pa o fo P
 refine uc P ?_;clear P;intro P cA u r1 aZ a0 bw dY;subst u;subst r1
 have fI:aN pa.heap.objs.size=.free:=(aZ.base.c2 _).mpr fd
 refine jY (aZ.push dY.e5) ?_;intro cN ca dF pJ _
 refine wpAny_bind (wpAny_holding (dY.draw l.length 0 {pa with heap:=pa.heap.push o} _ dY.ao (Nat.le_of_eq (Nat.zero_add _)) fun vs fn Mo i2 wD KX=> ?_))
 (replace i2:=List.drop_zero▸i2;replace i2:=List.take_length▸i2)
 have bC:=i2.length
 refine B (if_neg (by rw [bC];exact Nat.lt_irrefl _)) ?_
 replace wD:=(Nat.zero_add _)▸wD
 refine wpAny_bind (wpAny_holding (dY.ku.done {pa with heap:=fn,toks:=Mo} _ _ wD fun vX Bz Sx=> ?_))
 simp only [Option.isSome_none,Bool.false_eq_true,if_false]
 refine jY (cN.eM (h':=vX) (tk:=Bz) pJ (h5 aZ fI) fun b ob ah e=>Sx b ob (fun q=>ah (List.mem_singleton.mp q)) (KX b ob ah e)) ?_;intro he ej Oq Xw _
 have hA:=ej fI ca
 have ao:=a0.ao
 refine jf ao ?_;clear ao;intro bx AQ e
 subst e
 refine wpAny_pure (h _ vs vX Bz he (a0.trans hA) (bw.trans ⟨dF.U,fun b y e=> ?_,fun b y e=>dF.gv b y (Oq b y e)⟩) (i2.bt hA.bK hA.per))
 rcases dF.aD b y e with z|z
 ·exact .inl ((Xw b (d7 z pJ) (bI z)).trans z)
 ·exact .inr z
end
end Mine
end
section
open PySem PySem.W PySem.Calls PyProof.Rows
namespace Mine
section
variable{w:World} {CM:cn} {bj:dM} {F:Frag} {K:Top} {env eb:Env} {J aX:Scope} {A:Around} {E:Value->Shared->Prop} {ρ ρ₀ aT ρ':a5} {s c9 a7 az:Shared} {fs fs' fs₁:X} {R:bk} {C:cs} {k:Nat}
theorem eg.trans {aN:a5} {aj ct:Shared} {ai:bE} {f:Flow} (av:a1 ρ s aN aj) (P:eg w CM K env J aT a7 aN aj ai fs' f ct):eg w CM K env J aT a7 ρ s ai fs' f ct:=P.ext av
theorem cp.n9 {l:List (Str×cf)} (a3:cp w CM K env J aT a7 ρ s fs) (h:∀y,Mine.getL y l=Mine.getL y fs.loc):cp w CM K env J aT a7 ρ s {fs with loc:=l}:=⟨a3.dE.n9 h,a3.ext,a3.gN⟩
theorem TS {r r':aU} {v:Value} (q:fs.take r=some (r',fs')) (a3:cp w CM K env J aT a7 ρ s fs) (aP:eP w CM ρ₀ ρ s fs r v) (aL:∀a,ρ₀ a=.free->aT a=.free):
  ∃ρ',cp w CM K env J aT a7 ρ' s fs'/\nn w CM aT ρ' s r' v:=by
 cases r with
 |U y=>exact b6 q ⟨ρ,a3,aP⟩
 |own y=>
  refine b6 q ⟨ρ,a3,?_⟩
  exact aP.imp fun a h=>⟨h.1,aL a h.2.1,h.2.2⟩
 |var x=>
  refine bG q (fun c hc q=>b6 q ?_) Z
  have bi:=ol hc
  refine et (aP.rX a3.dE bi) ?_;intro a u;subst u;intro bz hc
  refine oF (a3.dE.fm x) ?_;intro jD ei cP ho
  exact⟨_,⟨jD,a3.ext.trans ei,fun b y e=>a3.gN b y (cP b y e)⟩,a,rfl,a3.gN a x bz,if_pos bz,hc.bt ei.bK ei.per fun _ e=>e⟩
theorem zE {aN:a5} {aj:Shared} {x:Str} {r:aU} {v:Value} {Q:Unit->Shared->Prop} (q:eL J x r fs₁=some fs') (a3:cp w CM K env J aT a7 ρ s fs) (aZ:aK w CM K env J aN aj fs₁) (a0:a1 ρ s aN aj) (bw:cb ρ fs.loc aN fs₁.loc) (aP:eP w CM ρ aN aj fs₁ r v)
  (h:∀az,(∃ρ',cp w CM K env J aT a7 ρ' az fs'/\a1 ρ s ρ' az)->Q () az):
  wpAny (model aw w) A (storeName env x v) Q E aj:=by
 refine z0 q aZ aP (fun a aL y c M O=>h5 a3.dE aL y c M O) fun b8 dI jO cN ca oT pe pJ=>h _ ?_
 have hA:a1 ρ s b8 {aj with heap:=dI,toks:=jO}:=by
  rcases ca with ca|ca
  ·exact a0.trans ca
  ·exact ca _ a0
 refine⟨b8,⟨cN,a3.ext.trans hA,fun a y e=> ?_⟩,hA⟩
 rcases oT a y e with z|z
 ·exact a3.gN a y (bw.gv a y z)
 ·exact a3.ext.ic _ z
theorem V8 {x:Str} {v:H} (q:eL J x (.U v) fs=some fs'):fs'={fs with loc:=bX x (.U v) fs.loc}/\∀eA:X,eL J x (.U v) eA=some {eA with loc:=bX x (.U v) eA.loc}:=
 bG q (fun k ag q=>bG q (fun c hc q=>⟨(Option.some.inj q).symm,fun eA=>by
  exact bp ag (bp hc rfl)⟩) Z) Z
theorem oL {t:Expr} {ts:List Expr} {vs:List H} {G:Prop} (q:hL J (t::ts) vs fs=some fs') (k:∀x px v c1,t=.Name x px->vs=v::c1->eL J x (.U v) fs=some {fs with loc:=bX x (.U v) fs.loc}->(∀eA:X,eL J x (.U v) eA=some {eA with loc:=bX x (.U v) eA.loc})->
  hL J ts c1 {fs with loc:=bX x (.U v) fs.loc}=some fs'->G):G:=by
 cases vs with
 |nil=>exact Z q
 |cons v c1=>
  refine bG q (fun x ae q=>bG q (fun fs₁ hs q=> ?_) Z) Z
  refine bT (oo ae) ?_;intro px e
  refine cl (V8 hs) ?_;intro ak h
  replace q:=ak▸q
  exact k x px v c1 e rfl (h fs) h q
theorem sQ {vs:List H} (q:hL J [] vs fs=some fs'):vs=[]/\fs=fs':=by
 cases vs with
 |nil=>exact⟨rfl,Option.some.inj q⟩
 |cons _ _=>exact Z q
noncomputable def He (w:World) (CM:cn) (K:Top) (env:Env) (J:Scope) (aT:a5) (a7:Shared) (ρ:a5) (s:Shared) (fs:X) (az:Shared):Prop:=∃ρ',cp w CM K env J aT a7 ρ' az fs/\a1 ρ s ρ' az
theorem Xs (ts:List Expr):∀{vs:List H} {be:List Value} {fs fs':X} {ρ:a5} {s:Shared},hL J ts vs fs=some fs'->cp w CM K env J aT a7 ρ s fs->a8 w CM ρ vs be->
  wpAny (model aw w) A (assignInOrder ((assignEach ts env).map (·.2)) be) (fun _ az=>He w CM K env J aT a7 ρ s fs' az) E s:=by
 induction ts with
 |nil=>
  intro vs be fs fs' ρ s q a3 ay
  refine cl (sQ q) ?_;intro ak ar
  replace ay:=ak▸ay
  refine B (show be=[] from ay) ?_
  exact wpAny_pure ⟨ρ,ar▸a3,a1.refl ..⟩
 |cons t ts ih=>
  intro vs be fs fs' ρ s q a3 ay
  refine oL q fun x px v c1 ak ar hs _ bn=> ?_
  replace ay:=ar▸ay
  refine B ak ?_
  refine dP ay ?_;clear ay;intro u qS M O Y
  subst M
  show wpAny _ A (do holding qS (assign (.Name x px) env u);assignInOrder ((assignEach ts env).map (·.2)) qS) _ _ s
  refine wpAny_bind (wpAny_holding (PySem.wpAny_assign_Name (sT hs a3.dE O fun aN bv kF aZ a0 iy _=> ?_)))
  exact wpAny_mono (ih bn ⟨aZ,a3.ext.trans a0,fun a y e=>a3.gN a y (iy a y e)⟩ (Y.bt a0.bK a0.per)) (fun _ ct P=>P.imp fun b8 z=>⟨z.1,a0.trans z.2⟩) fun _ _ e=>e
theorem ph {x y:Str} {v:cf} {l:List (Str×cf)}:Mine.getL y (bX x v l)=if y=x then some v else Mine.getL y l:=by
 by_cases q:y=x
 ·subst q;(refine B (if_pos rfl) ?_;refine B j2 ?_;rfl)
 ·(refine B (if_neg q) ?_;refine B (iG q) ?_;rfl)
theorem Qy (ts:List Expr):∀{xs:List Str} {vs:List H} {be:List Value} {fs fs':X} {ρ:a5} {s:Shared},hL J ts vs fs=some fs'->ts.map g0=xs.map some->cp w CM K env J aT a7 ρ s fs->a8 w CM ρ vs be->
  wpAny (model aw w) A (assignInOrder (xs.map fun n=>bindName env n) be) (fun _ az=>He w CM K env J aT a7 ρ s fs' az) E s:=by
 induction ts with
 |nil=>
  intro xs vs be fs fs' ρ s q e a3 ay
  cases xs with
  |cons _ _=>exact(nomatch e)
  |nil=>
   refine cl (sQ q) ?_;intro ak ar
   replace ay:=ak▸ay
   refine B (show be=[] from ay) ?_
   exact wpAny_pure ⟨ρ,ar▸a3,a1.refl ..⟩
 |cons t ts ih=>
  intro xs vs be fs fs' ρ s q e a3 ay
  cases xs with
  |nil=>exact(nomatch e)
  |cons y ck=>
   refine oL q fun x px v c1 ak ar hs _ bn=> ?_
   replace ay:=ar▸ay
   refine dP ay ?_;clear ay;intro u qS M O Y
   subst M
   have cg:=List.cons.inj e
   refine bu (Option.some.inj ((congrArg g0 ak).symm.trans cg.1)) ?_
   show wpAny _ A (do holding qS (bindName env x u);assignInOrder (ck.map fun n=>bindName env n) qS) _ _ s
   refine wpAny_bind (wpAny_holding (wpAny_bindName (sT hs a3.dE O fun aN bv kF aZ a0 iy _=> ?_)))
   exact wpAny_mono (ih bn cg.2 ⟨aZ,a3.ext.trans a0,fun a y e=>a3.gN a y (iy a y e)⟩ (Y.bt a0.bK a0.per)) (fun _ ct P=>P.imp fun b8 z=>⟨z.1,a0.trans z.2⟩) fun _ _ e=>e
theorem set_comm {x y:Str} {a b:cf} {l:List (Str×cf)} (h:¬x=y) (z:Str):Mine.getL z (bX y b (bX x a l))=Mine.getL z (bX x a (bX y b l)):=by
 (refine B ph ?_;refine B ph ?_;refine B ph ?_;refine B ph ?_)
 by_cases M:z=y
 ·(refine B (if_pos M) ?_;refine B (if_neg (fun e=>h (e.symm.trans M))) ?_;refine B (if_pos M) ?_;rfl)
 ·(refine B (if_neg M) ?_;refine B (if_neg M) ?_;rfl)
theorem Qx {y:Str} {b:cf} {l c8:List (Str×cf)} (h:∀z,Mine.getL z l=Mine.getL z c8) (z:Str):Mine.getL z (bX y b l)=Mine.getL z (bX y b c8):=by
 (refine B ph ?_;refine B ph ?_;refine B (h _) ?_;rfl)
theorem rl {x:Str} {px:Pos} {ts:List Expr} {v:H} {c1:List H} (h:∀eA:X,eL J x (.U v) eA=some {eA with loc:=bX x (.U v) eA.loc}):hL J (.Name x px::ts) (v::c1) fs=hL J ts c1 {fs with loc:=bX x (.U v) fs.loc}:=by
 show br (eL J x (.U v) fs) (fun fs₁=>hL J ts c1 fs₁)=_
 refine B (h _) ?_;rfl
theorem LL {ts:List Expr} {vs:List H} (aq:ts.length=2\/ts.length=3) (hd:tU ts=true) (q:hL J ts vs fs=some fs'):
  ∃fs₂,hL J ts.reverse vs.reverse fs=some fs₂/\fs'.per=fs₂.per/\∀y,Mine.getL y fs'.loc=Mine.getL y fs₂.loc:=by
 have hK:=of_decide_eq_true (Bool.and_eq_true_iff.mp hd).2
 clear hd
 cases ts with
 |nil=>exact aq.elim (fun h=>nomatch h) fun h=>nomatch h
 |cons oz ts=>cases ts with
  |nil=>exact aq.elim (fun h=>nomatch h) fun h=>nomatch h
  |cons oc ts=>
   refine oL q fun x px v c1 ak ar _ d5 q=>oL q fun y jI u Zu bP cW _ dX q=> ?_
   rw [ak,bP] at hK|-
   (refine B ar ?_;refine B cW ?_)
   have sG:¬x=y:=fun e=>(List.nodup_cons.mp hK).1 (by refine B e ?_;exact List.mem_cons_self)
   cases ts with
   |nil=>
    refine cl (sQ q) ?_;intro dn fe
    (refine B dn ?_;refine bu fe ?_)
    exact⟨_,(rl dX).trans (rl d5),rfl,set_comm sG⟩
   |cons nQ ts=>cases ts with
    |cons _ _=>exact aq.elim (fun h=>nomatch h) fun h=>nomatch h
    |nil=>
     refine oL q fun z lU t YR dn fe _ fF q=> ?_
     refine cl (sQ q) ?_;intro jv n5
     rw [dn] at hK|-
     (refine B fe ?_;refine B jv ?_;refine bu n5 ?_)
     have Kn:¬x=z:=fun e=>(List.nodup_cons.mp hK).1 (by refine B e ?_;exact List.mem_cons_of_mem _ List.mem_cons_self)
     have wI:¬y=z:=fun e=>(List.nodup_cons.mp (List.nodup_cons.mp hK).2).1 (by refine B e ?_;exact List.mem_cons_self)
     exact⟨_,(rl fF).trans ((rl dX).trans (rl d5)),rfl,fun k=>(set_comm wI k).trans ((Qx (set_comm Kn) k).trans (set_comm sG k))⟩
theorem Tr {f:Expr->Option Str} (aB:∀e x,f e=some x->g0 e=some x) (ts:List Expr):(ts.filterMap f).length=ts.length->ts.map g0=(ts.filterMap f).map some:=by
 induction ts with
 |nil=>intro _;rfl
 |cons t ts ih=>
  intro h
  cases aG:f t with
  |none=>
   replace h:=(List.filterMap_cons_none aG)▸h
   exact absurd (h▸List.length_filterMap_le f ts) (Nat.not_succ_le_self _)
  |some x=>
   rw [List.filterMap_cons_some aG] at h|-
   (refine B List.map_cons ?_;refine B List.map_cons ?_;refine B (aB t x aG) ?_;refine B (ih (Nat.succ.inj h)) ?_;rfl)
theorem sk {α:Type u} {c:Prop} [Decidable c] {a b:α} {P:α->Prop} (M:c->P a) (O:¬c->P b):P (if c then a else b):=by
 by_cases q:c
 ·refine B (if_pos q) ?_;exact M q
 ·refine B (if_neg q) ?_;exact O q
noncomputable def q2 (ts:List Expr) (A:Sem (Option (List Str))):Prop:=A=pure none\/∃names,A=pure (some names)/\ts.map g0=names.map some/\(ts.length=2\/ts.length=3)
theorem JH {ts:List Expr} {kk:Nat} {tp:Pos} {e:Expr} (an:vn e=true):swappedStores [.Tuple ts kk tp] e env=pure none\/
  ∃names,swappedStores [.Tuple ts kk tp] e env=pure (some names)/\ts.map g0=names.map some/\(ts.length=2\/ts.length=3):=by
 cases e with
 |Tuple vs k p=>
  refine sk (P:=q2 ts) (fun _=>.inl rfl) fun M=>sk (P:=q2 ts) (fun _=>.inl rfl) fun _=>sk (P:=q2 ts) (fun _=>.inl rfl) fun Y=>sk (P:=q2 ts) (fun _=>.inl rfl) fun _=>sk (P:=q2 ts) (fun bR=> ?_) fun _=> ?_
  ·exact lr ((congrArg (!·) bR).symm.trans an)
  ·refine .inr ⟨_,rfl,Tr (fun e x h=> ?_) ts ?_,?_⟩
   ·cases e with
    |Name id pos=>exact cH h (fun _ h=>h) Z
    |_=>exact Z h
   ·(replace Y:=(Bool.or_eq_true _ _)▸Y;rw [not_or] at Y)
    have aC:=Y.1
    (rw [bne_iff_ne] at aC;replace aC:=(ne_eq _ _)▸aC;rw [Classical.not_not] at aC)
    exact aC
   ·simp only [Bool.or_eq_true,not_or,Bool.not_eq_true,Bool.not_eq_false',beq_iff_eq] at M
    exact M.1.1
 |_=>exact .inl rfl
end
end Mine
end
section
open PySem PySem.W PySem.Calls PyProof.Rows
namespace Mine
section
variable{w:World} {CM:cn} {bj:dM} {F:Frag} {K:Top} {env eb:Env} {J aX:Scope} {A:Around} {E:Value->Shared->Prop} {ρ ρ₀ aT ρ':a5} {s c9 a7 az:Shared} {fs fs' fs₁:X} {ai:bE} {R:bk} {C:cs} {k:Nat}
theorem Lv (S:cB w CM K env J A R) {e:Expr} {pos:Pos} {r r':aU} (q:R.a9 e fs=some (r,fs₁)) (bn:fs₁.take r=some (r',fs')) (a3:cp w CM K env J aT a7 ρ s fs):
  wpAny (model aw w) A (exec (.Return (some e) pos) env) (eg w CM K env J aT a7 ρ s (.ret r') fs') (hH w CM K env J aT a7 (.ret r') fs') s:=by
 refine wpAny_Return_some (S.eN q a3.dE fun v aj aN aZ a0 bw aP=> ?_)
 exact(TS bn (a3.step aZ a0 bw) aP fun a h=>a3.ext.ic a h).elim fun b8 z=>⟨v,rfl,b8,z⟩
theorem Ev (S:fL w CM K env J A R) {aN:a5} {aj:Shared} {body:List Stmt} (q:cO R body fs₁=some (ai,fs')) (av:a1 ρ s aN aj) (a3:cp w CM K env J aT a7 aN aj fs₁):
  wpAny (model aw w) A (execs body env) (eg w CM K env J aT a7 ρ s ai fs') (hH w CM K env J aT a7 ai fs') aj:=wpAny_mono (od S _ q a3) (fun f ct P=>P.ext av) fun _ _ h=>h
theorem Vn (S:fL w CM K env J A R) {c:Expr} {a b:List Stmt} {pos:Pos} {t:Bool} (q:R.dH c fs=some (t,fs₁)) (bn:(if t=true then cO R a fs₁ else cO R b fs₁)=some (ai,fs')) (a3:cp w CM K env J aT a7 ρ s fs):
  wpAny (model aw w) A (exec (.If c a b pos) env) (eg w CM K env J aT a7 ρ s ai fs') (hH w CM K env J aT a7 ai fs') s:=by
 refine wpAny_If (S.l8 q a3.dE fun aj aN aZ a0 bw=> ?_)
 cases t with
 |true=>exact Ev S bn a0 (a3.step aZ a0 bw)
 |false=>exact Ev S bn a0 (a3.step aZ a0 bw)
theorem FR {hj:bE} {f:Flow} {aj ct:Shared} {aN:a5} {fs₂:X} {k:X->Option (bE×X)} {G:Prop} (aq:qj hj fs₂ k=some (ai,fs')) (av:a1 ρ s aN aj) (P:eg w CM K env J aT a7 aN aj hj fs₂ f ct)
  (k1:∀b8,f=.next->k fs₂=some (ai,fs')->cp w CM K env J aT a7 b8 ct fs₂->a1 ρ s b8 ct->a1 aN aj b8 ct->G) (k2:f=.brk->eg w CM K env J aT a7 ρ s ai fs' .next ct->G) (k3:∀v,f=.ret v->eg w CM K env J aT a7 ρ s ai fs' (.ret v) ct->G):G:=by
 cases hj with
 |next=>exact P.2.elim fun b8 z=>k1 b8 P.1 aq z.1 (av.trans z.2) z.2
 |brk=>
  refine P.2.elim fun b8 z=>k2 P.1 ?_
  exact b6 (show some (.next,fs₂)=some (ai,fs') from aq) ⟨rfl,b8,z.1,av.trans z.2⟩
 |ret r=>
  refine P.elim fun v z=>k3 v z.1 ?_
  exact b6 (show some (.ret r,fs₂)=some (ai,fs') from aq) ⟨v,rfl,z.2⟩
 |dA=>exact Z aq
theorem Cf {hj:bE} {fs₂:X} {k:X->Option (bE×X)} (aq:qj hj fs₂ k=some (ai,fs')):hj≠.dA:=fun e=>Z ((congrArg (qj · fs₂ k) e).symm.trans aq)
theorem V6 (S:fL w CM K env J A R) {c:Expr} {body:List Stmt} {RR:Result->Shared->Prop} {n:Nat} (q:gK R c body n fs=some (ai,fs')) (a3:cp w CM K env J aT a7 ρ s fs)
  (f9:∀f t,eg w CM K env J aT a7 ρ s ai fs' f t->RR (.ok f) t):codeAny (model aw w) A (.whileLoop c body [] env) RR s:=by
 obtain⟨e6,kn⟩:∃e6:Nat->Shared->Prop,∀m t,e6 m t↔∃gi ha,gK R c body m ha=some (ai,fs')/\cp w CM K env J aT a7 gi t ha/\a1 ρ s gi t:=⟨_,fun _ _=>Iff.rfl⟩
 refine codeAny_whileLoop e6 ?_ n ((kn _ _).mpr ⟨ρ,fs,q,a3,a1.refl ..⟩)
 intro m t h
 refine dP ((kn m t).mp h) ?_;clear h;intro gi ha d9 mC Xt
 cases m with
 |zero=>exact Z d9
 |succ m=>
  refine b5 d9 (fun gs DY hc d9=>S.l8 hc mC.dE fun aj aN aZ a0 bw=> ?_) Z
  cases gs with
  |true=>
   refine b5 (show ob (cO R body DY) (fun ai fs₂=>qj ai fs₂ (gK R c body m))=some (ai,fs') from d9) (fun hj mF ah aq=> ?_) Z
   refine B (if_pos rfl) ?_
   refine wpAny_mono (od S _ ah (mC.step aZ a0 bw)) (fun f ct P=>FR aq (Xt.trans a0) P (fun b8 e d9 cN ca _=> ?_) (fun e P=> ?_) fun v e P=> ?_) fun _ _ h=>absurd h.1 (Cf aq)<;>refine B e ?_
   ·exact⟨m,Nat.lt_succ_self m,(kn m ct).mpr ⟨b8,mF,d9,cN,ca⟩⟩
   ·exact f9 _ _ P
   ·exact f9 _ _ P
  |false=>
   refine B (if_neg (by decide)) ?_
   refine wpAny_execs_nil (f9 _ _ ?_)
   exact b6 (show some (.next,DY)=some (ai,fs') from d9) ⟨rfl,aN,mC.step aZ a0 bw,Xt.trans a0⟩
theorem ON (S:fL w CM K env J A R) {c:Expr} {body:List Stmt} {pos:Pos} {n:Nat} (q:gK R c body n fs=some (ai,fs')) (a3:cp w CM K env J aT a7 ρ s fs):
  wpAny (model aw w) A (exec (.While c body [] pos) env) (eg w CM K env J aT a7 ρ s ai fs') E s:=
 wpAny_While (V6 S q a3 fun f t P=>P)
theorem P2 (S:fL w CM K env J A R) {x:Str} {px:Pos} {body:List Stmt} {items:List H} {o:Obj} {fo:List Addr} {P:Nat->Value->Prop} {cA:Nat->Heap->Prop} {RR:Result->Shared->Prop}
  (dY:mV w CM A ρ s items o fo P cA) (q:f1 R J x body items fs=some (ai,fs')) (a3:cp w CM K env J aT a7 ρ s fs)
  (f9:∀f t,eg w CM K env J aT a7 ρ s ai fs' f t->RR (.ok f) t):codeAny (model aw w) A (.forLoop (.Name x px) (.ref s.heap.objs.size) body [] env) RR {s with heap:=s.heap.push o}:=by
 have fI:ρ s.heap.objs.size=.free:=(a3.dE.base.c2 _).mpr fd
 refine jY (a3.dE.push dY.e5) ?_;intro MR ue US Jt _
 have FQ:∀x c,J.names.lookup x=some .free->env.cells.lookup x=some c->c≠s.heap.objs.size:=h5 a3.dE fI
 obtain⟨e6,kn⟩:∃e6:Nat->Shared->Prop,∀n t,e6 n t↔∃i,n=items.length-i/\i<=items.length/\∃gi ha,f1 R J x body (items.drop i) ha=some (ai,fs')/\cp w CM K env J aT a7 gi t ha/\a1 ρ s gi t/\gi s.heap.objs.size=.aV/\cA i t.heap:=⟨_,fun _ _=>Iff.rfl⟩
 refine codeAny_forLoop e6 ?_ items.length ((kn _ _).mpr ⟨0,rfl,Nat.zero_le _,_,fs,q,a3.step MR ue US,ue,Jt,dY.ao⟩)
 intro n t h
 refine et ((kn n t).mp h) ?_;clear h;intro i e aR h;subst e
 refine qu h ?_;clear h;intro gi ha ff mC Xt mn eO
 have oI:∀{j:Nat} {ip fP:a5} {iz fv:Shared},a1 ρ s ip iz->ip s.heap.objs.size=.aV->a1 ip iz fP fv->(∀a ob,ip a=.bf ob->iz.heap.get? a=some ob)->(∀a ob,fP a=.bf ob->fv.heap.get? a=some ob)->cA j iz.heap->cA j fv.heap:=dY.AW fun b ob e=>e
 by_cases cy:i<items.length
 ·refine dY.ku.item i t _ _ cy eO fun v bv kF iQ mu mo=> ?_
  refine jY (mC.dE.eM (tk:=kF) mn FQ fun b ob ah e=>mo b ob (fun q=>ah (List.mem_singleton.mp q)) e) ?_;intro aZ a0 iy lN r4
  have sN:=(dY.t8 _ _ mu).elim fun pV v5=>r4 (fun q=>Z (q.symm.trans v5))
  have mc:=a0 fI Xt
  refine bb (dY.be i v cy iQ) ?_;intro eV pI sD
  (replace ff:=(List.drop_eq_getElem_cons cy)▸ff;replace ff:=(show items[i]=eV from Option.some.inj ((List.getElem?_eq_getElem cy).symm.trans pI))▸ff)
  refine bG ff (fun TU hs ff=>b5 ff (fun hj mF ah aq=> ?_) Z) Z
  refine wpAny_assign_Name (sT hs aZ (bY.bt mc.bK mc.per sD) fun b8 dI jO cN ca oT pe=> ?_)
  have lw:=mc.trans ca
  have q9:cp w CM K env J aT a7 b8 {t with heap:=dI,toks:=jO} TU:=⟨cN,a3.ext.trans lw,fun a y e=>mC.gN a y (iy a y (oT a y e))⟩
  have my:=ca.aV _ sN
  have rV:cA (i+1) dI:=oI mc sN ca aZ.base.bK cN.base.bK mu
  refine wpAny_mono (od S _ ah q9) (fun f ct P=>FR aq lw P (fun jQ e ff he ej eX=> ?_) (fun e P=> ?_) fun v e P=> ?_) fun _ _ h=>absurd h.1 (Cf aq)<;>refine B e ?_
  ·exact⟨items.length-(i+1),by exact Ut cy,(kn _ _).mpr ⟨i+1,rfl,cy,jQ,mF,ff,he,ej,eX.aV _ my,oI lw my eX cN.base.bK he.dE.base.bK rV⟩⟩
  ·exact f9 _ _ P
  ·exact f9 _ _ P
 ·have Bn:i=items.length:=Nat.le_antisymm aR (Nat.not_lt.mp cy)
  replace eO:=Bn▸eO
  (replace ff:=Bn▸ff;replace ff:=List.drop_length▸ff)
  refine dY.ku.done t _ _ eO fun bv kF mo=> ?_
  refine jY (mC.dE.eM (h':=bv) (tk:=kF) mn FQ fun b ob ah e=>mo b ob (fun q=>ah (List.mem_singleton.mp q)) e) ?_;intro aZ a0 iy lN r4
  refine wpAny_execs_nil (f9 _ _ ?_)
  exact b6 (show some (.next,ha)=some (ai,fs') from ff) ⟨rfl,_,⟨aZ,a3.ext.trans (a0 fI Xt),fun a y e=>mC.gN a y (iy a y e)⟩,a0 fI Xt⟩
theorem IN (bl:jS CM bj F) (bA:K.f=F) (bc:f4 K A) (S:fL w CM K env J A R) {x:Str} {px:Pos} {iter:Expr} {body:List Stmt} {pos:Pos} {items:List H} (q:hG R J iter fs=some (items,fs₁)) (bn:f1 R J x body items fs₁=some (ai,fs'))
  (a3:cp w CM K env J aT a7 ρ s fs):wpAny (model aw w) A (exec (.For (.Name x px) iter body [] pos) env) (eg w CM K env J aT a7 ρ s ai fs') (hH w CM K env J aT a7 ai fs') s:=by
 refine cl (vU bl bA bc S.tocB q a3.dE) ?_;intro sr l0
 refine wpAny_For (wpAny_mono l0 (fun eV aj bv=>wpAny_mono bv (fun dj ct dI=> ?_) fun _ _ f=>f.elim) fun _ _ f=>f.elim) sr
 refine jn dI ?_;clear dI;intro aN pa o fo P
 refine uc P ?_;clear P;intro P cA u r1 aZ a0 bw dY;subst u;subst r1
 exact P2 S dY bn (a3.step aZ a0 bw) fun f t P=>P.ext a0
end
end Mine
end
section
open PySem PySem.W PySem.Calls PyProof.Rows
namespace Mine
section
variable{w:World} {CM:cn} {bj:dM} {F:Frag} {K:Top} {env eb:Env} {J aX:Scope} {A:Around} {E:Value->Shared->Prop} {ρ ρ₀ aT ρ':a5} {s c9 a7 az:Shared} {fs fs' fs₁ fs₂ fs₃:X} {ai:bE} {R:bk} {C:cs} {k:Nat}
theorem I8 {e:Expr} {x:Str} {px:Pos} {line:Nat}:(∃fa g c p,e=.SetComp fa g c p)\/(∃fa v g c p,e=.DictComp fa v g c p)\/(∃fa g c p,e=.ListComp fa g c p/\swapsWith e (some (.Name x px)) line env=pure true)\/swapsWith e (some (.Name x px)) line env=pure false:=by
 cases e with
 |ListComp fa g c p=>
  by_cases h:(env.blockKind==.function&&env.kindOf x==some .local&&px.line==p.line&& !(c.names.any fun(n,k)=>n==x&&(k==.local||k==.cell)))=true
  ·refine .inr (.inr (.inl ⟨fa,g,c,p,rfl,?_⟩))
   show(pure _:Sem Bool)=pure true
   exact congrArg pure h
  ·refine .inr (.inr (.inr ?_))
   show(pure _:Sem Bool)=pure false
   exact congrArg pure (Bool.eq_false_iff.mpr h)
 |SetComp fa g c p=>exact .inl ⟨_,_,_,_,rfl⟩
 |DictComp fa v g c p=>exact .inr (.inl ⟨_,_,_,_,_,rfl⟩)
 |_=>exact .inr (.inr (.inr rfl))
theorem VI {e o i:Expr} {p:Pos} {line:Nat}:swapsWith e (some (.Subscript o i p)) line env=pure false:=by
 cases e<;>rfl
theorem EG {e:Expr} {ts:List Expr} {kk:Nat} {p:Pos} {line:Nat}:swapsWithSole [.Tuple ts kk p] e line env=pure false:=by
 show swapsWith e (some (.Tuple ts kk p)) line env=pure false
 cases e<;>rfl
theorem Lh (S:fL w CM K env J A R) {x:Str} {px pos:Pos} {e:Expr} {r:aU} (q:R.a9 e fs=some (r,fs₁)) (bn:Hb J x r fs₁=some (ai,fs')) (a3:cp w CM K env J aT a7 ρ s fs):
  wpAny (model aw w) A (exec (.Assign [.Name x px] e pos) env) (eg w CM K env J aT a7 ρ s ai fs') (hH w CM K env J aT a7 ai fs') s:=by
 have main:swapsWith e (some (.Name x px)) pos.line env=pure false->wpAny (model aw w) A (exec (.Assign [.Name x px] e pos) env) (eg w CM K env J aT a7 ρ s ai fs') (hH w CM K env J aT a7 ai fs') s:=fun hs=>by
  refine wpAny_Assign_Name (S.eN q a3.dE fun v aj aN aZ a0 bw aP=> ?_) hs
  cases r with
  |U y=>exact ql bn fun M=>zE M a3 aZ a0 bw aP fun az P=>⟨rfl,P⟩
  |own y=>exact ql bn fun M=>zE M a3 aZ a0 bw aP fun az P=>⟨rfl,P⟩
  |var y=>
   refine b5 bn (fun eY mF Ro bn=> ?_) Z
   refine gn (zx a3.dE aZ a0 bw aP Ro) ?_;intro b8 cN ca dF ot
   exact ql bn fun M=>zE M a3 cN ca dF (r:=.U eY) ot fun az P=>⟨rfl,P⟩
 refine(I8 (e:=e) (x:=x) (px:=px) (line:=pos.line) (env:=env)).elim (fun h=> ?_) fun h=>h.elim (fun h=> ?_) fun h=>h.elim (fun h=> ?_) main
 ·refine jn h ?_;intro a b c d ak
  (replace q:=ak▸q;rw [S.zi] at q);exact Z q
 ·refine h.elim fun a h=> ?_
  refine jn h ?_;intro b c d f ak
  (replace q:=ak▸q;rw [S.yx] at q);exact Z q
 ·refine pH h ?_;intro fa g c p ak hs
  rw [ak] at q hs|-
  refine bT (S.xM _ _ _ _ _ _ _ q) ?_;intro v e
  rw [e] at q bn
  exact ql bn fun M=>wpAny_mono (S.yN _ _ _ _ _ _ _ _ _ _ _ hs q M aT a7 ρ s a3) (fun _ _ P=>P) fun _ _ f=>f.elim
theorem IJ (bc:f4 K A) (S:fL w CM K env J A R) {b i e:Expr} {px pos:Pos} {v k:H} {r:aU} (bZ:d0 R e fs=some (v,fs₁)) (bn:R.a9 b fs₁=some (r,fs₂)) (ee:R.a9 i fs₂=some (.U k,fs₃)) (ii:p9 r k v fs₃=some fs')
  (a3:cp w CM K env J aT a7 ρ s fs):wpAny (model aw w) A (exec (.Assign [.Subscript b i px] e pos) env) (eg w CM K env J aT a7 ρ s .next fs') (hH w CM K env J aT a7 .next fs') s:=by
 refine wpAny_Assign_Subscript (r8 S.tocB bZ a3.dE fun qz aj aN aZ a0 bw ay=> ?_) VI
 refine S.eN bn aZ fun nO ct b8 cN ca dF ah=>S.eN ee cN fun l4 jx jQ he ej kz ag=> ?_
 have hA:=(a0.trans ca).trans ej
 have op:=(bw.trans dF).trans kz
 refine Pg ii he (ah.bt ej kz) ag (bY.bt ej.bK ej.per (bY.bt ca.bK ca.per ay)) fun h' tk uM kQ=> ?_
 exact⟨rfl,jQ,⟨uM,a3.ext.trans (hA.trans kQ),fun a y e=>a3.gN a y (op.gv a y e)⟩,hA.trans kQ⟩
theorem QC (ts:List Expr):∀{vs:List H} {fs fs':X},hL J ts vs fs=some fs'->ts.length=vs.length:=by
 induction ts with
 |nil=>intro vs fs fs' q;refine B ((sQ q).1) ?_;rfl
 |cons t ts ih=>intro vs fs fs' q;exact oL q fun x px v c1 _ e _ _ bn=>by refine B e ?_;exact congrArg (· +1) (ih bn)
theorem Qf (ts:List Expr):∀{vs:List H} {fs fs':X},hL J ts vs fs=some fs'->(assignEach ts env).findIdx? (·.1)=none/\(assignEach ts env).length=ts.length:=by
 induction ts with
 |nil=>intro _ _ _ _;exact⟨rfl,rfl⟩
 |cons t ts ih=>
  intro vs fs fs' q
  refine oL q fun x px v c1 e _ _ _ bn=> ?_
  refine B e ?_
  refine⟨?_,congrArg (· +1) (ih bn).2⟩
  show List.findIdx? (·.1) ((false,assign (.Name x px) env)::assignEach ts env)=none
  (refine B List.findIdx?_cons ?_;refine B ((ih bn).1) ?_);rfl
theorem a8.RH (l:List H):∀{vs:List Value},a8 w CM ρ l vs->a8 w CM ρ l.reverse vs.reverse:=by
 induction l with
 |nil=>intro vs h;refine B (show vs=[] from h) ?_;exact a8.nil
 |cons x l ih=>
  intro vs h
  refine dP h ?_;clear h;intro v c1 u O Y;subst u
  (refine B List.reverse_cons ?_;refine B List.reverse_cons ?_)
  exact(ih Y).append (a8.cons O a8.nil)
theorem LD (bc:f4 K A) (S:fL w CM K env J A R) {ts:List Expr} {kk:Nat} {tp pos:Pos} {e:Expr} {vs:List H} (an:vn e=true) (hd:tU ts=true) (q:R.a9 e fs=some (.U (.aF vs),fs₁)) (bn:hL J ts vs fs₁=some fs')
  (a3:cp w CM K env J aT a7 ρ s fs):wpAny (model aw w) A (exec (.Assign [.Tuple ts kk tp] e pos) env) (eg w CM K env J aT a7 ρ s .next fs') (hH w CM K env J aT a7 .next fs') s:=by
 have bC:=QC _ bn
 rcases JH (ts:=ts) (kk:=kk) (tp:=tp) (env:=env) an with d9|⟨names,d9,aE,aq⟩
 ·refine Assign_Tuple (S.eN q a3.dE fun v aj aN aZ a0 bw aP=> ?_) EG d9
  refine cl (Qf (env:=env) _ bn) ?_;intro eO U2
  rw [assign_Tuple]
  refine wpAny_bind (wpAny_standAt ?_)
  unfold unpack
  simp only [eO]
  refine wpAny_bind (wpAny_holding (CS bc (by(refine B U2 ?_;refine B bC ?_;rfl)) aZ aP fun b8 be dI jO cN ca dF ay=> ?_))
  exact wpAny_mono (Xs _ bn (a3.step cN (a0.trans ca) (bw.trans dF)) ay) (fun _ jx P=>⟨rfl,P.imp fun jQ z=>⟨z.1,(a0.trans ca).trans z.2⟩⟩) fun _ _ f=>f
 ·refine Assign_Tuple_swapped (S.eN q a3.dE fun v aj aN aZ a0 bw aP=> ?_) EG d9
  have KY:names.length=ts.length:=by have:=congrArg List.length aE;simpa using this.symm
  refine CS bc (by(refine B KY ?_;refine B bC ?_;rfl)) aZ aP fun b8 be dI jO cN ca dF ay=> ?_
  refine et (LL aq hd bn) ?_;intro mF ee Yb HK
  refine wpAny_mono (Qy _ (xs:=names.reverse) ee (by(refine B List.map_reverse ?_;refine B List.map_reverse ?_;refine B aE ?_;rfl)) (a3.step cN (a0.trans ca) (bw.trans dF)) (a8.RH _ ay)) (fun _ jx P=> ?_) fun _ _ f=>f
  refine P.elim fun jQ z=> ?_
  have e:fs'={mF with loc:=fs'.loc}:=by cases fs';cases mF;cases Yb;rfl
  refine B e ?_
  exact⟨rfl,jQ,z.1.n9 HK,(a0.trans ca).trans z.2⟩
theorem xJ (h:nY env J):interactive env=false:=by unfold interactive;refine B h.kind ?_;rfl
theorem Tt (bl:s9 CM bj F) (bA:K.f=F) (c4:gL w CM bj F k C) (bc:eh K k A) (S:fL w CM K env J A R) {f:Str} {p pos xH:Pos} {args:List Expr} {vs:List H} {pZ:bE} {de:List H}
  (an:j0 f=true) (ae:J.names.lookup f=some .globalImplicit) (bZ:dk R args fs=some (vs,fs₁)) (bn:C f vs fs₁.per=some (pZ,de)) (ee:CI pZ {fs₁ with per:=de}=some (ai,fs')) (a3:cp w CM K env J aT a7 ρ s fs):
  wpAny (model aw w) A (exec (.Expr (.Call (.Name f p) args [] pos) xH) env) (eg w CM K env J aT a7 ρ s ai fs') (hH w CM K env J aT a7 ai fs') s:=by
 refine wpAny_Expr_any (wpAny_mono (Bv bl bA c4 bc S.tocB an ae bZ bn a3.dE) (fun v aj P=> ?_) fun e aj P=> ?_) (xJ a3.dE.c0) rfl
 ·cases pZ with
  |ret r=>exact b6 (show some (.next,_)=some (ai,fs') from ee) ⟨rfl,P.elim fun aN z=>⟨aN,a3.step z.1 z.2.1 z.2.2.1,z.2.1⟩⟩
  |_=>exact P.elim
 ·replace ee:=P.1▸ee
  exact b6 (show some (.dA,_)=some (ai,fs') from ee) ⟨rfl,P.2.imp fun aN z=>z.imp fun a z=>⟨a3.step z.1 z.2.1 z.2.2.1,z.2.2.2.1,z.2.2.2.2.base fun a h=>a3.ext.ic a h⟩⟩
theorem TZ (S:fL w CM K env J A R) {g:Expr} {pos xH:Pos} {args:List Expr} {r:aU} (q:R.a9 (.Call g args [] pos) fs=some (r,fs')) (a3:cp w CM K env J aT a7 ρ s fs):
  wpAny (model aw w) A (exec (.Expr (.Call g args [] pos) xH) env) (eg w CM K env J aT a7 ρ s .next fs') (hH w CM K env J aT a7 .next fs') s:=by
 exact wpAny_Expr_any (S.eN q a3.dE fun v aj aN aZ a0 bw aP=>⟨rfl,aN,a3.step aZ a0 bw,a0⟩) (xJ a3.dE.c0) rfl
end
end Mine
end
section
open PySem PySem.W PySem.Calls PyProof.Rows
open Sem (wp)
namespace Mine
noncomputable abbrev gf:List Value:=[.type "Exception",.type "BaseException",.type "object"]
section
variable{F:Frag} {w:World} {A:Around} {E:Value->Shared->Prop} {s:Shared}
theorem Qg:findCls F (.type "Exception") (.type "type") "__init__"=some (.val (.builtin "Exception.__init__")):=by kernel_rfl
theorem Yk {jh:Sem Bool} {Q:Value×List Value->Shared->Prop} (av:F.In s.heap) (h:Q (.builtin "Exception.__init__",[]) {s with toks:=s.toks+1}):
  wpAny (model aw w) A (getMethod (.type "Exception") "__init__" jh) Q E s:=by
 unfold getMethod
 have aG:Looks (model aw w) s.heap (typeOf (.type "Exception")) (.type "type"):=Looks.of_pure (by kernel_rfl)
 have bi:Looks (model aw w) s.heap (specialOf (.type "Exception") "__getattribute__") (some (.builtin "type.__getattribute__")):=aG.andThen (Looks.of_pure KF.slot_tga.lookup)
 refine wpAny_bind (bi.here ?_)
 dsimp only
 refine B (if_pos canon_tga) ?_
 refine wpAny_bind (cls_open (hook:=none) av (Looks.of_pure (by kernel_rfl)) aG (by kernel_rfl) (Looks.of_pure (by kernel_rfl)) (by kernel_rfl) Qg ?_)
 refine wpAny_pure ?_
 show wpAny _ _ (handedOut _) _ _ _
 refine B (handedOut_of (by kernel_rfl)) ?_
 exact wpAny_pure (wpAny_pure h)
end
section
variable{w:World} {A:Around} {E:Value->Shared->Prop} {h:Heap} {g:Array GenState} {d:Drawn} {t:Nat} {os:OsState}
variable{nm q:Str} {C N P:Addr} {bs:List Value} {hdct:Bool} {sn:List Str} {sub:List Value} {ab:Bool} {col:Option Bool} {dd:Option Addr} {k0 k1 k2 k3 k5:Option Value}
theorem zn {C P:Addr} {v:Value} (h:gf.contains v=true):(Value.ref C::.ref P::gf).contains v=true:=by
 (refine B List.contains_cons ?_;refine B List.contains_cons ?_;refine B h ?_;refine B (Bool.or_true _) ?_;refine B (Bool.or_true _) ?_;rfl)
theorem DB {C P:Addr} {x:String} {b:Bool} (h:gf.contains (.type x)=b):(Value.ref C::.ref P::gf).contains (.type x)=b:=by
 (refine B List.contains_cons ?_;refine B List.contains_cons ?_;refine B h ?_)
 show(false||(false||b))=b
 rfl
theorem VS {pD:Model} {rest:List Value} {Q:Unit->Shared->Prop} (cj:h.get? C=some (excClassObj nm q C N bs (.ref P::gf) hdct sn sub ab col dd k0 k1 k2 k3 k5 "Exception.__new__"))
  (aA:Q () ⟨h,g,d,t,os⟩):wpAny pD A (checkBuiltinCall "Exception.__new__" ⟨.ref C::rest,[]⟩) Q E ⟨h,g,d,t,os⟩:=by
 have F:=PySem.F.excBase_Exception
 have Vw:(Value.ref C::.ref P::gf).contains (.type "Exception")=true:=zn F.hasB
 have YX:=F.noStar
 simp only [checkBuiltinCall,F.newKind,F.newSplit,F.newRow]
 repeat (first|refine wpAny_loadPart_at cj ?_|(refine wpAny_isSubtype_exc cj ?_;refine B Vw ?_)|refine wpAny_staticBase_exc cj ?_|refine wpAny_madeBy_exc cj ?_|simp only [bne_self_eq_false,Bool.false_eq_true,if_false]|wp_step)
 exact aA
theorem W3 {R:Result->Shared->Prop} {rest:List Value} (cj:h.get? C=some (excClassObj nm q C N bs (.ref P::gf) hdct sn sub ab col dd k0 k1 k2 k3 k5 "Exception.__new__"))
  (aA:R (.ok (.ret (.ref (h.objs.size+1)))) ⟨(h.push {cls:=.type "tuple",data:=.seq rest.toArray}).push
   {cls:=.ref C,data:=.fields #[.ref h.objs.size,.none,.none,.none,.bool false,.none]},g,d,t,os⟩) (hrest:rest.length<=sizeLine:=by size_fits):
  codeAny (model aw w) A (.builtin "Exception.__new__" ⟨.ref C::rest,[]⟩) R ⟨h,g,d,t,os⟩:=by
 have F:=PySem.F.excBase_Exception
 have YZ:=F.ends
 have rr:(Value.ref C::.ref P::gf).contains (.type "Exception")=true:=zn F.hasB
 have Ji:(Value.ref C::.ref P::gf).contains (.type "AttributeError")=false:=DB F.noAttr
 have Kt:(Value.ref C::.ref P::gf).contains (.type "NameError")=false:=DB F.noName
 refine codeAny_builtinAt F.entry ?_
 unfold Builtin.«BaseException.__new__»
 refine PySem.wpAt_bind ?_
 show PySem.wpAt _ _ _ (stack>>=_) _ _ _
 refine PySem.wpAt_bind (PySem.wpAt_stack fun p below=>PySem.wpAt_of_wpAny ?_)
 wp_walk
 refine PySem.wpAt_of_wpAny ?_
 refine B F.owner ?_
 repeat (first|with_reducible refine wpAny_madeHere_exc F.canon cj ?_|with_reducible refine wpAny_loadPart_at cj ?_|(with_reducible refine wpAny_isSubtype_exc cj ?_;first|refine B rr ?_|rw [Ji]|rw [Kt])|wp_step)
 show R _ _
 refine B (Heap.size_push _ _) ?_
 exact aA
theorem Jj {pD:Model} {e:Addr} {E4:Obj} {rest:List Value} {Q:Unit->Shared->Prop}
  (cj:h.get? C=some (excClassObj nm q C N bs (.ref P::gf) hdct sn sub ab col dd k0 k1 k2 k3 k5 "Exception.__new__")) (aW:h.get? e=some E4) (Ju:E4.cls=.ref C) (aA:Q () ⟨h,g,d,t,os⟩):
  wpAny pD A (checkBuiltinCall "Exception.__init__" ⟨.ref e::rest,[]⟩) Q E ⟨h,g,d,t,os⟩:=by
 have F:=PySem.F.excBase_Exception
 have rr:(Value.ref C::.ref P::gf).contains (.type "Exception")=true:=zn F.hasB
 have Y6:=F.noStar
 simp only [checkBuiltinCall,F.initKind,F.initSplit,F.initRow]
 repeat (first|(with_reducible refine wpAny_loadPart_at aW ?_;refine B Ju ?_)|with_reducible refine wpAny_loadPart_at cj ?_|(with_reducible refine wpAny_isSubtype_exc cj ?_;refine B rr ?_)|wp_step)
 refine wpAny_onRaise ?_
 rw [show∀(a b:String) (n:Nat),Bind.check ⟨.positional,"*","Exception",.self,[⟨"args",.varPos,false⟩]⟩ a b n (List.map (fun x=>x.fst) ({pos:=Value.ref e::rest}:Args).kw)=pure () from
  fun a b n=>check_star_args _ _ _ _ _ _]
 exact wpAny_pure aA
theorem T5 {e Bf:Addr} {v:Value} {Q:Value->Shared->Prop}
  (cj:h.get? C=some (excClassObj nm q C N bs (.ref P::gf) hdct sn sub ab col dd k0 k1 k2 k3 k5 "Exception.__new__")) (aW:h.get? e=some {cls:=.ref C,data:=.fields #[.ref Bf,.none,.none,.none,.bool false,.none]})
  (aA:∀h' T,(∀b o,b≠e->h.get? b=some o->h'.get? b=some o)->h'.get? e=some {cls:=.ref C,data:=.fields #[.ref T,.none,.none,.none,.bool false,.none]}->Q .none ⟨h',g,d,t,os⟩):
  wpAny (model aw w) A (call (.builtin "Exception.__init__") [.ref e,v]) Q E ⟨h,g,d,t,os⟩:=by
 have F:=PySem.F.excBase_Exception
 refine wpAny_call (codeAny_call_builtin F.init.plain F.initEntry (Jj cj aW rfl ?_))
 wp_walk
 refine aA _ h.objs.size (fun b o ah JW=> ?_) ?_
 ·refine B (Heap.get?_update_other _ _ (Ne.symm ah)) ?_
  exact Heap.get?_push_of_some _ JW
 ·refine B (Heap.get?_update_self _ (Heap.get?_push_of_some _ aW) rfl) ?_
  rfl
theorem HD {rest:List Value} {fI:Addr} {qU:Obj} {Q:Fin->Shared->Prop}
  (cj:h.get? C=some (excClassObj nm q C N bs (.ref P::gf) hdct sn sub ab col dd k0 k1 k2 k3 k5 "Exception.__new__"))
  (aq:∀h',(∀b o,h.get? b=some o->h'.get? b=some o)->Looks (model aw w) h' (typeLookup (.ref C) "__init__") (some (.ref fI)))
  (xO:h.get? fI=some qU) (yI:qU.cls=.type "function")
  (aA:∀h' e,Heap.MadeExcOf h h' e (.ref C) rest->
   wpAny (model aw w) A (call (.ref fI) (.ref e::rest)) (fun r az=>r=.none/\Q (.done (.ret (.ref e))) az) E ⟨h',g,d,t,os⟩) (hrest:rest.length<=sizeLine:=by size_fits):
  wpAny (model aw w) A (Builtin.«type.__call__» ⟨.ref C::rest,[]⟩) Q E ⟨h,g,d,t,os⟩:=by
 have F:=PySem.F.excBase_Exception
 repeat (first|with_reducible refine wpAny_loadPart_at cj ?_|with_reducible refine wpAny_madeBy_exc cj ?_|wp_step)
 refine codeAny_call_builtin_code (Code.quiet_builtin _ F.quiet) (VS cj ?_)
 refine W3 cj ?_ hrest
 show wpAny _ _ _ _ _ _
 have ag:∀b o,h.get? b=some o->((h.push {cls:=.type "tuple",data:=.seq rest.toArray}).push {cls:=.ref C,data:=.fields #[.ref h.objs.size,.none,.none,.none,.bool false,.none]}).get? b=some o:=
  fun b o e=>Heap.get?_push_of_some _ (Heap.get?_push_of_some _ e)
 have UE:=ag _ _ cj
 have Q4:=ag _ _ xO
 have Ur:=aq _ ag
 have p2:((h.push {cls:=.type "tuple",data:=.seq rest.toArray}).push
   {cls:=.ref C,data:=.fields #[.ref h.objs.size,.none,.none,.none,.bool false,.none]}).get? (h.objs.size+1)=some
   {cls:=.ref C,data:=.fields #[.ref h.objs.size,.none,.none,.none,.bool false,.none]}:=by heap_get
 have OW:(Value.ref C::.ref P::gf).contains (.ref C)=true:=by simp
 unfold isInstance
 repeat (first|with_reducible refine wpAny_loadPart_at p2 ?_|(with_reducible refine wpAny_isSubtype_exc UE ?_;refine B OW ?_)|wp_step)
 show wpAny _ _ (typeLookup (.ref C) _) _ _ _
 refine Ur _ _ _ _ (fun _ _ e=>e) ?_
 refine wpAny_holding (wpAny_bind ?_)
 unfold bindSpecial
 refine wpAny_bind (wpAny_typeOf (T:="function") ⟨_,Q4,yI⟩ ?_)
 refine B (if_pos (by decide)) ?_
 refine wpAny_pure (wpAny_bind (wpAny_mono (aA _ (h.objs.size+1) ⟨fun b o ah=>Heap.get?_push_of_some _ (Heap.get?_push_of_some _ ah),Heap.get?_none_of_le (Nat.le_succ _),h.objs.size,p2,Heap.get?_none_of_le (Nat.le_refl _),?_⟩) (fun r az aP=> ?_) fun _ _ x=>x))
 ·exact Heap.get?_push_of_some _ (Heap.get?_push_at rfl rfl)
 ·refine cl aP ?_;clear aP;intro u;subst u;intro cV
  wp_walk
  exact cV
theorem OJ {rest:List Value} {fI:Addr} {qU:Obj} {Q:Value->Shared->Prop}
  (cj:h.get? C=some (excClassObj nm q C N bs (.ref P::gf) hdct sn sub ab col dd k0 k1 k2 k3 k5 "Exception.__new__"))
  (aq:∀h',(∀b o,h.get? b=some o->h'.get? b=some o)->Looks (model aw w) h' (typeLookup (.ref C) "__init__") (some (.ref fI)))
  (xO:h.get? fI=some qU) (yI:qU.cls=.type "function")
  (aA:∀h' e,Heap.MadeExcOf h h' e (.ref C) rest->
   wpAny (model aw w) (A.under (.builtin "type.__call__" ⟨.ref C::rest,[]⟩)) (call (.ref fI) (.ref e::rest)) (fun r az=>r=.none/\Q (.ref e) az) E ⟨h',g,d,t,os⟩) (hrest:rest.length<=sizeLine:=by size_fits):
  wpAny (model aw w) A (call (.ref C) rest) Q E ⟨h,g,d,t,os⟩:=by
 have ea:=tc_lookup
 have fH:=tc_bind (.ref C)
 have gQ:(⟨h,g,d,t,os⟩:Shared).TypeIs (.ref C) "type":=⟨_,cj,rfl⟩
 refine wpAny_call (codeAny_of_tree ?_)
 show wpAny _ _ (callAny (.ref C) _) _ _ _
 repeat (any_goals (first|assumption|with_reducible refine wpAny_loadPart_at cj ?_|wp_step))
 refine⟨rfl,?_⟩
 refine codeAny_call_builtin_at (Code.quiet_builtin _ (by decide+kernel)) entry_typeCall (wpAny_check_type_call_sub cj (HD (hrest:=hrest) cj aq xO yI fun h' e aY=> ?_))
 exact aA h' e aY
end
end Mine
end
section
open PySem PySem.W PySem.Calls PyProof.Rows PySem.Builtin PySem.Builtin.ObjectAttr
namespace Mine
structure lZ (F:Frag) (C P:Addr):Prop where
 gy:∃nm q N bs sn sub ab col dd k0 k1 k2 k3 k5,F.lookup C=some (excClassObj nm q C N bs (.ref P::gf) true sn sub ab col dd k0 k1 k2 k3 k5 "Exception.__new__")
 sa:findIn F (.ref C) "__setattr__"=some (some (.builtin "object.__setattr__"))
theorem lZ.fa {F:Frag} {C P:Addr} {G:Prop} (h:lZ F C P) (k:∀nm q N bs sn sub ab col dd k0 k1 k2 k3 k5,F.lookup C=some (excClassObj nm q C N bs (.ref P::gf) true sn sub ab col dd k0 k1 k2 k3 k5 "Exception.__new__")->G):G:=by
 obtain⟨nm,q,N,bs,sn,sub,ab,col,dd,k0,k1,k2,k3,k5,e⟩:=h.gy
 exact k nm q N bs sn sub ab col dd k0 k1 k2 k3 k5 e
theorem lZ.cls {F:Frag} {C P:Addr} (h:lZ F C P):∃cd,clsIn F C=some cd/\cd.mro=.ref C::.ref P::gf/\cd.hasDict=true:=
 h.fa fun nm q N bs sn sub ab col dd k0 k1 k2 k3 k5 e=>⟨_,by unfold clsIn;(refine B e ?_;rfl),rfl,rfl⟩
section
variable{w:World} {F:Frag} {A:Around} {E:Value->Shared->Prop} {s:Shared} {C P x:Addr} {R:Result->Shared->Prop}
theorem BX {q1:Obj} {gV:Option Obj} {name:Str} {tk:Tok} {v:Value} (av:F.In s.heap) (I:InstAt s.heap x q1 C gV) (cj:lZ F C P) (aG:takerIn F C name=some none)
  (h:∀b,wpAny (model aw w) A.in1 (storeInOwnDict (.ref x) (.ref C) (.str name tk) name v b)
   (fun cI az=>match cI with|.done f=>R (.ok f) az|.again c'=>c'.quiet=true/\codeAny (model aw w) A c' R az) (fun e az=>R (.error e) az) s):
  codeAny (model aw w) A (.call (.builtin "object.__setattr__") ⟨[.ref x,.str name tk,v],[]⟩) R s:=by
 have qP:=PySem.F.store_object
 refine et cj.cls ?_;intro cd hc cr hd
 have sub:Looks (model aw w) s.heap (isInstance (.ref x) (.type "object")) true:=I.type.andThen (looks_mroIn av (by unfold mroIn;(refine B hc ?_;refine B (Option.bind_some _ _) ?_;refine B cr ?_);rfl))
 refine codeAny_call_builtin qP.slot.plain qP.entry (@check_slot (model aw w) _ _ s "object.__setattr__" "object" "__setattr__" (.ref x) [.str name tk,v] [] _ qP.kind qP.split sub (qP.args (.ref x) (.str name tk) v) ?_)
 refine bb (Option.bind_eq_some_iff.mp aG) ?_;intro sx bz aP
 have aY:Looks (model aw w) s.heap (mroOf (.ref C)) cd.mro:=(looks_clsIn av hc).andThen .now
 have hM:Looks (model aw w) s.heap (storeTaker? sx) none:=by
  cases sx with
  |none=>exact .now
  |some a=>
   refine bb (Option.map_eq_some_iff.mp aP) ?_;intro b ah e
   refine(looks_takesIn av ah).andThen ?_
   cases b
   ·exact .now
   ·exact h3 e
 (rw [osa_eq];refine B (refuse_eq _ _) ?_)
 refine wpAny_bind (wpAny_bind (I.type.here (wpAny_bind (aY.here ?_))))
 (refine B cr ?_;rw [refuseLoop_ref,refuseLoop_ref];refine B (PySem.F.store_Exception.passes _) ?_)
 refine wpAny_pure (wpAny_bind (I.type.here (wpAny_bind ((looks_findIn av bz).here (wpAny_bind (hM.here ?_))))))
 exact h _
theorem z1 {es:List DictEntry} {n:Nat} {nm:Str} {v:Value} {l:List (Str×Value)} {dx:Addr} {Q:Fin->Shared->Prop} (D:s.heap.get? dx=some (dictOf es n)) (aB:fD es l) (aE:nm∉l.map (·.1)) (hz:es.length<1000)
  (h:∀h' d3,Heap.SameBut dx s.heap h'->h'.get? dx=some (dictOf d3 (n+1))->fD d3 (l++[(nm,v)])->d3.length=es.length+1->Q (.done (.ret .none)) {s with heap:=h',toks:=s.toks+1}):
  wpAny (model aw w) A (do nsSet dx nm v;lookBehind dx (some (.str nm 0));ret .none) Q E s:=by
 have ak:es.any (·.key.isStr nm)=false:=by
  cases q:es.any (·.key.isStr nm) with
  |false=>rfl
  |true=>obtain⟨e,aW,z⟩:=List.any_eq_true.mp q;replace z:=(aB.fresh aE e aW)▸z;cases z
 have e:Obj.putName nm (PyData.keyHash w.params nm) (.str nm s.toks) v (dictOf es n)=dictOf (es++[⟨PyData.keyHash w.params nm,.str nm s.toks,v⟩]) (n+1):=by
  (rw [putName_dict];refine B (putL_new (aB.fresh aE)) ?_)
  show dictOf _ (if es.any (·.key.isStr nm) then n else n+1)=_
  (refine B ak ?_;refine B (if_neg Bool.false_ne_true) ?_;rfl)
 refine wpAny_bind ?_
 unfold nsSet
 refine wpAny_bind (wpAny_bind (wpAny_askSetting (wpAny_pure (wpAny_bind (wpAny_mkText (wpAny_bind (wpAny_loadPart D ?_)))))))
 dsimp only
 have c:aRefKeyMayBeTheName nm es.toArray=false:=by
  (refine B (aRefKeyMayBeTheName_at _ _) ?_;refine bu Array.any_toList ?_;refine bu Array.any_toList ?_)
  show(!es.any (·.key.isStr nm)&&es.any (·.refKey))=false
  (refine B aB.u4 ?_;refine B (Bool.and_false _) ?_;rfl)
 refine B c ?_
 refine wpAny_updatePart D ?_
 have qZ:(s.heap.update dx (Obj.putName nm (PyData.keyHash w.params nm) (.str nm s.toks) v)).get? dx=some (dictOf (es++[⟨PyData.keyHash w.params nm,.str nm s.toks,v⟩]) (n+1)):=by
  have:=Heap.get?_update_self (Obj.putName nm (PyData.keyHash w.params nm) (.str nm s.toks) v) D (by refine B e ?_;rfl)
  replace this:=e▸this;exact this
 refine wpAny_bind (wpAny_lookBehind qZ (pastItsLine_dict (by(refine B List.size_toArray ?_;refine B List.length_append ?_;refine B List.length_cons ?_;refine B List.length_nil ?_;refine B sizeLine_eq ?_);exact Dp hz)) ?_)
 exact wpAny_pure (h _ _ (Heap.SameBut.update ..) qZ aB.y6 (by simp))
theorem WO {nm:Str} {v:Value} {vs:Array Value} {Q:Unit->Shared->Prop} (av:F.In s.heap) (cj:lZ F C P) (aG:takerIn F C nm=some none) (aW:s.heap.get? x=some {cls:=.ref C,data:=.fields vs})
  (h:∀h' tk dx d3,dx≠x->(∀b o,b≠x->s.heap.get? b=some o->h'.get? b=some o)->h'.get? x=some {cls:=.ref C,dict:=some dx,data:=.fields vs}->h'.get? dx=some (dictOf d3 1)->fD d3 [(nm,v)]->d3.length=1->s.heap.get? dx=none->Q () {s with heap:=h',toks:=tk}):
  wpAny (model aw w) A (setAttr (.ref x) nm v) Q E s:=by
 have In:InstAt s.heap x {cls:=.ref C,data:=.fields vs} C none:=⟨aW,rfl,rfl,trivial⟩
 refine set_plain av In cj.sa (BX (s:={s with toks:=s.toks+1}) av In cj aG fun b=> ?_)
 refine et cj.cls ?_;intro cd hc aY hd
 refine wpAny_bind (wpAny_pure (wpAny_bind (wpAny_bind (wpAny_loadPart aW (wpAny_bind (Looks.here (s:={s with toks:=s.toks+1}) (looks_clsIn av hc) ?_))))))
 refine B hd ?_
 have b1:s.heap.objs.size≠x:=Nat.ne_of_gt (Heap.lt_size aW)
 have rt:(s.heap.push emptyDict).get? x=some {cls:=.ref C,data:=.fields vs}:=Heap.get?_push_of_some _ aW
 refine wpAny_bind (wpAny_alloc (wpAny_bind (wpAny_update rt (wpAny_pure (a:=some s.heap.objs.size) ?_))))
 have qO:((s.heap.push emptyDict).update x fun o=>{cls:=o.cls,dict:=some s.heap.objs.size,data:=o.data,slots:=o.slots}).get? x=some {cls:=.ref C,dict:=some s.heap.objs.size,data:=.fields vs}:=
  Heap.get?_update_self _ rt rfl
 have hD:((s.heap.push emptyDict).update x fun o=>{cls:=o.cls,dict:=some s.heap.objs.size,data:=o.data,slots:=o.slots}).get? s.heap.objs.size=some (dictOf [] 0):=
  (Heap.get?_update_ne _ _ _ _ b1).trans (Heap.get?_push_size _ rfl)
 refine wpAny_bind (wpAny_pure ?_)
 refine z1 (s:={s with heap:=_,toks:=s.toks+1}) hD (l:=[]) rfl (by simp) (by decide) fun h' d3 hs M O Y=> ?_
 refine h h' _ s.heap.objs.size d3 b1 (fun b o ah e=> ?_) ((hs.2 x (Ne.symm b1)).trans qO) M O Y fd
 have Kf:b≠s.heap.objs.size:=fun q=>by(replace e:=q▸e;replace e:=fd▸e);exact Z e
 exact(hs.2 b Kf).trans ((Heap.get?_update_ne _ _ _ _ ah).trans (Heap.get?_push_of_some _ e))
theorem Md {nm:Str} {v:Value} {vs:Array Value} {dx:Addr} {es:List DictEntry} {n:Nat} {l:List (Str×Value)} {Q:Unit->Shared->Prop} (av:F.In s.heap) (cj:lZ F C P) (aG:takerIn F C nm=some none) (b1:dx≠x)
  (aW:s.heap.get? x=some {cls:=.ref C,dict:=some dx,data:=.fields vs}) (D:s.heap.get? dx=some (dictOf es n)) (aB:fD es l) (aE:nm∉l.map (·.1)) (hz:es.length<1000)
  (h:∀h' tk,Heap.SameBut dx s.heap h'->h'.get? dx≠none->Q () {s with heap:=h',toks:=tk}):
  wpAny (model aw w) A (setAttr (.ref x) nm v) Q E s:=by
 have In:InstAt s.heap x {cls:=.ref C,dict:=some dx,data:=.fields vs} C (some (dictOf es n)):=⟨aW,rfl,rfl,D⟩
 refine set_plain av In cj.sa (BX (s:={s with toks:=s.toks+1}) av In cj aG fun b=> ?_)
 refine et cj.cls ?_;intro cd hc aY hd
 refine wpAny_bind (wpAny_pure (wpAny_bind (wpAny_bind (wpAny_loadPart aW (wpAny_bind (Looks.here (s:={s with toks:=s.toks+1}) (looks_clsIn av hc) ?_))))))
 refine B hd ?_
 refine wpAny_pure (a:=some dx) (wpAny_bind (wpAny_pure ?_))
 exact z1 (s:={s with toks:=s.toks+1}) D aB aE hz fun h' d3 hs M O Y=>h h' _ hs (by refine B M ?_;nofun)
end
end Mine
end
section
open PySem PySem.W PySem.Calls PyProof.Rows
namespace Mine
structure xL (F:Frag) (C:Addr):Prop where
 name:hF F "TreeFault"=some (.ref C)
 dA:hF F "Exception"=some (.type "Exception")
 Hg:takerIn F C "what"=some none
 Hk:takerIn F C "at"=some none
 cls:∃P,lZ F C P
 Gq:∃fI ob bL t,findIn F (.ref C) "__init__"=some (some (.ref fI))/\ka F (cG 2 0) fI ob bL/\ob.cls=.type "function"/\∀s,F.In s.heap->∀v u,BindsTo s bL ⟨[v,u],[]⟩ [("self",v),("what",u),("at",.int (-1) t)]
theorem U0:params (cG 2 0)=(["self","what","at"]:List Str):=by kernel_rfl
theorem yy {x:Str} (h:x="self"\/x="what"\/x="at"):(bO (cG 2 0)).names.lookup x=some .local:=by rcases h with rfl|rfl|rfl<;>kernel_rfl
section
variable{w:World} {CM:cn} {bj:dM} {F:Frag} {K:Top} {env:Env} {J:Scope} {A:Around} {E:Value->Shared->Prop} {ρ ρ₀ aT ρ':a5} {s c9 a7 az:Shared} {fs fs' fs₁:X} {R:bk}
theorem e4.mX {h h':Heap} {x:Str} {v:Value} (q:e4 env J h x v) (ae:J.names.lookup x=some .local) (ag:∀o,h.get? env.locals=some o->h'.get? env.locals=some o):e4 env J h' x v:=by
 rcases q with⟨M,O,m,⟨o,es,cq,e,r⟩,aY⟩|⟨M|M,_⟩
 ·exact .inl ⟨M,O,m,⟨o,es,cq,ag o e,r⟩,aY⟩
 ·replace M:=ae▸M;cases M
 ·replace M:=ae▸M;cases M
theorem Qh {f:Value} {pos gU hB:Pos} {x y:Str} {u v:Value} {Q:Args->Shared->Prop} (M:e4 env J s.heap x u) (O:e4 env J s.heap y v) (h1:nY env J) (ox:(x==("__debug__":Str))=false) (hK:(y==("__debug__":Str))=false) (h:Q ⟨[u,v],[]⟩ s):
  wpAny (model aw w) A (evalArgs f true (backTo pos (starEach [.Name x gU,.Name y hB] env)) []) Q E s:=by
 show wpAny _ _ (evalArgs f true ((false,eval (.Name x gU) env)::(false,_)::[]) []) _ _ _
 refine evalArgs_plain (spliced_cons (M.eval h1 ox (spliced_cons ?_)))
 refine B (if_neg (by decide)) ?_
 exact O.eval h1 hK (spliced_nil h)
theorem NR (bl:pP CM bj F) (bA:K.f=F) {k:Nat} (bc:eh K k A) {C:Addr} (ju:xL F C) (I:aK w CM K env J ρ s fs) {v:Value} {Q:Value->Shared->Prop}
  (h:∀h' tk e T dx,(∀b o,s.heap.get? b=some o->h'.get? b=some o)->s.heap.get? e=none->h'.get? e=some {cls:=.ref C,dict:=some dx,data:=.fields #[.ref T,.none,.none,.none,.bool false,.none]}->Q (.ref e) {s with heap:=h',toks:=tk}):
  wpAny (model aw w) A (call (.ref C) [v]) Q E s:=by
 refine xe ju.Gq ?_;intro fI ob bL t aR bU Um rc
 refine bT ju.cls ?_;intro P cj
 have gw:=U0
 have h0:=yy (.inl rfl)
 have jA:=yy (.inr (.inl rfl))
 have tJ:=yy (.inr (.inr rfl))
 have e3:F.In s.heap:=bA▸I.in
 refine cj.fa fun nm q N bs sn sub ab col dd k0 k1 k2 k3 k5 oq=> ?_
 obtain⟨bx,g,d,tk,os⟩:=s
 have pR:∀{h':Heap},(∀b o,bx.get? b=some o->h'.get? b=some o)->F.In h':=fun ag b x e=>ag _ _ (e3 b x e)
 refine OJ (e3 _ _ oq) (fun h' ag=>looks_findIn (pR ag) aR) (e3 _ _ bU.gy) Um (fun M e aY=> ?_) (by refine B sizeLine_eq ?_;simp)
 have iO:=aY.keeps
 have i4:=pR iO
 refine et aY.there ?_;intro Bf je _ _
 have ug:ρ e=.free:=(I.base.c2 _).mpr aY.new
 have oZ:cK w CM K (bQ (bo ρ) M) ⟨M,g,d,tk,os⟩ fs.per:=I.base.bo.dD (tk:=tk) iO
 have lR:iJ (bQ (bo ρ) M):=fun a=>⟨fun x q=>(ig ρ a).1 x (f8.mp q),fun q=>(ig ρ a).2.1 (nZ.mp q),fun q=>(ig ρ a).2.2 (o9.mp q)⟩
 have Qi:bQ (bo ρ) M e=.aV:=gR (gY.mpr ug) je
 have fz:(params (cG 2 0)).length=[Value.ref e,v,.int (-1) t].length:=by refine B gw ?_;rfl
 have j5:(params (cG 2 0)).zip [Value.ref e,v,.int (-1) t]=([("self",.ref e),("what",v),("at",.int (-1) t)]:List (Str×Value)):=by refine B gw ?_;rfl
 have mI:=bU.J
 refine wpAny_call (A6 (s:=⟨M,g,d,tk,os⟩) (Nat.lt_of_le_of_lt (vR (k:=k) A _ _ _) bc.depth) (i4 _ _ bU.gy) bU.data (bl.sb _ i4) (codeRec_of i4 bU.code) bU.body (rc _ i4 _ _) bU.uu (fun y aQ=> ?_) (fun aj x=> ?_) (by refine B bU.scope ?_;exact bU.J.tz) (by refine B bU.scope ?_;exact bU.J.gen) (by refine B bU.scope ?_;exact bU.J.kind))
 ·have:y.1∈params (cG 2 0):=by(refine bu (rj _ fz) ?_;refine B j5 ?_);exact List.mem_map.mpr ⟨_,aQ,rfl⟩
  refine B bU.scope ?_
  rcases mI.par _ this with q|q
  ·exact .inl q
  ·exact .inr ⟨q,mI.fb _ _ q⟩
 replace x:=(Eq.symm j5)▸x
 have a3:=ut (w:=w) (CM:=CM) (K:=K) (loc:=[]) (ρ:=bQ (bo ρ) M) bU fz (fun y bh g=>nomatch g) oZ lR rfl x
 have mi:=mQ bU fz rfl x (y:="self") (v:=.ref e) (by refine B j5 ?_;simp)
 have o1:=mQ bU fz rfl x (y:="what") (v:=v) (by refine B j5 ?_;simp)
 have yp:=mQ bU fz rfl x (y:="at") (v:=.int (-1) t) (by refine B j5 ?_;simp)
 have nV:=a3.dE.c0
 have Fp:(callEnvC bL M.objs.size fI).locals≠e:=fun q=>by
  have M:=a3.dE.cJ
  have O:=a3.ext.aV _ Qi
  replace O:=(Eq.symm q)▸O
  exact absurd (M.symm.trans O) (by nofun)
 refine jf x.toInCall.same ?_;intro rN YV u;subst u
 have lH:∀b o,bx.get? b=some o->rN.get? b=some o:=fun b o e=>x.toInCall.keep b o (iO b o e)
 have il:=x.toInCall.keep _ _ je
 have C2:∃o,rN.get? (callEnvC bL M.objs.size fI).locals=some o:=by obtain⟨o,es,cq,e,_⟩:=x.toInCall.ns;exact⟨o,e⟩
 have GK:∀{b:Addr} {o:Obj},bx.get? b=some o->b≠e:=fun h q=>by(replace h:=q▸h;replace h:=aY.new▸h);exact Z h
 generalize callEnvC bL M.objs.size fI=re at*
 show wpAny _ _ (execs [.Expr (.Call (.Attribute (.Name "Exception" _) "__init__" _) [.Name "self" _,.Name "what" _] [] _) _,.Assign [.Attribute (.Name "self" _) "what" _] (.Name "what" _) _,.Assign [.Attribute (.Name "self" _) "at" _] (.Name "at" _) _] _) _ _ _
 refine wpAny_execs_cons (wpAny_Expr_any (yn rfl rfl (by decide) rfl (nJ ju.dA (by kernel_rfl) nV (pR lH) (by decide+kernel) (Yk (pR lH) (callWith_builtin rfl (Qh (mi.mX h0 fun _ e=>e) (o1.mX jA fun _ e=>e) nV (by decide+kernel) (by decide+kernel) ?_))))) (xJ nV) rfl)
 refine T5 (lH _ _ (e3 _ _ oq)) il fun Y T De Ug=> ?_
 have xl:∀b o,bx.get? b=some o->Y.get? b=some o:=fun b o q=>De b o (GK q) (lH b o q)
 have hM:∀o,rN.get? re.locals=some o->Y.get? re.locals=some o:=fun o q=>De _ _ Fp q
 refine wpAny_execs_cons (plainObj_wpAny_Assign_Attribute ((o1.mX jA hM).eval nV (by decide+kernel) ((mi.mX h0 hM).eval nV (by decide+kernel) ?_)) (hs:=rfl))
 refine WO (pR xl) cj ju.Hg Ug fun aC Zc dx Zx mr D5 Ct KW QQ Qn uz=> ?_
 have CV:∀b o,bx.get? b=some o->aC.get? b=some o:=fun b o q=>D5 b o (GK q) (xl b o q)
 have F4:∀o,Y.get? re.locals=some o->aC.get? re.locals=some o:=fun o q=>D5 _ _ Fp q
 have Y2:re.locals≠dx:=fun q=>by
  refine bT C2 ?_;clear C2;intro o cr
  have:=hM o cr
  replace this:=q▸this
  dsimp only at uz
  replace this:=uz▸this;exact Z this
 refine wpAny_execs_cons (plainObj_wpAny_Assign_Attribute (((yp.mX tJ hM).mX tJ F4).eval nV (by decide+kernel) (((mi.mX h0 hM).mX h0 F4).eval nV (by decide+kernel) ?_)) (hs:=rfl))
 refine Md (pR CV) cj ju.Hk mr Ct KW QQ (by simp;decide+kernel) (by exact Xk Qn) fun bR S3 FG YJ=>wpAny_execs_nil ?_
 refine⟨rfl,h bR S3 e T dx (fun b o q=> ?_) aY.new ((FG.2 _ (Ne.symm mr)).trans Ct)⟩
 have UW:b≠dx:=fun z=>by
  have:=xl b o q
  replace this:=z▸this
  dsimp only at uz
  replace this:=uz▸this;exact Z this
 exact(FG.2 b UW).trans (CV b o q)
end
end Mine
end
section
open PySem PySem.W PySem.Calls PyProof.Rows
namespace Mine
structure jR (CM:cn) (bj:dM) (F:Frag):Prop extends nH CM bj F where
 xI:∃C,CM "TreeFault"=some C/\xL F C
section
variable{pD:Model} {A:Around} {E:Value->Shared->Prop} {env:Env}
variable{nm q:Str} {C N:Addr} {bs bm:List Value} {hdct:Bool} {sn:List Str} {sub:List Value} {ab:Bool} {col:Option Bool} {dd:Option Addr} {k0 k1 k2 k3 k5:Option Value} {newId:String}
theorem LJ {s:Shared} {x:Sem Value} {Q:Flow->Shared->Prop} (RV:bm.contains (.type "BaseException")=true) (bx:A.handled=none)
  (h:wpAny pD A x (fun v aj=>∃e t dx,v=.ref e/\aj.heap.get? C=some (excClassObj nm q C N bs bm hdct sn sub ab col dd k0 k1 k2 k3 k5 newId)/\
   aj.heap.get? e=some {cls:=.ref C,dict:=some dx,data:=.fields #[.ref t,.none,.none,.none,.bool false,.none]}/\E (.ref e) aj) E s):
  wpAny pD A (raiseStmt env (some x) none) Q E s:=by
 have rr:(Value.ref C::bm).contains (.type "BaseException")=true:=by(refine B List.contains_cons ?_;refine B RV ?_;refine B (Bool.or_true _) ?_;rfl)
 unfold raiseStmt
 refine wpAny_bind (wpAny_mono h (fun v aj bv=> ?_) fun _ _ x=>x)
 refine ou bv ?_;clear bv;intro e t dx u;subst u;intro cj aW h1
 obtain⟨an,g,d,tk,os⟩:=aj
 repeat (first|with_reducible refine wpAny_loadPart_at aW ?_|with_reducible refine wpAny_loadPart_at cj ?_|(with_reducible refine wpAny_isSubtype_exc cj ?_;refine B rr ?_)|wp_step)
 exact wpAny_raiseNew_none bx h1
end
section
variable{w:World} {CM:cn} {bj:dM} {F:Frag} {K:Top} {env:Env} {J:Scope} {A:Around} {E:Value->Shared->Prop} {ρ ρ₀ aT ρ':a5} {s c9 a7 az:Shared} {fs fs' fs₁:X} {R:bk}
theorem QJ (bl:jR CM bj F) (bA:K.f=F) {k:Nat} (bc:eh K k A) (aE:K.eH=none) {c:Str} {m3 w6 pos FJ:Pos} {m:Str} {mk:Option Str} (hc:c=("TreeFault":Str)) (ae:J.names.lookup c=some .globalImplicit) {kk} (a3:cp w CM K env J aT a7 ρ s fs):
  wpAny (model aw w) A (exec (.Raise (some (.Call (.Name c m3) [.Constant (.str m) kk FJ] [] w6)) none pos) env) (eg w CM K env J aT a7 ρ s .dA fs) (hH w CM K env J aT a7 .dA fs) s:=by
 subst hc
 refine bb bl.xI ?_;intro C zu ju
 have uv:=bl.tonH.totn.toxk.topE.tojS.tos9.topP
 have bx:A.handled=none:=bc.eH.fa id fun e ob q _ _=>h3 (q.symm.trans aE)
 have I:=a3.dE
 have e3:F.In s.heap:=bA▸I.in
 refine bT ju.cls ?_;intro P cj
 refine cj.fa fun nm q N bs sn sub ab col dd k0 k1 k2 k3 k5 oq=> ?_
 rw [arm_exec_Raise]
 simp only [arm_evalOpt_some,Option.map]
 refine wpAny_bind (wpAny_standAt (LJ (C:=C) (nm:=nm) (q:=q) (N:=N) (bs:=bs) (bm:=.ref P::gf) (hdct:=true) (sn:=sn) (sub:=sub) (ab:=ab) (col:=col) (dd:=dd) (k0:=k0) (k1:=k1) (k2:=k2) (k3:=k3) (k5:=k5) (newId:="Exception.__new__") (by rfl) bx ?_))
 refine wpAny_bind (wpAny_mono (Call_Name rfl (nJ ju.name ae I.c0 e3 (by decide+kernel) ?_)) (fun v jx fn=>wpAny_bind (wpAny_standAt (wpAny_pure fn))) fun _ _ x=>x)
 unfold callWith
 show wpAny _ _ (holding _ (evalArgs (.ref C) true ((false,eval (.Constant (.str m) kk FJ) env)::[]) [])>>=_) _ _ _
 refine wpAny_bind (wpAny_holding (evalArgs_plain (spliced_cons (wpAny_Constant_str (spliced_nil (wpAny_bind (wpAny_standAt ?_)))))))
 refine wpAny_bind (wpAny_keeperOf_exc (e3 _ _ oq) ?_)
 refine wpAny_bind (NR uv bA bc ju (I.tok (tk:=s.toks+1)) fun h' tk e T dx ag b1 aW=>wpAny_bind (wpAny_holding (wpAny_point (wpAny_pure ?_))))
 refine⟨e,T,dx,rfl,ag _ _ (e3 _ _ oq),aW,rfl,bQ ρ h',e,a3.step (I.dD ag) (a1.dD ag) cb.dD,rfl,?_⟩
 have ug:ρ e=.free:=(I.base.c2 _).mpr b1
 exact⟨⟨a3.ext.ic _ ug,gR ug aW⟩,C,_,_,zu,aW,rfl,rfl,rfl,by simp,rfl,.inl rfl⟩
end
end Mine
end
section
open PySem PySem.W PySem.Calls PyProof.Rows
namespace Mine
section
variable{w:World} {CM:cn} {bj:dM} {F:Frag} {K:Top} {env:Env} {J:Scope} {A:Around} {E:Value->Shared->Prop} {ρ ρ₀ aT ρ':a5} {s c9 a7 az:Shared} {fs fs' fs₁:X} {R:bk}
theorem aK.pQ {D:List Addr} {h':Heap} {tk:Nat} (I:aK w CM K env J ρ s fs) (d8:∀x,J.names.lookup x≠some .free) (dL:∀a∈D,ρ a=.aV) (dO:∀a∈D,∃ob,h'.get? a=some ob)
  (ag:∀b o,b∉D->¬e0 (ρ b)->s.heap.get? b=some o->h'.get? b=some o) (hs:∀b o,e0 (ρ b)->s.heap.get? b=some o->∃f0,h'.get? b=some {o with slots:=f0}):
  aK w CM K env J (bQ ρ h') {s with heap:=h',toks:=tk} fs:=by
 have f2:∀{a:Addr},ρ a≠.aV->a∉D:=fun h q=>h (dL _ q)
 have e5:∀{a:Addr} {o:Obj},ρ a≠.aV->¬e0 (ρ a)->s.heap.get? a=some o->h'.get? a=some o:=fun M O e=>ag _ _ (f2 M) O e
 have aB:∀a o,ρ a=.bf o->bQ ρ h' a=.bf o:=fun a o e=>h9.mpr e
 have an:∀a o,ρ a=.per o->bQ ρ h' a=.per o:=fun a o e=>gT.mpr e
 have bx:∀a o,ρ a=.aD o->bQ ρ h' a=.aD o:=fun a o e=>f8.mpr e
 have ns:∀{m:Str->Option Value},s.heap.Ns env.locals m->h'.Ns env.locals m:=fun{m} ⟨o,es,cq,bZ,bn⟩=>by
  refine bT (hs _ _ (by refine B I.cJ ?_;trivial) bZ) ?_;intro f0 e
  exact⟨_,es,cq,e,bn⟩
 refine⟨⟨fun a x e=>aB _ _ (I.base.fW a x e),fun a x e=>aB _ _ (I.base.ft a x e),fun a e=> ?_,fun a o e=> ?_,fun a=> ?_,fun k cy=>let⟨a,e⟩:=I.base.gx k cy;⟨a,an _ _ e⟩,fun a k e=> ?_,fun a b k ak ar=>I.base.inj a b k (gT.mp ak) (gT.mp ar)⟩,
   I.c0,nZ.mpr I.cJ,let⟨m,q⟩:=I.fx;⟨m,ns q⟩,fun x bh e=> ?_,fun x e=> ?_,fun x c bZ bn=>absurd bZ (d8 x),I.apart,fun a x e=> ?_,fun a b x bZ bn=>I.fk a b x (f8.mp bZ) (f8.mp bn)⟩
 ·obtain⟨M,o,O,Y⟩:=I.base.fi a e
  refine bT (hs _ _ M O) ?_;intro f0 aC
  exact⟨D9 M,_,aC,Y⟩
 ·have e:=h9.mp e
  exact e5 (bI e) (by refine B e ?_;exact fun q=>q) (I.base.bK _ _ e)
 ·refine Ba (I.base.c2 a) fun e=> ?_
  cases bx:s.heap.get? a with
  |none=>rfl
  |some o=>
   by_cases q:a∈D
   ·exact(dO a q).elim fun ob z=>h3 (z.symm.trans e)
   ·by_cases bn:e0 (ρ a)
    ·exact(hs _ _ bn bx).elim fun f0 z=>h3 (z.symm.trans e)
    ·exact h3 ((ag _ _ q bn bx).symm.trans e)
 ·have e:=gT.mp e
  obtain⟨x,M,O⟩:=I.base.fU a k e
  exact⟨x,M,O.bt aB an fun ob q=>e5 (bI e) (by refine B e ?_;exact fun q=>q) q⟩
 ·obtain⟨v,M,O⟩:=I.eW x bh e
  refine⟨v,?_,O.bt aB an bx⟩
  rcases M with⟨bV,cE,m,q,dU⟩|⟨bV,cE,c,cX,⟨o,dU,sA⟩⟩
  ·exact .inl ⟨bV,cE,m,ns q,dU⟩
  ·refine .inr ⟨bV,cE,c,cX,o,?_,sA⟩
   rcases bV with bV|bV
   ·obtain⟨c',eY,cP,dG,_⟩:=I.cells x bV
    replace cP:=cX▸cP;cases cP
    exact e5 (bI dG) (by refine B dG ?_;exact fun q=>q) dU
   ·exact absurd bV (d8 x)
 ·obtain⟨c,v,bZ,bn,ee,⟨o,ii,iB⟩⟩:=I.cells x e
  exact⟨c,v,bZ,o9.mpr bn,ee,o,e5 (bI bn) (by refine B bn ?_;exact fun q=>q) ii,iB⟩
 ·have e:=f8.mp e
  obtain⟨aL,c,M,O⟩:=I.e1 a x e
  exact⟨aL,c,M,O.bt aB an fun ob q=>e5 (bI e) (by refine B e ?_;exact fun q=>q) q⟩
theorem a1.pQ {D:List Addr} {h':Heap} {tk:Nat} (av:a1 aT a7 ρ s) (dL:∀a∈D,aT a=.free)
  (ag:∀b o,b∉D->¬e0 (ρ b)->s.heap.get? b=some o->h'.get? b=some o) (hs:∀b o,e0 (ρ b)->s.heap.get? b=some o->∃f0,h'.get? b=some {o with slots:=f0}):
  a1 aT a7 (bQ ρ h') {s with heap:=h',toks:=tk} where
 bK:=fun a ob e=>h9.mpr (av.bK a ob e)
 aV:=fun a e=>ms (av.aV a e)
 per:=fun a k e=>gT.mpr (av.per a k e)
 cJ:=fun a e=>nZ.mpr (av.cJ a e)
 fb:=fun a e=>o9.mpr (av.fb a e)
 stk:=fun a e=>BS.mpr (av.stk a e)
 aD:=fun a x e=>by
  rcases av.aD a x e with q|q|⟨ob,q⟩
  ·exact .inl (f8.mpr q)
  ·exact .inr (.inl ((lY (bI q)).trans q))
  ·exact .inr (.inr ⟨ob,h9.mpr q⟩)
 keep:=fun a ob e q=>ag a ob (fun z=>by replace e:=(dL a z)▸e;cases e) (by refine B (av.aV a e) ?_;exact fun q=>q) (av.keep a ob e q)
 hW:=fun a ob e q=>by
  refine bT (av.hW a ob e q) ?_;intro f0 cg
  refine bT (hs a _ (by refine B (av.stk a e) ?_;trivial) cg) ?_;intro Wt uo
  exact⟨Wt,uo⟩
 ao:=by obtain⟨h,lv,e⟩:=av.ao;refine B e ?_;exact⟨h',tk,rfl⟩
theorem cp.pQ {D:List Addr} {h':Heap} {tk:Nat} (a3:cp w CM K env J aT a7 ρ s fs) (d8:∀x,J.names.lookup x≠some .free) (dL:∀a∈D,ρ a=.aV/\aT a=.free) (dO:∀a∈D,∃ob,h'.get? a=some ob)
  (ag:∀b o,b∉D->¬e0 (ρ b)->s.heap.get? b=some o->h'.get? b=some o) (hs:∀b o,e0 (ρ b)->s.heap.get? b=some o->∃f0,h'.get? b=some {o with slots:=f0}):
  cp w CM K env J aT a7 (bQ ρ h') {s with heap:=h',toks:=tk} fs:=
 ⟨a3.dE.pQ d8 (fun a h=>(dL a h).1) dO ag hs,a3.ext.pQ (fun a h=>(dL a h).2) ag hs,fun a x e=>a3.gN a x (f8.mp e)⟩
noncomputable def l3 (CM:cn) (aT ρ:a5) (h:Heap) (a:Addr) (ai:Value):Prop:=
 aT a=.free/\ρ a=.aV/\∃C ob vs,CM "TreeFault"=some C/\h.get? a=some ob/\ob.isFreed=false/\ob.cls=.ref C/\ob.data=.fields vs/\2<vs.size/\vs[2]? =some .none/\
  ∃T ls ts,vs[1]? =some (.ref T)/\aT T=.free/\ρ T=.aV/\T≠a/\h.get? T=some ls/\ls.data=.fields ts/\ts[3]? =some ai
theorem l3.at {h:Heap} {a:Addr} (x:l3 CM aT ρ h a .none):gl CM aT ρ h a:=
 ⟨⟨x.1,x.2.1⟩,x.2.2.imp fun C q=>q.imp fun ob q=>q.imp fun vs q=>⟨q.1,q.2.1,q.2.2.1,q.2.2.2.1,q.2.2.2.2.1,q.2.2.2.2.2.1,q.2.2.2.2.2.2.1,.inr (q.2.2.2.2.2.2.2.imp fun T q=>q.imp fun ls q=>q.imp fun ts q=>⟨q.1,⟨q.2.1,q.2.2.1⟩,q.2.2.2⟩)⟩⟩
theorem l3.head {h:Heap} {a C:Addr} {ai:Value} (x:l3 CM aT ρ h a ai) (cj:CM "TreeFault"=some C):∃ob,h.get? a=some ob/\ob.cls=.ref C:=
 x.2.2.elim fun nW q=>q.elim fun ob q=>q.elim fun vs q=>⟨ob,q.2.1,q.2.2.2.1.trans (congrArg Value.ref (Option.some.inj (q.1.symm.trans cj)))⟩
theorem l3.obj {h:Heap} {a:Addr} {ai:Value} (x:l3 CM aT ρ h a ai):∃ob,h.get? a=some ob/\ru ob:=
 x.2.2.elim fun nW q=>q.elim fun ob q=>q.elim fun vs q=>⟨ob,q.2.1,q.2.2.1,vs,q.2.2.2.2.1,q.2.2.2.2.2.1,q.2.2.2.2.2.2.1⟩
theorem IT {c4:Heap} (I:aK w CM K env J ρ s fs) (JP:∀b,e0 (ρ b)->c4.get? b=s.heap.get? b) (l:List Env):(∀e∈l,e.scope.kind≠.module/\∃L,e.frame=some L/\L∈K.frames)->c4.FunFrames {objs:= #[]} l:=by
 induction l with
 |nil=>intro _;trivial
 |cons e l ih=>
  intro h
  refine cl (h e List.mem_cons_self) ?_;intro M O
  refine bb O ?_;clear O;intro L O Y
  refine cl (I.base.fi L Y) ?_;intro dK aC
  refine bb aC ?_;clear aC;intro o aC bR
  exact⟨M,⟨L,o,O,rfl,(JP L dK).trans aC,bR⟩,ih fun cg aW=>h cg (List.mem_cons_of_mem _ aW)⟩
theorem OL (I:aK w CM K env J ρ s fs) {l:List Env} (h:∀e∈l,e.scope.kind≠.module/\∃L,e.frame=some L/\L∈K.frames) {b:Addr} (ah:b∈l.filterMap (·.frame)):e0 (ρ b):=by
 refine bb (List.mem_filterMap.mp ah) ?_;intro e aW aB
 obtain⟨_,L,O,Y⟩:=h e aW
 replace O:=aB▸O;cases O
 exact(I.base.fi _ Y).1
theorem yj (d8:∀x,J.names.lookup x≠some .free) (a3:cp w CM K env J aT a7 ρ s fs) {a:Addr} {ai:Value} {Q:Unit->Shared->Prop} (x:l3 CM aT ρ s.heap a ai)
  (h:∀ρ' h',cp w CM K env J aT a7 ρ' {s with heap:=h'} fs->l3 CM aT ρ' h' a .none->(∀e,s.heap.get? a=some e->h'.get? a=some e)->Q () {s with heap:=h'}):wpAny (model aw w) A (setFlight (.ref a) none) Q E s:=by
 obtain⟨M,O,C,ob,vs,eC,ez,hX,m7,k8,nA,pw,T,ls,ts,d1,eT,im,nI,hn,lh,ov⟩:=x
 have Es:3<ts.size:=(Array.getElem?_eq_some_iff.mp ov).1
 have other:∀b,b≠T->(s.heap.update T (Obj.mapFields (·.setIfInBounds 3 ((none:Option Addr).elim Value.none fun f=>rawInt f)))).get? b=s.heap.get? b:=
  fun b ah=>Heap.get?_update_other _ _ (Ne.symm ah)
 unfold setFlight
 refine wpAny_bind (wpAny_field ez k8 d1 ?_)
 refine B (if_pos (show(Value.ref T !=Value.none)=true from by simp)) ?_
 have tX:=Heap.get?_update_self (Obj.mapFields (·.setIfInBounds 3 ((none:Option Addr).elim Value.none fun f=>rawInt f))) hn (Obj.isFreed_of_fields (Obj.data_mapFields lh _))
 have dL:∀b∈[T],ρ b=.aV/\aT b=.free:=fun b ah=>by refine B (List.mem_singleton.mp ah) ?_;exact⟨im,eT⟩
 refine wpAny_setField hn lh Es (h _ _ (a3.pQ (tk:=s.toks) (D:=[T]) d8 dL (fun b ah=>by refine B (List.mem_singleton.mp ah) ?_;exact⟨_,tX⟩) (fun b o ah _ e=>(other b (fun q=>ah (List.mem_singleton.mpr q))).trans e) fun b o ah e=>⟨o.slots,(other b (fun q=>by(replace ah:=q▸ah;replace ah:=im▸ah);exact ah)).trans e⟩) ?_ fun e aW=>(other a (Ne.symm nI)).trans aW)
 refine⟨M,(lY (bI O)).trans O,C,ob,vs,eC,(other a (Ne.symm nI)).trans ez,hX,m7,k8,nA,pw,T,_,_,d1,eT,(lY (bI im)).trans im,nI,tX,Obj.data_mapFields lh _,?_⟩
 simp [Es]
theorem A1 (d8:∀x,J.names.lookup x≠some .free) (a3:cp w CM K env J aT a7 ρ s fs) {a L:Addr} {hy:List Env} {Q:Unit->Shared->Prop} (x:gl CM aT ρ s.heap a) (ec:A.frames=some (env::hy)) (aB:zp K A) (dO:env.frame=some L)
  (h:∀ρ' h',cp w CM K env J aT a7 ρ' {s with heap:=h'} fs->l3 CM aT ρ' h' a (rawInt L)->Q () {s with heap:=h'}):wpAny (model aw w) A (noteFrame (.ref a) env) Q E s:=by
 obtain⟨⟨M,O⟩,C,ob,vs,eC,ez,hX,m7,k8,nA,pw,Y⟩:=x
 refine bb aB ?_;clear aB;intro l lL hN
 replace lL:=ec▸lL;cases lL
 have I:=a3.dE
 have dq:1<vs.size:=Nat.lt_of_succ_lt nA
 have tail:∀(D:List Addr) (c4:Heap) (head:Value) (aE:Bool),(∀b∈D,ρ b=.aV/\aT b=.free/\b≠a)->(∀b∈D,∃o,c4.get? b=some o)->(∀b,b∉D->c4.get? b=s.heap.get? b)->
   wpAny (model aw w) A (do let f<-frameOf env;let jh<-entryPlaceOf L aE;let b<-EntryCells.newEntry head f .none (rawInt L) .none jh;setField (.ref a) 1 b) Q E {s with heap:=c4}:=fun D c4 head aE dL uE u0=>by
  have Qd:∀{b:Addr},b∈(env::hy).filterMap (·.frame)->e0 (ρ b):=fun ah=>OL I hN ah
  have JB:a∉D:=fun q=>(dL a q).2.2 rfl
  have GZ:∀b,e0 (ρ b)->c4.get? b=s.heap.get? b:=fun b ah=>u0 b fun q=>by replace ah:=((dL b q).1)▸ah;exact ah
  refine wpAny_bind (wpAny_frameOf_fun (s:={s with heap:=c4}) ec (IT I GZ _ hN) dO fun bv rx=> ?_)
  refine wpAny_bind (wpAny_entryPlaceOf fun jh gq=> ?_)
  unfold EntryCells.newEntry newFields
  refine wpAny_bind (wpAny_newObj_type ?_ (gq.sizeOk5 _ _ _ _ _))
  have KO:∀{b:Addr},¬e0 (ρ b)->b∉(env::hy).filterMap (·.frame):=fun h q=>h (Qd q)
  have zC:∀b,¬e0 (ρ b)->bv.get? b=c4.get? b:=fun b ah=>rx.2.1 b (KO ah)
  have DF:¬e0 (ρ a):=by refine B O ?_;exact fun q=>q
  have rt:bv.get? a=some ob:=(zC a DF).trans ((u0 a JB).trans ez)
  have EN:=Heap.get?_push_of_some (h:=bv) {cls:=.type "traceback",dict:=none,data:=.fields ([head,.ref L,.none,rawInt L,.none]++(if jh.isEmpty then List.replicate 6 Value.none else jh)).toArray} rt
  have Bi:bv.objs.size≠a:=Nat.ne_of_gt (Heap.lt_size rt)
  have xt:=Obj.data_mapFields k8 (·.setIfInBounds 1 (Value.ref bv.objs.size))
  have Bk:=Heap.get?_update_self (Obj.mapFields (·.setIfInBounds 1 (Value.ref bv.objs.size))) EN (Obj.isFreed_of_fields xt)
  have EM:=(Heap.get?_update_other (bv.push {cls:=.type "traceback",dict:=none,data:=.fields ([head,.ref L,.none,rawInt L,.none]++(if jh.isEmpty then List.replicate 6 Value.none else jh)).toArray})
   (Obj.mapFields (·.setIfInBounds 1 (Value.ref bv.objs.size))) (Ne.symm Bi)).trans (Heap.get?_push_size bv rfl)
  have keep:∀b o,b≠a->bv.get? b=some o->
    ((bv.push {cls:=.type "traceback",dict:=none,data:=.fields ([head,.ref L,.none,rawInt L,.none]++(if jh.isEmpty then List.replicate 6 Value.none else jh)).toArray}).update a (Obj.mapFields (·.setIfInBounds 1 (Value.ref bv.objs.size)))).get? b=some o:=fun b o iW ah=>by
   refine B (Heap.get?_update_other _ _ (Ne.symm iW)) ?_
   exact Heap.get?_push_of_some _ ah
  have I6:s.heap.get? bv.objs.size=none:=by
   cases e:s.heap.get? bv.objs.size with
   |none=>rfl
   |some o=>
    have uL:∃oy,c4.get? bv.objs.size=some oy:=by
     by_cases q:bv.objs.size∈D
     ·exact uE _ q
     ·exact⟨o,(u0 _ q).trans e⟩
    refine bT uL ?_;clear uL;intro oy I2
    have:=Heap.lt_size I2
    replace this:=rx.1▸this
    exact absurd this (Nat.lt_irrefl _)
  have E0:ρ bv.objs.size=.free:=(I.base.c2 _).mpr I6
  have Oz:∀b∈a::D,ρ b=.aV/\aT b=.free:=fun b ah=>by
   rcases List.mem_cons.mp ah with rfl|ah
   ·exact⟨O,M⟩
   ·exact⟨(dL b ah).1,(dL b ah).2.1⟩
  refine wpAny_setField EN k8 dq (h _ _ (a3.pQ (tk:=s.toks) (D:=a::D) d8 Oz (fun b ah=> ?_) (fun b o ah ec e=> ?_) (fun b o ec e=> ?_)) ?_)
  ·rcases List.mem_cons.mp ah with rfl|ah
   ·exact⟨_,Bk⟩
   ·refine bT (uE b ah) ?_;intro o cr
    exact⟨o,keep b o (dL b ah).2.2 ((zC b (by refine B ((dL b ah).1) ?_;exact fun q=>q)).trans cr)⟩
  ·exact keep b o (fun q=>ah (by refine B q ?_;exact List.mem_cons_self)) ((zC b ec).trans ((u0 b fun q=>ah (List.mem_cons_of_mem _ q)).trans e))
  ·refine bT (rx.2.2 b o ((GZ b ec).trans e)) ?_;intro f0 cg
   exact⟨f0,keep b _ (fun q=>DF (q▸ec)) cg⟩
  ·refine⟨M,(lY (bI O)).trans O,C,_,_,eC,Bk,Obj.isFreed_of_fields xt,(Obj.cls_mapFields _ _).trans m7,xt,by simpa using nA,by refine B (Array.getElem?_setIfInBounds_ne (by decide)) ?_;exact pw,bv.objs.size,_,_,by simp [dq],a3.ext.ic _ E0,gR E0 EM,Bi,EM,rfl,?_⟩
   first|(simp;done)|(rcases gq with rfl|⟨_,_,_,_,_,_,_,rfl⟩<;>simp)
 unfold noteFrame
 simp only [dO]
 rcases Y with Y|⟨T,ls,ts,d1,⟨eT,im⟩,nI,hn,lh,ov⟩
 ·refine wpAny_bind (wpAny_field ez k8 Y ?_)
  refine B (if_neg (by decide)) ?_
  exact tail [] s.heap .none false (fun b ah=>nomatch ah) (fun b ah=>nomatch ah) fun b _=>rfl
 ·refine wpAny_bind (wpAny_field ez k8 d1 ?_)
  refine B (if_pos (show(Value.ref T !=Value.none)=true from by simp)) ?_
  refine wpAny_bind (wpAny_field hn lh ov ?_)
  refine B (if_neg (show¬((Value.none==rawInt L)=true) from by simp [rawInt])) ?_
  refine wpAny_bind (wpAny_setField hn lh (Array.getElem?_eq_some_iff.mp ov).1 ?_)
  have tX:=Heap.get?_update_self (Obj.mapFields (·.setIfInBounds 3 Value.none)) hn (Obj.isFreed_of_fields (Obj.data_mapFields lh _))
  refine tail [T] _ (.ref T) true (fun b ah=> ?_) (fun b ah=> ?_) fun b ah=>Heap.get?_update_other _ _ (fun q=>ah (List.mem_singleton.mpr q.symm))
  ·refine B (List.mem_singleton.mp ah) ?_;exact⟨im,eT,nI⟩
  ·refine B (List.mem_singleton.mp ah) ?_;exact⟨_,tX⟩
theorem lV:Bb w CM:=by
 intro K env J A aT ρ a7 s fs a l d8 a3 x ec aB E
 obtain⟨L,dO⟩:∃L,env.frame=some L:=by
  refine bb aB ?_;clear aB;intro c8 M O
  replace M:=ec▸M;cases M
  obtain⟨_,L,Y,_⟩:=O env List.mem_cons_self
  exact⟨L,Y⟩
 unfold leaving
 refine wpAny_bind (A1 d8 a3 x ec aB dO fun aN bv wn Nm=> ?_)
 exact yj (s:={s with heap:=bv}) d8 wn Nm fun b8 dI q9 zH _=>⟨b8,q9,zH.at⟩
end
end Mine
end
section
open PySem PySem.W PySem.Calls PyProof.Rows
namespace Mine
section
variable{w:World} {CM:cn} {bj:dM} {F:Frag} {K:Top} {env:Env} {J:Scope} {A:Around} {E:Value->Shared->Prop} {ρ ρ₀ aT ρ':a5} {s c9 a7 az:Shared} {fs fs' fs₁:X} {ai:bE} {R Rh:bk}
theorem cp.pb {a:Addr} {ob:Obj} (a3:cp w CM K env J aT a7 ρ s fs) (aE:K.eH=none) (d8:∀x,J.names.lookup x≠some .free) (hd:ρ a=.aV) (ah:aT a=.free) (cr:s.heap.get? a=some ob):
  cp w CM {K with eH:=some (a,ob)} env J aT a7 (cx ρ a (.bf ob)) s fs:=by
 have I:=a3.dE.fO hd (fun x c q _=>absurd q (d8 x)) cr
 refine⟨⟨⟨I.base.fW,fun b x e=> ?_,I.base.fi,I.base.bK,I.base.c2,I.base.gx,I.base.fU,I.base.inj⟩,I.c0,I.cJ,I.fx,I.eW,I.cells,I.frees,I.apart,I.e1,I.fk⟩,a3.ext.fO ah,fun b x e=>a3.gN b x ?_⟩
 ·refine b6 e ?_;clear e;exact dJ
 ·by_cases q:b=a
  ·(replace e:=q▸e;replace e:=dJ▸e);cases e
  ·rwa [bq q] at e
theorem cp.UP {o:Option (Addr×Obj)} (a3:cp w CM {K with eH:=o} env J aT a7 ρ s fs) (aE:K.eH=none):cp w CM K env J aT a7 ρ s fs:=by
 have I:=a3.dE
 exact⟨⟨⟨I.base.fW,fun b x e=>by replace e:=aE▸e;(exact Z e),I.base.fi,I.base.bK,I.base.c2,I.base.gx,I.base.fU,I.base.inj⟩,I.c0,I.cJ,I.fx,I.eW,I.cells,I.frees,I.apart,I.e1,I.fk⟩,a3.ext,a3.gN⟩
theorem Os (bl:jR CM bj F) (bA:K.f=F) {k:Nat} (bc:eh K (k+1) A) (ag:k%2=0) (S:fL w CM K env J A R) (ed:∀K' kg,K'.f=F->eh K' k kg->kg.frames=A.frames->fL w CM K' env J kg Rh) {hy:List Env} (ec:A.frames=some (env::hy))
  {c:Str} {m3 an pos:Pos} {body h:List Stmt} {iU:Stmt} (hc:c=("TreeFault":Str)) (ae:J.names.lookup c=some .globalImplicit) (d8:∀x,J.names.lookup x≠some .free)
  (q:(ob (cO R body fs) fun ai fs₁=>Gk ai fs₁ (cO Rh (iU::h)))=some (ai,fs')) (a3:cp w CM K env J aT a7 ρ s fs):
  wpAny (model aw w) A (exec (.Try body [.ExceptHandler (some (.Name c m3)) none (iU::h) an] [] [] pos) env) (eg w CM K env J aT a7 ρ s ai fs') (hH w CM K env J aT a7 ai fs') s:=by
 subst hc
 refine bb bl.xI ?_;intro C zu ju
 have aE:K.eH=none:=bc.xg (by exact Qz ag)
 obtain⟨L,dO⟩:∃L,env.frame=some L:=by
  refine bb bc.frames ?_;intro c8 M O
  replace O:=(Eq.symm (Option.some.inj (ec.symm.trans M)))▸O
  exact(O env List.mem_cons_self).2.imp fun L z=>z.1
 refine bT ju.cls ?_;intro P cj
 refine cj.fa fun nm Yw N bs sn sub ab col dd k0 k1 k2 k3 k5 oq=> ?_
 refine wpAny_Try_except ?_
 refine b5 q (fun hj fs₁ M q=> ?_) Z
 by_cases lS:hj=.dA
 ·rw [lS] at q M
  refine wU q (fun r fs₂ O q=>b6 q ?_) Z
  refine wpAny_mono (od S _ M a3) (fun f aj P=>P.elim) fun e aj P=> ?_
  refine dP P.2 ?_;clear P;intro aN a wn u x;subst u
  refine A1 d8 wn x ec bc.frames dO fun b8 dI q9 zH=>yj (s:={aj with heap:=dI}) d8 q9 zH fun jQ fn wd Ax _=> ?_
  have ej:F.In fn:=bA▸wd.dE.in
  refine wpAny_handleBy_cons (codeAny_handlers_test (nJ (s:={aj with heap:=fn}) ju.name ae wd.dE.c0 ej (by decide+kernel) ?_)) (by intro q;cases q)
  refine bb (Ax.head zu) ?_;intro hu ez m7
  refine wpAny_excMatches_sub_self (ej _ _ oq) ez m7 rfl (codeAny_handlers_suite (yj (s:={aj with heap:=fn}) d8 wd Ax fun v3 vX MO ww _=> ?_))
  refine bb ww.obj ?_;intro C5 ar uL
  have Vc:=MO.pb aE d8 ww.2.1 ww.1 ar
  have q7:eh {K with eH:=some (a,C5)} k (A.mark (some (.ref a))):=
   ⟨⟨rfl,uL⟩,bc.frames,by have:=bc.depth;show A.depth+2*k+8<_;exact Xz this,by have:=bc.units;show A.units+16*k+400<_;exact Uf this,fun z=>by exact(TL ag z).elim⟩
  refine wpAny_mono (od (ed {K with eH:=some (a,C5)} _ bA q7 rfl) _ O Vc) (fun f vY P=> ?_) fun e vY P=>nomatch P.1
  exact P.imp fun v z=>⟨z.1,z.2.imp fun Zs z=>⟨z.1.UP aE,z.2⟩⟩
 ·have e:some (hj,fs₁)=some (ai,fs'):=by
   cases hj with
   |dA=>exact absurd rfl lS
   |_=>exact q
  cases e
  refine wpAny_mono (od S _ M a3) (fun f aj P=> ?_) fun e aj P=>absurd P.1 lS
  cases ai with
  |next=>refine B P.1 ?_;exact wpAny_execs_nil ⟨rfl,P.2⟩
  |brk=>refine B P.1 ?_;exact⟨rfl,P.2⟩
  |ret r=>exact P.elim fun v z=>by refine B z.1 ?_;exact⟨v,rfl,z.2⟩
  |dA=>exact P.elim
end
end Mine
end
section
open PySem PySem.W PySem.Calls PyProof.Rows
namespace Mine
section
variable{w:World} {CM:cn} {bj:dM} {F:Frag} {K:Top} {env:Env} {J:Scope} {A:Around} {E:Value->Shared->Prop} {ρ ρ₀ aT ρ':a5} {s c9 a7 az:Shared} {fs fs' fs₁:X} {ai:bE} {R:bk} {C CQ:cs} {k:Nat}
theorem Ve {J:Scope} (h:J.names.all (fun p=>p.2 !=.free)=true):∀x,J.names.lookup x≠some .free:=fun x q=>lr (List.all_eq_true.mp h _ (mem_of_lookup q))
noncomputable def EZ (w:World) (CM:cn) (F:Frag) (k:Nat) (env:Env) (J:Scope) (A:Around):Option (Scope->bk)->Prop
 |none=>True
 |some Rh=>∃j,k=j+1/\j%2=0/\∀K' kg,K'.f=F->eh K' j kg->kg.frames=A.frames->fL w CM K' env J kg (Rh J)
theorem Ws (bl:jR CM bj F) (bA:K.f=F) (c4:gL w CM bj F k C) (bc:eh K k A) {b9:Scope->bk} {Rh:Option (Scope->bk)} (S:fL w CM K env J A (b9 J)) (bx:EZ w CM F k env J A Rh) (ec:∃hy,A.frames=some (env::hy)) {ao:Stmt}
  (q:pO C b9 Rh J ao fs=some (ai,fs')) (a3:cp w CM K env J aT a7 ρ s fs):
  wpAny (model aw w) A (exec ao env) (eg w CM K env J aT a7 ρ s ai fs') (hH w CM K env J aT a7 ai fs') s:=by
 have kv:=bl.tonH.totn.toxk.topE.tojS
 cases ao with
 |Return e pos=>
  refine bG q (fun e aW q=>b5 q (fun r fs₁ M q=>b5 q (fun r' fs₂ O q=>b6 q ?_) Z) Z) Z
  refine B aW ?_
  exact Lv S.tocB M O a3
 |Break p=>exact b6 q (wpAny_Break ⟨rfl,ρ,a3,a1.refl ..⟩)
 |If c a b p=>exact b5 q (fun t fs₁ M q=>Vn S M q a3) Z
 |While c body gO p=>
  refine cH q (fun aW q=> ?_) Z
  refine B (List.isEmpty_iff.mp aW) ?_
  exact ON S q a3
 |For t iter body gO p=>
  refine bG q (fun x ae q=>cH q (fun aW q=>b5 q (fun items fs₁ M q=> ?_) Z) Z) Z
  refine bT (oo ae) ?_;intro px e
  (refine B e ?_;refine B (List.isEmpty_iff.mp aW) ?_)
  exact IN kv bA bc.eH S M q a3
 |Assign ts e p=>
  refine bG q (fun t aG q=> ?_) Z
  refine B (TY aG) ?_
  cases t with
  |Name x px=>exact b5 q (fun r fs₁ M q=>Lh S M q a3) Z
  |Tuple ts kk tp=>
   refine cH q (fun hz q=>UH q (fun vs fs₁ M q=>cH q (fun _ q=>ql q fun O=> ?_) Z) Z) Z
   have hz:=Bool.and_eq_true_iff.mp hz
   exact LD bc.eH S hz.1 hz.2 M O a3
  |Subscript b i sp=>exact b5 q (fun v fs₁ M q=>b5 q (fun r fs₂ O q=>si q (fun kk fs₃ Y q=>ql q fun aC=>IJ bc.eH S M O Y aC a3) Z) Z) Z
  |_=>exact Z q
 |Expr e p=>
  cases e with
  |Call f args lj w6=>
   refine cH q (fun ag q=> ?_) Z
   refine B (List.isEmpty_iff.mp ag) ?_
   cases f with
   |Name f m3=>
    refine cH q (fun hz q=>b5 q (fun vs fs₁ M q=>b5 q (fun pZ per O q=> ?_) Z) Z) Z
    have hz:=Bool.and_eq_true_iff.mp hz
    exact Tt kv.tos9 bA c4 bc S hz.2 (of_decide_eq_true hz.1) M O q a3
   |Attribute o m hp=>exact b5 q (fun r fs₁ M q=>b6 q (TZ S M a3)) Z
   |_=>exact Z q
  |_=>exact Z q
 |Raise x d p=>
  refine bG q (fun e aW q=>b5 q (fun f args M q=>bG q (fun c O q=>bG q (fun a Y q=>cH q (fun hz q=>b6 q ?_) Z) Z) Z) Z) Z
  refine bT (Fb M) ?_;intro w6 ak
  refine bT (oo O) ?_;intro m3 ar
  have gj:=Bool.and_eq_true_iff.mp hz
  have gP:=Bool.and_eq_true_iff.mp gj.2
  have kc:=Bool.and_eq_true_iff.mp gP.2
  have oY:=Bool.and_eq_true_iff.mp kc.2
  refine p3 (Oj gj.1) ?_;intro s kk sp bP
  (refine B aW ?_;refine B ak ?_;refine B ar ?_;refine B (uk Y) ?_;refine B bP ?_;refine B (Option.isNone_iff_eq_none.mp gP.1) ?_)
  refine bT (Option.isSome_iff_exists.mp kc.1) ?_;intro Sl cW
  replace bx:=cW▸bx
  refine et bx ?_;intro j dn fe _
  exact QJ (mk:=none) bl bA bc (bc.xg (by(refine B dn ?_;refine B (Nat.add_mod _ _ _) ?_;refine B fe ?_;rfl))) (of_decide_eq_true oY.1) (beq_iff_eq.mp oY.2) a3
 |Try body hs gO cI p=>
  refine bG q (fun Sl f9 q=>b5 q (fun c ah M q=>cH q (fun hz q=> ?_) Z) Z) Z
  have gj:=Bool.and_eq_true_iff.mp hz
  have gP:=Bool.and_eq_true_iff.mp gj.2
  have kc:=Bool.and_eq_true_iff.mp gP.2
  refine dP (NJ M) ?_;intro m3 an ak ar bP
  cases ah with
  |nil=>exact lr kc.2
  |cons iU h=>
   (refine B ak ?_;refine B ar ?_;refine B bP ?_)
   replace bx:=f9▸bx
   refine et bx ?_;clear bx;intro j cW dn fe
   subst cW
   refine bT ec ?_;clear ec;intro hy ec
   exact Os bl bA bc dn S fe ec (of_decide_eq_true gj.1) (beq_iff_eq.mp gP.1) (Ve kc.1) q a3
 |_=>exact Z q
theorem Ka {b9:Scope->bk} {e:Expr} {p:Pos}:i1 C b9 J (.Starred e p) fs=none:=rfl
theorem Sr {b9:Scope->bk} {es:List Expr} {k:Nat} {p:Pos}:i1 C b9 J (.Set es k p) fs=none:=rfl
theorem Qu {b9:Scope->bk} {e g c p}:i1 C b9 J (.SetComp e g c p) fs=none:=rfl
theorem PX {b9:Scope->bk} {e v g c p}:i1 C b9 J (.DictComp e v g c p) fs=none:=rfl
theorem Fh {b9:Scope->bk} {elt gens aX} {r:aU} {G:Prop} (q:zt b9 J elt gens aX fs=some (r,fs')) (k:∀x px iter ifs items fs₁ ck fs₂,gens=[⟨.Name x px,iter,ifs,0⟩]->hG (b9 J) J iter fs=some (items,fs₁)->items.length<=a4->aX.names.lookup x=some .local->n4 J aX=true->
   ga (b9 aX) x ifs elt items {fs₁ with loc:=mg aX fs₁.loc}=some (ck,fs₂)->r=.own (.am ck)->fs'={fs₁ with per:=fs₂.per}->G):G:=
 bG q (fun g bi q=>b5 q (fun items fs₁ M q=>cH q (fun hz q=>b5 q (fun ck fs₂ O q=>(E7 bi).elim fun px e=>ym q fun u v=>
  k g.1 px g.2.1 g.2.2 items fs₁ ck fs₂ e M (of_decide_eq_true (Bool.and_eq_true_iff.mp hz).1) (beq_iff_eq.mp (Bool.and_eq_true_iff.mp (Bool.and_eq_true_iff.mp hz).2).1) (Bool.and_eq_true_iff.mp (Bool.and_eq_true_iff.mp hz).2).2 O u v) Z) Z) Z) Z
theorem Cu (bl:jR CM bj F) (bA:K.f=F) (c4:gL w CM bj F k C) (bc:eh K k A) {b9:Scope->bk} {Rh:Option (Scope->bk)} (S:∀env J,cB w CM K env J A (b9 J)):cB w CM K env J A ⟨i1 C b9 J,sz b9 J,pO C b9 Rh J⟩ where
 a9:=fun e fs r fs' q ρ s I=>Kj bl.tonH bA c4 bc S q I
 dH:=fun e fs b fs' q ρ s I=>UA bl.tonH bA c4 bc S q I
 sj:=fun e p fs=>by show i1 C b9 J (.Starred e p) fs=none;exact Ka
 set:=fun es k p fs=>by show i1 C b9 J (.Set es k p) fs=none;exact Sr
theorem C1 (bl:jR CM bj F) (bA:K.f=F) (c4:gL w CM bj F k C) (bc:eh K k A) {b9:Scope->bk} {Rh:Option (Scope->bk)} (S:∀env J,cB w CM K env J A (b9 J)) (Hr:fL w CM K env J A (b9 J)) (bx:EZ w CM F k env J A Rh) (ec:∃hy,A.frames=some (env::hy)):
  fL w CM K env J A ⟨i1 C b9 J,sz b9 J,pO C b9 Rh J⟩ where
 tocB:=Cu bl bA c4 bc S
 dg:=fun ao fs ai fs' q aT a7 ρ s a3=>Ws bl bA c4 bc Hr bx ec q a3
 yN:=fun elt gens aX pos y jI o7 fs r fs' s3 qY q bn aT a7 ρ s a3=>by
  refine Fh q fun x px iter ifs items fs₁ ck fs₂ e M O Y aC bR ak ar=> ?_
  (replace bn:=ak▸bn;replace bn:=ar▸bn)
  rw [e] at qY|-
  exact R8 bl.tonH.totn.toxk.topE.tojS bA bc.eH (S env J) (fun eb=>S eb aX) qY M O Y aC bR bn a3
 xM:=fun elt gens aX pos fs r fs' q=>by
  exact Fh q fun x px iter ifs items fs₁ ck fs₂ e M O Y aC bR ak ar=>⟨_,ak⟩
 zi:=fun e g c p fs=>by show i1 C b9 J (.SetComp e g c p) fs=none;exact Qu
 yx:=fun e v g c p fs=>by show i1 C b9 J (.DictComp e v g c p) fs=none;exact PX
theorem Ha:cB w CM K env J A ⟨fun _ _=>none,fun _ _=>none,fun _ _=>none⟩ where
 a9:=fun e fs r fs' q=>by exact Z q
 dH:=fun e fs r fs' q=>by exact Z q
 sj:=fun _ _ _=>rfl
 set:=fun _ _ _ _=>rfl
theorem Cc:fL w CM K env J A ⟨fun _ _=>none,fun _ _=>none,fun _ _=>none⟩ where
 tocB:=Ha
 dg:=fun e fs r fs' q=>by exact Z q
 yN:=fun elt gens aX pos y jI o7 fs r fs' s3 qY q=>by exact Z q
 xM:=fun elt gens aX pos fs r fs' q=>by exact Z q
 zi:=fun _ _ _ _ _=>rfl
 yx:=fun _ _ _ _ _ _=>rfl
theorem Ds (bl:jR CM bj F) (bA:K.f=F) {b:Bool} (c4:gL w CM bj F k C) (bc:eh K k A) (n:Nat):∀env J,cB w CM K env J A (aJ b C CQ n J):=by
 induction n with
 |zero=>exact fun env J=>Ha
 |succ n ih=>exact fun env J=>Cu bl bA c4 bc ih
theorem Br (bl:jR CM bj F) (c4:gL w CM bj F k C) (n:Nat) {K A env J} (bA:K.f=F) (bc:eh K k A) (ec:∃hy,A.frames=some (env::hy)):fL w CM K env J A (aJ false C CQ n J):=by
 induction n with
 |zero=>exact Cc
 |succ n ih=>exact C1 (Rh:=none) bl bA c4 bc (Ds bl bA c4 bc n) ih trivial ec
theorem SL (bl:jR CM bj F) {j:Nat} (bF:j%2=0) (c4:gL w CM bj F (j+1) C) (SR:gL w CM bj F j CQ) (n:Nat) {K A env J} (bA:K.f=F) (bc:eh K (j+1) A) (ec:∃hy,A.frames=some (env::hy)):fL w CM K env J A (aJ true C CQ n J):=by
 induction n with
 |zero=>exact Cc
 |succ n ih=>exact C1 (Rh:=some (aJ false CQ CQ n)) bl bA c4 bc (Ds bl bA c4 bc n) ih ⟨j,rfl,bF,fun K' kg VK q7 e=>Br bl SR n VK q7 (by refine B e ?_;exact ec)⟩ ec
theorem F9 (bl:jR CM bj F) {b:Bool} {m:Nat} (m0:∀{K:Top} {A:Around} {env:Env} {J:Scope},K.f=F->eh K m A->(∃hy,A.frames=some (env::hy))->fL w CM K env J A (aJ b C CQ lA J)):
  gL w CM bj F (m+2) (fun f args per=>br (du f) fun ao=>jm b C CQ ao args per):=by
 intro f args per ai de q K A bA bc
 have uv:=bl.tonH.totn.toxk.topE.tojS.tos9.topP
 refine bG q (fun ao eO q=> ?_) Z
 refine dz (uv.rh f ao eO) ?_;intro a ob bL ak ar ro
 refine⟨a,ak,⟨ao,ob,bL,ar⟩,fun ρ s be ap hc ay=> ?_⟩
 refine PL lV uv bA bc ar ro q ap hc ay fun L env aW=> ?_
 refine bb bc.frames ?_;intro l lL hN
 have Cy:env.scope.kind≠.module/\env.frame=some env.locals:=by
  refine B aW ?_
  refine⟨?_,rfl⟩
  show bL.scope.kind≠.module
  (refine B ar.scope ?_;refine B ar.J.kind ?_);nofun
 have q7:eh {K with frames:=env.locals::K.frames} m (A.deeper env):=by
  refine⟨bc.eH,⟨env::l,Around.frames_deeper lL,fun e aW=> ?_⟩,?_,?_,fun z=>bc.xg (by exact Jd z)⟩
  ·rcases List.mem_cons.mp aW with rfl|aW
   ·exact⟨Cy.1,_,Cy.2,List.mem_cons_self⟩
   ·obtain⟨gj,L,gP,kc⟩:=hN e aW
    exact⟨gj,L,gP,List.mem_cons_of_mem _ kc⟩
  ·have:=bc.depth
   show A.depth+1+2*m+8<_
   exact JD this
  ·have:=bc.units
   show A.units+3+16*m+400<_
   exact Wg this
 exact m0 bA q7 ⟨l,Around.frames_deeper lL⟩
theorem z8 {b:Bool} {m:Nat}:gL w CM bj F m (aH b 0):=fun f args per ai de q=>by exact Z q
theorem K3 (bl:jR CM bj F) (n:Nat):gL w CM bj F (2*n) (aH false n):=by
 induction n with
 |zero=>exact z8
 |succ n ih=>exact F9 bl (m:=2*n) fun bA bc ec=>Br bl ih _ bA bc ec
theorem KS (bl:jR CM bj F) (n:Nat):gL w CM bj F (2*n+1) (aH true n):=by
 induction n with
 |zero=>exact z8
 |succ n ih=>exact F9 bl (m:=2*n+1) fun bA bc ec=>SL bl (Nat.mul_mod_right 2 n) ih (K3 bl n) _ bA bc ec
end
end Mine
end
section
open PySem PySem.W PySem.Calls PyProof.Rows
namespace Mine
section
noncomputable def s1:Nat->List Obj->Frag
 |_,[]=>[]
 |n,o::r=>(n,o)::s1 (n+1) r
noncomputable def di (P:Params):Frag:=s1 0 (Hd.oK P)
noncomputable def Rt (ob:Obj):FuncData:=match ob.data with
 |.func bL=>bL
 |_=>default
noncomputable def rE (J:Scope) (ps:List Str):Bool:=J.kind==.function&& !J.isGenerator&& !J.isCoroutine&&ps.all (fun x=>J.names.lookup x==some .local||J.names.lookup x==some .cell)&&decide ps.Nodup&&J.names.all (fun p=>p.2 !=.free)&&decide (J.names.map (·.1)).Nodup
theorem xF:∀{names:List (Str×NameKind)} {n:Nat} {cm:List (Str×Addr)} {x:Str},(cm.lookup x).isSome=true->((cellsFrom n names cm).lookup x).isSome=true
 |[],_,_,_,h=>h
 |(y,k)::r,n,cm,x,h=>by
  unfold cellsFrom
  split
  ·refine xF ?_
   refine B List.lookup_cons ?_
   split
   ·rfl
   ·exact h
  ·exact xF h
theorem CL:∀{names:List (Str×NameKind)} {n:Nat} {cm:List (Str×Addr)} {x:Str},names.lookup x=some .cell->((cellsFrom n names cm).lookup x).isSome=true
 |(y,k)::r,n,cm,x,h=>by
  rw [List.lookup_cons] at h
  unfold cellsFrom
  split at h
  ·rename_i q
   cases h
   refine B (if_pos (show(NameKind.cell==NameKind.cell)=true from rfl)) ?_
   refine xF ?_
   (refine B List.lookup_cons ?_;refine B q ?_);rfl
  ·split<;>exact CL h
theorem uA:∀{names:List (Str×NameKind)} {n:Nat} {cm:List (Str×Addr)} {x:Str} {c:Addr},(names.map (·.1)).Nodup->(cellsFrom n names cm).lookup x=some c->names.lookup x=some .cell\/cm.lookup x=some c
 |[],_,_,_,_,_,h=>.inr h
 |(y,k)::r,n,cm,x,c,aE,h=>by
  obtain⟨M,O⟩:=List.nodup_cons.mp aE
  unfold cellsFrom at h
  refine B List.lookup_cons ?_
  by_cases sG:x=y
  ·subst sG
   refine B (beq_self_eq_true _) ?_
   split at h
   ·rename_i ag
    left
    (refine B (beq_iff_eq.mp ag) ?_;rfl)
   ·rcases uA O h with q|q
    ·exact absurd (List.mem_map.mpr ⟨_,mem_of_lookup q,rfl⟩) M
    ·exact .inr q
  ·have ah:(x==y)=false:=by simpa using sG
   refine B ah ?_
   split at h
   ·rcases uA O h with q|q
    ·exact .inl q
    ·(rw [List.lookup_cons] at q;replace q:=ah▸q);exact .inr q
   ·exact uA O h
theorem Ip {J:Scope} {ps:List Str} (h:rE J ps=true):BL J ps:=by
 unfold rE at h
 simp only [Bool.and_eq_true,beq_iff_eq,Bool.not_eq_true',decide_eq_true_eq,List.all_eq_true,Bool.or_eq_true] at h
 obtain⟨⟨⟨⟨⟨⟨a,b⟩,c⟩,d⟩,e⟩,f⟩,g⟩:=h
 refine⟨a,b,c,d,e,fun x q=> ?_,fun n x q=>CL q,fun n x c q=> ?_⟩
 ·have:=f _ (mem_of_lookup q)
  simp at this
 ·rcases uA g q with q|q
  ·exact q
  ·cases q
theorem NG {bL:FuncData} {ps:List Str} (n:Nat) (aE:ps.length=n) (h:∀v:Nat->Value,bindArgs bL ⟨(List.range n).map v,[]⟩=pure (ps.zip ((List.range n).map v))):∀be:List Value,be.length=ps.length->bindArgs bL ⟨be,[]⟩=pure (ps.zip be):=fun be aq=>by
 have e:be=(List.range n).map fun i=>be.getD i .none:=by
  apply List.ext_getElem
  ·simp [aq,aE]
  ·intro i M O
   simp only [List.getElem_map,List.getElem_range]
   (refine B List.getD_eq_getElem?_getD ?_;refine B (List.getElem?_eq_getElem M) ?_);rfl
 refine B e ?_;exact h _
noncomputable def jP (P:Params) (a:Addr):Obj:=((di P).lookup a).getD default
noncomputable abbrev hI (P:Params) (a:Addr):FuncData:=Rt (jP P a)
noncomputable abbrev nu (P:Params) (ao:Stmt) (a:Addr):Prop:=ka (di P) ao a (jP P a) (hI P a)
noncomputable abbrev tO (P:Params) (ao:Stmt) (a:Addr) (d:Value):Prop:=((di P).lookup a,(jP P a).data,(hI P a).body,(hI P a).scope,(hI P a).globals,(hI P a).builtins,(hI P a).closure,codeIn (di P) (hI P a).code (hI P a).qualname,keepIn (di P) (.ref a),(hI P a).defaults)=(some (jP P a),.func (hI P a),.stmts (g5 ao),bO ao,mainGlobals,builtinsNs,[],true,true,d)
theorem wN {P:Params} {ao:Stmt} {a:Addr} {d:Value} (h:tO P ao a d) (hs:rE (bO ao) (params ao)=true) (ah:∀be:List Value,be.length=(params ao).length->d=.none->bindArgs (hI P a) ⟨be,[]⟩=pure ((params ao).zip be)):nu P ao a:=by
 simp only [tO,Prod.mk.injEq] at h
 obtain⟨M,O,Y,aC,bR,dK,f6,o6,q4,Of⟩:=h
 exact⟨M,O,Y,aC,bR,dK,f6,o6,q4,fun be aq hd=>ah be aq (Of▸hd),Ip hs⟩
theorem sd {P:Params} {ao:Stmt} {a:Addr} {d:Value} (n:Nat) (h:tO P ao a d) (hs:(rE (bO ao) (params ao)&&(params ao).length==n)=true) (ah:∀v:Nat->Value,bindArgs (hI P a) ⟨(List.range n).map v,[]⟩=pure ((params ao).zip ((List.range n).map v))):nu P ao a:=
 have q:=Bool.and_eq_true_iff.mp hs
 wN h q.1 fun be aq _=>NG n (beq_iff_eq.mp q.2) ah be aq
theorem Rb (P:Params):nu P (cG 9 0) 180:=sd (d:=.none) 2 (by kernel_rfl) (by decide+kernel) fun v=>by kernel_rfl
theorem M7 (P:Params):nu P (cG 12 0) 244:=sd (d:=.none) 3 (by kernel_rfl) (by decide+kernel) fun v=>by kernel_rfl
theorem P7 (P:Params):nu P (cG 22 0) 385:=sd (d:=.none) 3 (by kernel_rfl) (by decide+kernel) fun v=>by kernel_rfl
theorem IH (P:Params):nu P (cG 23 0) 406:=sd (d:=.none) 6 (by kernel_rfl) (by decide+kernel) fun v=>by kernel_rfl
theorem LW (P:Params):nu P (cG 18 0) 297:=wN (d:=.ref 290) (by kernel_rfl) (by decide+kernel) fun _ _ h=>nomatch h
theorem OV (P:Params):nu P (cG 2 0) 36:=wN (d:=.ref 29) (by kernel_rfl) (by decide+kernel) fun _ _ h=>nomatch h
noncomputable def F5:List (Str×Addr):=[(o "Reference.pair",251),(o "kind_of",265),(o "told_plain",272),(o "told",277),(o "told_objects",277),(o "copied",282),(o "Lookup.fetch",304),(o "Lookup.get",311),(o "Shelf.put",332),(o "Shelf.add",339),(o "Shelf.numbers",353),(o "Shelf.root",360),(o "Shelf.told",365),(o "turned",420),(o "home_of",427),(o "is_node",434),(o "kids_of",441),(o "met",448),(o "spots",455),(o "fields_of",462),(o "page_spots",467),(o "pages",472),(o "page_count",479),(o "is_count",486),(o "page_at",493),(o "kid_with",500),(o "counts_of",507),(o "is_parent",514),(o "page_faults",521),(o "settle",528),(o "lay",535),(o "grouped",540),(o "build_pages",545),(o "place_of",550),(o "kid_index",555),(o "put_reference",562),(o "insert_page",569),(o "_law_pen",574),(o "_law_draw",581),(o "_law_page",595),(o "_law_seen",600),(o "_law_refused",607),(o "law",612)]
noncomputable def bj:dM:=fun x=>F5.lookup x
noncomputable def mL (p:Str×(Nat×Option Nat)):Stmt:=match p.2.2 with|none=>aI p.2.1|some j=>cG p.2.1 j
noncomputable def zw (P:Params) (p:Str×(Nat×Option Nat)):Prop:=∃a ob bL,bj p.1=some a/\ka (di P) (mL p) a ob bL/\bL.defaults=.none
theorem row {P:Params} {p:Str×(Nat×Option Nat)} (a n:Nat) (h:tO P (mL p) a .none) (M:bj p.1=some a) (hs:(rE (bO (mL p)) (params (mL p))&&(params (mL p)).length==n)=true) (ah:∀v:Nat->Value,bindArgs (hI P a) ⟨(List.range n).map v,[]⟩=pure ((params (mL p)).zip ((List.range n).map v))):zw P p:=⟨a,jP P a,hI P a,M,sd n h hs ah,(Prod.mk.inj (Prod.mk.inj (Prod.mk.inj (Prod.mk.inj (Prod.mk.inj (Prod.mk.inj (Prod.mk.inj (Prod.mk.inj (Prod.mk.inj h).2).2).2).2).2).2).2).2).2⟩
noncomputable def oe {α:Type} (Q:α->Prop):List α->Prop
 |[]=>True
 |a::r=>Q a/\oe Q r
theorem oe.c {α:Type} {Q:α->Prop} {a:α} {r:List α} (h:Q a) (k:oe Q r):oe Q (a::r):=⟨h,k⟩
theorem oe.mem {α:Type} {Q:α->Prop} {l:List α} (h:oe Q l):∀a∈l,Q a:=by
 induction l with
 |nil=>exact fun a q=>nomatch q
 |cons b r ih=>exact fun a q=>(List.mem_cons.mp q).elim (fun e=>e▸h.1) (ih h.2 a)
theorem Yj (P:Params):∀p∈rU,zw P p:=oe.mem (Q:=zw P) (l:=rU)<|
 .c (row 251 1 (by kernel_rfl) (by kernel_rfl) (by decide+kernel) fun v=>by kernel_rfl)<|
 .c (row 265 1 (by kernel_rfl) (by kernel_rfl) (by decide+kernel) fun v=>by kernel_rfl)<|
 .c (row 272 2 (by kernel_rfl) (by kernel_rfl) (by decide+kernel) fun v=>by kernel_rfl)<|
 .c (row 277 1 (by kernel_rfl) (by kernel_rfl) (by decide+kernel) fun v=>by kernel_rfl)<|
 .c (row 277 1 (by kernel_rfl) (by kernel_rfl) (by decide+kernel) fun v=>by kernel_rfl)<|
 .c (row 282 1 (by kernel_rfl) (by kernel_rfl) (by decide+kernel) fun v=>by kernel_rfl)<|
 .c (row 304 2 (by kernel_rfl) (by kernel_rfl) (by decide+kernel) fun v=>by kernel_rfl)<|
 .c (row 311 3 (by kernel_rfl) (by kernel_rfl) (by decide+kernel) fun v=>by kernel_rfl)<|
 .c (row 332 4 (by kernel_rfl) (by kernel_rfl) (by decide+kernel) fun v=>by kernel_rfl)<|
 .c (row 339 2 (by kernel_rfl) (by kernel_rfl) (by decide+kernel) fun v=>by kernel_rfl)<|
 .c (row 353 1 (by kernel_rfl) (by kernel_rfl) (by decide+kernel) fun v=>by kernel_rfl)<|
 .c (row 360 1 (by kernel_rfl) (by kernel_rfl) (by decide+kernel) fun v=>by kernel_rfl)<|
 .c (row 365 1 (by kernel_rfl) (by kernel_rfl) (by decide+kernel) fun v=>by kernel_rfl)<|
 .c (row 420 2 (by kernel_rfl) (by kernel_rfl) (by decide+kernel) fun v=>by kernel_rfl)<|
 .c (row 427 2 (by kernel_rfl) (by kernel_rfl) (by decide+kernel) fun v=>by kernel_rfl)<|
 .c (row 434 2 (by kernel_rfl) (by kernel_rfl) (by decide+kernel) fun v=>by kernel_rfl)<|
 .c (row 441 2 (by kernel_rfl) (by kernel_rfl) (by decide+kernel) fun v=>by kernel_rfl)<|
 .c (row 448 4 (by kernel_rfl) (by kernel_rfl) (by decide+kernel) fun v=>by kernel_rfl)<|
 .c (row 455 1 (by kernel_rfl) (by kernel_rfl) (by decide+kernel) fun v=>by kernel_rfl)<|
 .c (row 462 2 (by kernel_rfl) (by kernel_rfl) (by decide+kernel) fun v=>by kernel_rfl)<|
 .c (row 467 1 (by kernel_rfl) (by kernel_rfl) (by decide+kernel) fun v=>by kernel_rfl)<|
 .c (row 472 1 (by kernel_rfl) (by kernel_rfl) (by decide+kernel) fun v=>by kernel_rfl)<|
 .c (row 479 1 (by kernel_rfl) (by kernel_rfl) (by decide+kernel) fun v=>by kernel_rfl)<|
 .c (row 486 1 (by kernel_rfl) (by kernel_rfl) (by decide+kernel) fun v=>by kernel_rfl)<|
 .c (row 493 2 (by kernel_rfl) (by kernel_rfl) (by decide+kernel) fun v=>by kernel_rfl)<|
 .c (row 500 3 (by kernel_rfl) (by kernel_rfl) (by decide+kernel) fun v=>by kernel_rfl)<|
 .c (row 507 1 (by kernel_rfl) (by kernel_rfl) (by decide+kernel) fun v=>by kernel_rfl)<|
 .c (row 514 1 (by kernel_rfl) (by kernel_rfl) (by decide+kernel) fun v=>by kernel_rfl)<|
 .c (row 521 1 (by kernel_rfl) (by kernel_rfl) (by decide+kernel) fun v=>by kernel_rfl)<|
 .c (row 528 1 (by kernel_rfl) (by kernel_rfl) (by decide+kernel) fun v=>by kernel_rfl)<|
 .c (row 535 3 (by kernel_rfl) (by kernel_rfl) (by decide+kernel) fun v=>by kernel_rfl)<|
 .c (row 540 2 (by kernel_rfl) (by kernel_rfl) (by decide+kernel) fun v=>by kernel_rfl)<|
 .c (row 545 3 (by kernel_rfl) (by kernel_rfl) (by decide+kernel) fun v=>by kernel_rfl)<|
 .c (row 550 2 (by kernel_rfl) (by kernel_rfl) (by decide+kernel) fun v=>by kernel_rfl)<|
 .c (row 555 3 (by kernel_rfl) (by kernel_rfl) (by decide+kernel) fun v=>by kernel_rfl)<|
 .c (row 562 3 (by kernel_rfl) (by kernel_rfl) (by decide+kernel) fun v=>by kernel_rfl)<|
 .c (row 569 3 (by kernel_rfl) (by kernel_rfl) (by decide+kernel) fun v=>by kernel_rfl)<|
 .c (row 574 1 (by kernel_rfl) (by kernel_rfl) (by decide+kernel) fun v=>by kernel_rfl)<|
 .c (row 581 2 (by kernel_rfl) (by kernel_rfl) (by decide+kernel) fun v=>by kernel_rfl)<|
 .c (row 595 2 (by kernel_rfl) (by kernel_rfl) (by decide+kernel) fun v=>by kernel_rfl)<|
 .c (row 600 1 (by kernel_rfl) (by kernel_rfl) (by decide+kernel) fun v=>by kernel_rfl)<|
 .c (row 607 2 (by kernel_rfl) (by kernel_rfl) (by decide+kernel) fun v=>by kernel_rfl)<|
 .c (row 612 1 (by kernel_rfl) (by kernel_rfl) (by decide+kernel) fun v=>by kernel_rfl)<|
 trivial
end
end Mine
end
section
open PySem PySem.W PySem.Calls PyProof.Rows
namespace Mine
section
noncomputable def uD:List (Str×Addr):=[(o "TreeFault",59),(o "Decimal",155),(o "Name",183),(o "String",205),(o "Stream",226),(o "Reference",254),(o "Shelf",368),(o "Page",388),(o "Spot",409)]
noncomputable def CM:cn:=fun c=>uD.lookup c
theorem pF {α d6:Type} [BEq α] [LawfulBEq α] {x:α} {y:d6}:∀{l:List (α×d6)},l.lookup x=some y->(x,y)∈l
 |[],h=>by cases h
 |(a,b)::l,h=>by
  rw [List.lookup_cons] at h
  split at h
  ·rename_i e
   cases h
   refine B (beq_iff_eq.mp e) ?_;exact List.mem_cons_self
  ·exact List.mem_cons_of_mem _ (pF h)
noncomputable def wR (c:Str):List Str:=(jz c).getD []++(if c=("Shelf":Str) then [o "table",o "trailer"] else [])
theorem Iu {c a:Str} (h:pW c a=true):a∈wR c:=by
 unfold pW at h
 unfold wR
 split at h
 ·rename_i l e
  refine B e ?_
  exact List.mem_append_left _ (by simpa using h)
 ·simp only [Bool.and_eq_true,decide_eq_true_eq,Bool.or_eq_true] at h
  refine B (if_pos h.1) ?_
  refine List.mem_append_right _ ?_
  rcases h.2 with q|q
  ·refine B q ?_;exact List.mem_cons_self
  ·refine B q ?_;exact List.mem_cons_of_mem _ List.mem_cons_self
theorem X3 (P:Params):(uD.all fun p=>(wR p.1).all fun a=>hasDictIn (di P) p.2&&plainGet (di P) p.2 a&&(match findIn (di P) (.ref p.2) a with|some nx=>noGet (di P) nx|none=>false))=true:=by kernel_rfl
theorem Na (P:Params):y7 CM (di P) where
 sx:=fun c C a M O=>by
  have h:=List.all_eq_true.mp (List.all_eq_true.mp (X3 P) _ (pF M)) a (Iu O)
  simp only [Bool.and_eq_true] at h
  obtain⟨⟨Y,aC⟩,bR⟩:=h
  split at bR
  ·rename_i nx e
   exact⟨Y,aC,nx,e,bR⟩
  ·cases bR
theorem X5 {x:Str} {ao:Stmt} (h:du x=some ao):∃p∈rU,p.1=x/\mL p=ao:=by
 unfold du at h
 obtain⟨p,M,O⟩:=Option.map_eq_some_iff.mp h
 refine⟨(x,p),pF M,rfl,?_⟩
 refine bu O ?_
 unfold mL
 obtain⟨i,j⟩:=p
 cases j<;>rfl
theorem JX (P:Params):pP CM bj (di P) where
 toy7:=Na P
 rH:=⟨((di P).lookup sysModules).getD default,by kernel_rfl⟩
 sb:=fun h av=>⟨h.nsMap cStatics,.of_isNs (isNs_of_in av (by kernel_rfl)),nsMap_none_of_in av (by kernel_rfl) (by kernel_rfl)⟩
 rh:=fun x ao h=>by
  obtain⟨p,M,rfl,rfl⟩:=X5 h
  exact Yj P p M
theorem TN (P:Params):(F5.all fun p=> !j0 p.1||hF (di P) p.1==some (.ref p.2))=true:=by kernel_rfl
theorem Le (P:Params):s9 CM bj (di P) where
 topP:=JX P
 AC:=fun x a M O=>by
  have h:=List.all_eq_true.mp (TN P) _ (pF M)
  simp only [O,Bool.not_true,Bool.false_or,beq_iff_eq] at h
  exact h
theorem IG (P:Params):((["len","abs","sum","sorted","min","isinstance"]:List String).all fun f=>hF (di P) (Str.ofString f)==some (.builtin f))=true:=by kernel_rfl
theorem WY (P:Params):((["int","tuple","dict","range","reversed","bool","list"]:List String).all fun f=>hF (di P) (Str.ofString f)==some (.type f))=true:=by kernel_rfl
theorem IE (P:Params):jS CM bj (di P) where
 tos9:=Le P
 l6:=fun f h=>beq_iff_eq.mp (List.all_eq_true.mp (IG P) f h)
 vo:=fun f h=>beq_iff_eq.mp (List.all_eq_true.mp (WY P) f h)
noncomputable def rK:List Str:=rn++hJ
theorem zQ {c:Str} {eJ:Value} (h:jg CM c=some eJ):c∈rK:=by
 unfold jg at h
 unfold rK
 split at h
 ·rename_i q;exact List.mem_append_left _ (by simpa using q)
 ·split at h
  ·rename_i q;exact List.mem_append_right _ (by simpa using q)
  ·cases h
theorem Ke (P:Params):((["NoneType","bool","int","str","list","dict","tuple"]:List String).all fun T=>rK.all fun c=>match jg CM c with|some eJ=>kitOne (di P) (.type T) eJ==some (v0 T c)|none=>true)=true:=by kernel_rfl
theorem Vf (P:Params):(uD.all fun p=> !(decide (p.1=("Shelf":Str))||hJ.contains p.1)||rK.all fun c=>match jg CM c with|some eJ=>kitOne (di P) (.ref p.2) eJ==some (decide (c=p.1))|none=>true)=true:=by kernel_rfl
theorem X9 (P:Params):(uD.all fun p=> !(decide (p.1=("Shelf":Str))||hJ.contains p.1)||(plainGet (di P) p.2 "__class__"&&hasDictIn (di P) p.2&&findIn (di P) (.ref p.2) "__class__"==some (some (.builtin "object.__class__"))&&mroIn (di P) p.2 (.type "object")==some true))=true:=by kernel_rfl
theorem Q9:(hJ.all fun c=>(CM c).isSome)=true:=by decide+kernel
theorem RO (P:Params):(rK.all fun c=>match jg CM c with|some eJ=>hF (di P) c==some eJ|none=>true)=true:=by kernel_rfl
theorem O1 (P:Params):pE CM bj (di P) where
 tojS:=IE P
 kH:=fun T gQ c eJ h=>by
  have:=List.all_eq_true.mp (List.all_eq_true.mp (Ke P) T gQ) c (zQ h)
  replace this:=h▸this
  exact beq_iff_eq.mp this
 rR:=fun d D c eJ M O Y=>by
  have:=List.all_eq_true.mp (Vf P) _ (pF M)
  have e:(decide (d=("Shelf":Str))||hJ.contains d)=true:=by
   rcases O with q|q
   ·refine B (decide_eq_true q) ?_;rfl
   ·(refine B q ?_;refine B (Bool.or_true _) ?_;rfl)
  replace this:=e▸this
  have:=List.all_eq_true.mp this c (zQ Y)
  replace this:=Y▸this
  exact beq_iff_eq.mp this
 AI:=fun d D M O=>by
  have:=List.all_eq_true.mp (X9 P) _ (pF M)
  have e:(decide (d=("Shelf":Str))||hJ.contains d)=true:=by
   rcases O with q|q
   ·refine B (decide_eq_true q) ?_;rfl
   ·(refine B q ?_;refine B (Bool.or_true _) ?_;rfl)
  replace this:=e▸this
  simp only [Bool.not_true,Bool.false_or,Bool.and_eq_true,beq_iff_eq] at this
  exact⟨this.1.1.1,this.1.1.2,this.1.2,this.2⟩
 zY:=⟨by kernel_rfl,by kernel_rfl⟩
 cls:=fun c h=>Option.isSome_iff_exists.mp (List.all_eq_true.mp Q9 c (by simpa using h))
 FU:=fun c eJ h=>by
  have:=List.all_eq_true.mp (RO P) c (zQ h)
  replace this:=h▸this
  exact beq_iff_eq.mp this
end
end Mine
end
section
open PySem PySem.W PySem.Calls PyProof.Rows
namespace Mine
section
noncomputable def Gp (F:Frag) (C:Addr) (names:List Str) (fI:Addr):Bool:=makesIn F C&&findIn F (.ref C) "__setattr__"==some (some (.builtin "object.__setattr__"))&&plainOver F C&&hasDictIn F C&&
 names.all (fun n=>takerIn F C n==some none)&&findIn F (.ref C) "__init__"==some (some (.ref fI))&&typeIn F (.ref fI)==some (.type "function")&&keepIn F (.ref C)&&decide names.Nodup&&decide (names.length<900)&&names.all (fun n=> !(n==("__debug__":Str)))
theorem uX {F:Frag} {C:Addr} {names:List Str} {fI:Addr} {ao:Stmt} {ob:Obj} {bL:FuncData} (h:Gp F C names fI=true) (bU:ka F ao fI ob bL) (hd:bL.defaults=.none) (an:params ao=("self":Str)::names) (ah:u8 names (g5 ao)):oH F C names:=by
 unfold Gp at h
 simp only [Bool.and_eq_true,beq_iff_eq,decide_eq_true_eq,List.all_eq_true,Bool.not_eq_true'] at h
 obtain⟨⟨⟨⟨⟨⟨⟨⟨⟨⟨a,b⟩,c⟩,d⟩,e⟩,f⟩,g⟩,i⟩,j⟩,k⟩,l⟩:=h
 exact⟨a,⟨b,c,d⟩,e,⟨ao,fI,ob,bL,f,g,bU,hd,an,ah⟩,i,j,k,l⟩
theorem J0 (P:Params):oH (di P) 183 ["text"]:=uX (fI:=180) (by kernel_rfl) (Rb P) (by kernel_rfl) (by decide+kernel) ⟨_,_,_,_,_,rfl,rfl⟩
theorem VX (P:Params):oH (di P) 254 ["number","generation"]:=uX (fI:=244) (by kernel_rfl) (M7 P) (by kernel_rfl) (by decide+kernel) ⟨_,_,_,_,_,rfl,⟨_,_,_,_,_,rfl,rfl⟩⟩
theorem Vo (P:Params):oH (di P) 388 ["reference","fields"]:=uX (fI:=385) (by kernel_rfl) (P7 P) (by kernel_rfl) (by decide+kernel) ⟨_,_,_,_,_,rfl,⟨_,_,_,_,_,rfl,rfl⟩⟩
theorem N9 (P:Params):oH (di P) 409 ["reference","head","above","inherited","is_page"]:=uX (fI:=406) (by kernel_rfl) (IH P) (by kernel_rfl) (by decide+kernel) ⟨_,_,_,_,_,rfl,⟨_,_,_,_,_,rfl,⟨_,_,_,_,_,rfl,⟨_,_,_,_,_,rfl,⟨_,_,_,_,_,rfl,rfl⟩⟩⟩⟩⟩
theorem MP (P:Params):xk CM bj (di P) where
 topE:=O1 P
 AO:=fun c names h=>by
  unfold jz at h
  split at h
  ·rename_i e;subst e;cases h;exact⟨183,by kernel_rfl,by kernel_rfl,J0 P,by decide+kernel⟩
  ·split at h
   ·rename_i e;subst e;cases h;exact⟨254,by kernel_rfl,by kernel_rfl,VX P,by decide+kernel⟩
   ·split at h
    ·rename_i e;subst e;cases h;exact⟨388,by kernel_rfl,by kernel_rfl,Vo P,by decide+kernel⟩
    ·split at h
     ·rename_i e;subst e;cases h;exact⟨409,by kernel_rfl,by kernel_rfl,N9 P,by decide+kernel⟩
     ·cases h
noncomputable def wx:List (Str×Str×Str):=[(o "Reference",o "pair",o "Reference.pair"),(o "Shelf",o "fetch",o "Lookup.fetch"),(o "Shelf",o "get",o "Lookup.get"),(o "Shelf",o "put",o "Shelf.put"),(o "Shelf",o "add",o "Shelf.add"),(o "Shelf",o "numbers",o "Shelf.numbers"),(o "Shelf",o "root",o "Shelf.root"),(o "Shelf",o "told",o "Shelf.told")]
theorem XA {c m f:Str} (h:pU c m=some f):(c,m,f)∈wx:=by
 unfold pU at h
 unfold wx
 split at h
 ·rename_i e
  subst e
  split at h
  ·rename_i e;subst e;cases h;exact List.mem_cons_self
  ·cases h
 ·split at h
  ·rename_i e
   subst e
   split at h
   ·rename_i e;subst e;cases h;decide+kernel
   split at h
   ·rename_i e;subst e;cases h;decide+kernel
   split at h
   ·rename_i e;subst e;cases h;decide+kernel
   split at h
   ·rename_i e;subst e;cases h;decide+kernel
   split at h
   ·rename_i e;subst e;cases h;decide+kernel
   split at h
   ·rename_i e;subst e;cases h;decide+kernel
   split at h
   ·rename_i e;subst e;cases h;decide+kernel
   cases h
  ·cases h
theorem WR (P:Params):(wx.all fun p=>match CM p.1 with
 |some C=>findIn (di P) (.ref C) "__getattribute__"==some (some (.builtin "object.__getattribute__"))&&findIn (di P) (.ref C) "__getattr__"==some none&&(match bj p.2.2 with
  |some a=>findIn (di P) (.ref C) p.2.1==some (some (.ref a))&&typeIn (di P) (.ref a)==some (.type "function")
  |none=>false)
 |none=>true)=true:=by kernel_rfl
theorem Yp (P:Params):wl (di P) 368 where
 tm:=by kernel_rfl
 ao:=⟨by kernel_rfl,by kernel_rfl,by kernel_rfl⟩
 tk:=⟨by kernel_rfl,by kernel_rfl⟩
 init:=by
  refine⟨cG 18 0,297,jP P 297,hI P 297,_,_,by kernel_rfl,by kernel_rfl,LW P,by decide+kernel,rfl,⟨_,_,_,_,_,_,_,_,_,_,rfl⟩,⟨_,_,_,_,_,_,_,_,_,_,rfl⟩,fun s av v=> ?_⟩
  refine BindsTo.of_defaults (T:=290) (o:=((di P).lookup 290).getD default) (items:= #[.none,.none]) (n:=0) (by kernel_rfl) (av _ _ (by kernel_rfl)) (by kernel_rfl) rfl (by kernel_rfl)
 keep:=by kernel_rfl
theorem KM (P:Params):tn CM bj (di P) where
 toxk:=MP P
 EQ:=fun c m f C M O=>by
  have h:=List.all_eq_true.mp (WR P) _ (XA M)
  dsimp only at h
  replace h:=O▸h
  dsimp only at h
  simp only [Bool.and_eq_true,beq_iff_eq] at h
  obtain⟨⟨Y,aC⟩,bR⟩:=h
  split at bR
  ·rename_i a e
   simp only [Bool.and_eq_true,beq_iff_eq] at bR
   exact⟨Y,aC,a,e,bR.1,bR.2⟩
  ·cases bR
 CT:=⟨368,by kernel_rfl,by kernel_rfl,Yp P⟩
end
end Mine
end
section
open PySem PySem.W PySem.Calls PyProof.Rows
namespace Mine
section
theorem Pj (P:Params):lZ (di P) 59 46 where
 gy:=⟨o "TreeFault",o "TreeFault",58,[.ref 46],[],[],false,none,none,some (.ref 50),none,some (.str (o "TreeFault") 236),some (.str (o "TreeFault") 244),some (.bool true),by kernel_rfl⟩
 sa:=by kernel_rfl
theorem HX (P:Params):xL (di P) 59 where
 name:=by kernel_rfl
 dA:=by kernel_rfl
 Hg:=by kernel_rfl
 Hk:=by kernel_rfl
 cls:=⟨46,Pj P⟩
 Gq:=by
  refine⟨36,jP P 36,hI P 36,209,by kernel_rfl,OV P,by kernel_rfl,fun s av v u=> ?_⟩
  refine BindsTo.of_defaults (T:=29) (o:=((di P).lookup 29).getD default) (items:= #[.int (-1) 209]) (n:=0) (by kernel_rfl) (av _ _ (by kernel_rfl)) (by kernel_rfl) rfl (by kernel_rfl)
theorem Im (P:Params):jR CM bj (di P) where
 totn:=KM P
 inh:=⟨371,0,654,655,656,657,by kernel_rfl,by kernel_rfl⟩
 Fl:=⟨377,by kernel_rfl⟩
 xI:=⟨59,by kernel_rfl,HX P⟩
end
end Mine
end
section
open PySem PySem.W PySem.Calls PyProof.Rows
namespace Mine
section
variable{w:World}
theorem Ox {P:Params} {h:Heap} (dv:∀a x,(Hd.f5 P).get? a=some x->h.get? a=some x):(di P).In h:=by
 intro a x e
 refine dv a x ?_
 have key:∀(a:Nat) (l:List Obj) (n:Nat),(s1 n l).lookup a=some x->n<=a/\l[a-n]? =some x:=by
  intro a l
  induction l with
  |nil=>intro n h;cases h
  |cons o r ih=>
   intro n h
   unfold s1 at h
   rw [List.lookup_cons] at h
   split at h
   ·rename_i q
    have q:=beq_iff_eq.mp q
    cases h
    subst q
    exact⟨Nat.le_refl _,by simp⟩
   ·obtain⟨M,O⟩:=ih (n+1) h
    refine⟨by exact VU M,?_⟩
    have:a-n=(a-(n+1))+1:=by exact gj M
    refine B this ?_;exact O
 obtain⟨-,O⟩:=key _ _ _ e
 replace O:=(Nat.sub_zero _)▸O
 rw [Heap.get?_some_iff]
 refine⟨by show(Array.mk (Hd.oK P))[a]? =_;refine B List.getElem?_toArray ?_;exact O,?_⟩
 have aY:x∈Hd.oK P:=List.mem_of_getElem? O
 have t2:(Hd.oK P).all (fun o=> !o.isFreed)=true:=by kernel_rfl
 simpa using List.all_eq_true.mp t2 x aY
open Classical in
noncomputable def lP (h:Heap):a5:=fun a=>match h.get? a with
 |some ob=>.bf ob
 |none=>.free
theorem ux {h:Heap} {a:Addr} {ob:Obj}:lP h a=.bf ob↔h.get? a=some ob:=by
 unfold lP
 split
 ·rename_i o e;refine B e ?_;simp
 ·rename_i e;refine B e ?_;simp
theorem H3 (h:Heap):iJ (lP h):=fun a=>by
 unfold lP
 split<;>exact⟨fun _ q=>(nomatch q),fun q=>(nomatch q),fun q=>(nomatch q)⟩
noncomputable def wA (P:Params):Top:=⟨di P,none,[]⟩
theorem Me {s:Shared} (av:(di w.params).In s.heap):cK w CM (wA w.params) (lP s.heap) s [] where
 fW:=fun a x e=>ux.mpr (av a x e)
 ft:=fun a x e=>by cases e
 fi:=fun a e=>by cases e
 bK:=fun a ob e=>ux.mp e
 c2:=fun a=>by unfold lP;split<;>simp [*]
 gx:=fun k h=>by cases h
 fU:=fun a k e=>by unfold lP at e;split at e<;>cases e
 inj:=fun a b k e=>by unfold lP at e;split at e<;>cases e
theorem IZ (P:Params):eh (wA P) (2*20+1) callerA:=⟨rfl,⟨[],rfl,fun e h=>by cases h⟩,by decide,by decide+kernel,fun _=>rfl⟩
theorem Pt (P:Params):bj (o "law")=some 612:=by kernel_rfl
theorem PJ {ρ:a5} {h:Heap} {P:Params} (ns:List Int):∀{vs:List Value},WellAll P h vs (ns.map .int)->a8 w CM ρ (ns.map .int) vs:=by
 induction ns with
 |nil=>intro vs h;cases h;exact a8.nil
 |cons n r ih=>
  intro vs h
  obtain⟨v,Ig,e,M,O⟩:=wellAll_cons_inv h
  refine B e ?_
  cases M
  exact a8.cons ⟨_,rfl⟩ (ih O)
theorem W8 (an:∀ns:List Int,ns.length<=63->∃per,aH true 20 "law" [.am (ns.map .int)] []=some (.ret (.U (.bool true)),per)) {s:Shared} (av:(di w.params).In s.heap) {ns:List Int} (aE:ns.length<=63) {l:Addr} {vs:List Value}
  (aq:s.heap.get? l=some {cls:=.type "list",data:=.seq vs.toArray}) (ay:WellAll w.params s.heap vs (ns.map .int)) {E:Value->Shared->Prop} {Q:Value->Shared->Prop}
  (h:∀h' tk,(∀b o,s.heap.get? b=some o->h'.get? b=some o)->Q (.bool true) {s with heap:=h',toks:=tk}):
  wpAny (model aw w) callerA (call (.ref 612) [.ref l]) Q E s:=by
 obtain⟨per,aA⟩:=an ns aE
 refine bT (KS (w:=w) (Im w.params) 20 _ _ _ _ _ aA (wA w.params) callerA rfl (IZ _)) ?_;intro a c4
 have e:a=612:=Option.some.inj (c4.zr.symm.trans (Pt w.params))
 subst e
 refine wpAny_mono (c4.wp (lP s.heap) s [.ref l] (Me av) (H3 _) (a8.cons ⟨l,vs,0,rfl,ux.mpr aq,PJ _ ay⟩ a8.nil)) (fun v az P=> ?_) fun e az P=>nomatch P.1
 obtain⟨ρ',lJ,eX,_,aP⟩:=P
 refine B (show v=.bool true from aP) ?_
 obtain⟨h',tk,e⟩:=eX.ao
 subst e
 exact h h' tk fun b o e=>lJ.bK _ _ (eX.bK _ _ (ux.mpr e))
end
end Mine
end
section
open PySem PySem.W PySem.Calls PyProof.Rows
namespace Mine
noncomputable abbrev jL:OpenRow:=PySem.Challenge.rw_og0185_01.row
noncomputable def jd:DefRec×List (Str×Expr):=match defOf Hd.q (o "law") with
 |some p=>p
 |none=>(⟨o "",default,[],default,default⟩,[])
theorem Ly:defOf Hd.q jL.name=some (jd.1,jd.2):=by kernel_rfl
theorem LM:jL.prog.theDef jL.name=some (jd.1.params,jd.1.body,jd.1.scope):=by kernel_rfl
theorem jW:kwWritten? jd.1.params.kwonlyargs jd.1.params.kw_defaults=some jd.2:=by kernel_rfl
theorem HY:(chainsOk Hd.q&&opensWell jL.prog&&(frees jL.toRowW&&jL.within.isEmpty))=true:=by decide+kernel
theorem X2:jL.prog.bare:=⟨rfl,rfl,rfl,rfl,rfl,by decide+kernel⟩
theorem VN:jL.toRowW.promised:=⟨[.list []],by decide+kernel,by decide+kernel⟩
theorem TV:jd.1.name=o "law":=by kernel_rfl
theorem d2 {a b:Bool} (x:a=true) (y:b=true):(a&&b)=true:=by rw [x,y];rfl
noncomputable abbrev pv:OpenLaw:=PySem.Challenge.rw_og0185_01
noncomputable abbrev gJ:Program:=pv.row.prog
theorem Pk:readsOut gJ gJ.main.body "vars"=false:=by decide+kernel
theorem IS:readsOut gJ gJ.main.body "dir"=false:=by decide+kernel
theorem Xg:readsOut gJ gJ.main.body "locals"=false:=by decide+kernel
theorem R6:(["vars","dir","locals"]:List Str).filter (readsOut gJ gJ.main.body)=[]:=by rw [List.filter_cons_of_neg (ne_true_of_eq_false Pk),List.filter_cons_of_neg (ne_true_of_eq_false IS),List.filter_cons_of_neg (ne_true_of_eq_false Xg)];rfl
noncomputable abbrev lk (b:List Str):Look:={strict:= !(importedModules gJ.main.body).all cThrough.contains,foot:=none,bare:=b}
theorem Jk:noRoadLSs (lk []) gJ.main.body=true:=by decide+kernel
theorem WA:noRoadLSs (lk ((["vars","dir","locals"]:List Str).filter (readsOut gJ gJ.main.body))) gJ.main.body=true:=(congrArg (fun b=>noRoadLSs (lk b) gJ.main.body) R6).trans Jk
theorem QX:namesResolve gJ=true:=by decide+kernel
theorem W5:(namesMeet gJ gJ.main.body fun _ n=>attrL n)=true:=by decide+kernel
theorem WB:looksOpen gJ=true:=d2 (d2 (d2 (d2 (by decide+kernel) QX) (by decide+kernel)) WA) W5
theorem UT:pv.row.partSaid=true:=d2 (d2 (d2 (d2 (d2 (d2 (d2 (d2 (d2 (d2 (d2 (d2 (d2 WB (by decide+kernel)) (by decide+kernel)) (by decide+kernel)) (by decide+kernel)) (by decide+kernel)) (by decide+kernel)) (by decide+kernel)) (by decide+kernel)) (by decide+kernel)) (by decide+kernel)) (by decide+kernel)) (by decide+kernel)) (by decide+kernel)
theorem H8:(pv.bound'.all fun n=> !builtinNamed n||pv.about==[n]|| !pv.reads n)=true:=by decide+kernel
theorem MW:pv.wellSaid=true:=by
 refine d2 (d2 (d2 (d2 (d2 (d2 (d2 (d2 (d2 (d2 (d2 (d2 (d2 (d2 (d2 (d2 (d2 (d2 (d2 (d2 UT ?_) ?_) ?_) ?_) ?_) ?_) ?_) ?_) ?_) ?_) H8) ?_) ?_) ?_) ?_) ?_) ?_) ?_) ?_) ?_<;>decide+kernel
theorem L8 (call:WalkO Hd.q Hd.loose (XL Hd.q []) (Hook.says Hd.lz) jL.toRowW jd.1 jd.2 fun f vs=>PySem.call f vs):PySem.Challenge.rw_og0185_01.Holds:=by
 refine holds_law MW fun Yx=> ?_
 exact PySem.W.holds_open (q:=Hd.q) (loose:=Hd.loose) (Xt:=fun s=>xlAt Hd.q [] s&&recOk [] s) (XP:=XL Hd.q []) (Yf:=Hook.obs Hd.lz) (Ya:=Hook.val Hd.lz) (YP:=Hook.says Hd.lz) (N:=8766) Hd.left (Hook.of Hd.lz) (Hook.keeps Hd.lz)
  (fun s e=>xl_of s (Bool.and_eq_true_iff.mp e).1) XL.keeps Ly LM jW (fun s e=>recFacts_of (Bool.and_eq_true_iff.mp e).2) (by rfl) (by assumption) HY X2 VN call
end Mine
end
section
open PySem PySem.W PySem.Calls PyProof.Rows
namespace Mine
theorem ints_of:∀{xs:List WData},WShape.hasItems [] xs .int=true->∃ns:List Int,xs=ns.map WData.int
 |[],_=>⟨[],rfl⟩
 |x::r,h=>by
  simp only [WShape.hasItems,Bool.and_eq_true] at h
  obtain⟨ns,e⟩:=ints_of h.2
  cases x with
  |int i=>exact⟨i::ns,by refine B e ?_;rfl⟩
  |_=>exact lr h.1
theorem J6 {args:List WData} (h:WShape.hasAll [] args [.list .int]=true):∃ns:List Int,args=[.list (ns.map .int)]:=by
 match args,h with
 |[],h=>simp [WShape.hasAll] at h
 |_::_::_,h=>simp [WShape.hasAll] at h
 |[a],h=>
  simp only [WShape.hasAll,Bool.and_eq_true] at h
  cases a with
  |list xs=>
   have M:=h.1
   have M:(WShape.hasItems [] xs .int||false)=true:=M
   obtain⟨ns,e⟩:=ints_of ((Bool.or_false _).symm.trans M)
   exact⟨ns,by(refine B e ?_;rfl)⟩
  |_=>exact lr h.1
noncomputable def uS:WTm:=.and (.not (.lt (.lit (.int 63)) (.len (.arg 0)))) (.lit (.bool true))
theorem Sn {ns:List Int} (h:uS.holds [] {args:=[.list (ns.map .int)]}=true):ns.length<=63:=by
 have e:WTm.value [] uS {args:=[.list (ns.map .int)]}=some (.bool (!decide ((63:Int)<((ns.map WData.int).length:Int)))):=by
  have ak:less? (.int 63) (.int (ns.length:Int))=some (decide ((63:Int)<(ns.length:Int))):=by first|rfl|(unfold less?;rfl)|simp [less?]
  simp only [uS,WTm.value,List.getElem?_cons_zero,List.length_map,ak,Option.map_some]
  cases decide ((63:Int)<(ns.length:Int))<;>rfl
 unfold WTm.holds at h
 replace h:=e▸h
 by_cases q:(63:Int)<((ns.map WData.int).length:Int)
 ·replace h:=(decide_eq_true q)▸h;cases h
 ·replace q:=(List.length_map _)▸q;exact gP q
theorem Yi {args after:List WData}:jL.toRowW.claim.post args (.bool true) after=true:=by
 show(WShape.has [] (.bool true) .bool&&(WTm.eq .res (.lit (.bool true))).holds [] {args:=args,res:=some (.bool true),after:=after})=true
 have e:WTm.value [] (WTm.eq .res (.lit (.bool true))) {args:=args,res:=some (.bool true),after:=after}=some (.bool true):=by
  have ak:same (.bool true) (.bool true)=true:=by first|rfl|(unfold same;rfl)|simp [same]
  simp [WTm.value,ak]
 unfold WTm.holds
 refine B e ?_
 rfl
theorem Iz (an:∀ns:List Int,ns.length<=63->∃per,aH true 20 "law" [.am (ns.map .int)] []=some (.ret (.U (.bool true)),per)):
  WalkO Hd.q Hd.loose (XL Hd.q []) (Hook.says Hd.lz) jL.toRowW jd.1 jd.2 fun f vs=>PySem.call f vs:=by
 intro w c9 aj Zg Ys G dv T9 ob Zp cd doc Zo YY cr hd sM dL sY bi args be as QS YK Za NC Y0
 have av:(di w.params).In aj.heap:=Ox dv
 have Hs:T9=612:=by
  have M:=mg_of av G.T.g (n:=o "law") (v:=.ref 612) (by kernel_rfl)
  replace sY:=TV▸sY
  replace sY:=M▸sY
  injection sY with e
  injection e with e
  exact e.symm
 subst Hs
 have VQ:(WShape.hasAll [] args [.list .int]&&uS.holds [] {args:=args})=true:=QS
 obtain⟨M,O⟩:=Bool.and_eq_true_iff.mp VQ
 obtain⟨ns,rfl⟩:=J6 M
 have aE:=Sn O
 obtain⟨v,Ig,rfl,ay,wC⟩:=wellAll_cons_inv NC
 cases wC with
 |nil=>
 cases ay with
 |list aq i2=>
 refine W8 an av aE aq i2 fun h' tk ag=> ?_
 exact⟨.inl ⟨_,.bool true,[],rfl,fun cls=>rfl,.bool true,Yi,fun _=>⟨.nil,fun a bz=>by cases bz⟩⟩,.of_keep ag,rfl,.of_eq bi⟩
end Mine
end
section
open PySem
namespace Mine
theorem tv {a b:String}:(Str.ofString a=Str.ofString b)=(a=b):=by
 apply propext
 constructor
 ·intro h
  (replace h:=(Str.ofString_eq_toList _)▸h;replace h:=(Str.ofString_eq_toList _)▸h)
  simp only [Str.mk.injEq] at h
  have M:a.toList.map Char.toNat=b.toList.map Char.toNat:=by simpa using h
  have O:a.toList=b.toList:=by
   have inj:∀{l m:List Char},l.map Char.toNat=m.map Char.toNat->l=m:=by
    intro l
    induction l with
    |nil=>intro m h;cases m with
     |nil=>rfl
     |cons _ _=>cases h
    |cons c r ih=>
     intro m h
     cases m with
     |nil=>cases h
     |cons d s=>
      simp only [List.map_cons,List.cons.injEq] at h
      (refine B (ih h.2) ?_;refine B (Char.toNat_inj.mp h.1) ?_;rfl)
   exact inj M
  exact String.ext O
 ·intro h;(refine B h ?_;rfl)
section
variable{b:Bool} {C CQ:cs} {n:Nat} {J aX:Scope} {fs fs':X} {b9:Scope->bk} {R:bk} {Rh:Option (Scope->bk)}
theorem Zw:(aJ b C CQ (n+1) J).a9=i1 C (aJ b C CQ n) J:=rfl
theorem YW:(aJ b C CQ (n+1) J).dH=sz (aJ b C CQ n) J:=rfl
theorem YN:(aJ b C CQ (n+1) J).dg=pO C (aJ b C CQ n) (if b then some (aJ false CQ CQ n) else none) J:=rfl
theorem bd {α:Type u} {d6:Type v} {b3:Type w} {x:Option (α×d6)} {f:α->d6->Option b3} {a:α} {b:d6} {o:Option b3} (h:x=some (a,b)) (k:f a b=o):ob x f=o:=by refine B h ?_;exact k
theorem i8 {α:Type u} {d6:Type v} {b3:Type w} {x:Option α} {y:Option d6} {f:α->d6->Option b3} {a:α} {b:d6} {o:Option b3} (h:x=some a) (O:y=some b) (k:f a b=o):fj x y f=o:=bp h (bp O k)
theorem cQ {b3:Type w} {c:Prop} [Decidable c] {a b o:Option b3} (h:c) (k:a=o):(if c then a else b)=o:=(if_pos h).trans k
theorem el {b3:Type w} {c:Prop} [Decidable c] {a b o:Option b3} (h:¬c) (k:b=o):(if c then a else b)=o:=(if_neg h).trans k
end
end Mine
end
section
open PySem
namespace Mine
section
variable{b:Bool} {C CQ:cs} {n:Nat} {J aX:Scope} {fs fs':X} {b9:Scope->bk} {R:bk} {Rh:Option (Scope->bk)}
noncomputable def iH:H->Bool
 |.per _=>false
 |_=>true
theorem uh {v} (h:iH v=true):fs.cF (.U v)=some v:=by cases v<;>first|rfl|cases h
theorem YQ {k}:fs.cF (.U (.per k))=fs.per[k]? :=rfl
theorem Y4 {x v} (h:getL x fs.loc=some (.aD v)) (ay:iH v=true):fs.cF (.var x)=some v:=bp (bp h rfl) (by cases v<;>first|rfl|cases ay)
noncomputable def lK:Option H->Bool
 |some (.V _)=>true
 |_=>false
noncomputable def nR:Option H->Bool
 |some (.am _)=>true
 |_=>false
theorem By {d:Option H} (h:lK d=true):∃l,d=some (.V l):=by
 cases d with
 |none=>cases h
 |some d=>cases d<;>first|exact⟨_,rfl⟩|cases h
theorem xd {d:Option H} (h:nR d=true):∃l,d=some (.am l):=by
 cases d with
 |none=>cases h
 |some d=>cases d<;>first|exact⟨_,rfl⟩|cases h
theorem AE {r args} (h:lK (fs.cF r)=true):iD C R "get" r args fs=Bw R r args fs:=(By h).elim fun l e=>bp e (cQ rfl rfl)
theorem Lq {r args} (h:lK (fs.cF r)=true):iD C R "pop" r args fs=FW R r args fs:=(By h).elim fun l e=>bp e (el (by decide+kernel) (cQ rfl rfl))
theorem Np {r args} (h:nR (fs.cF r)=true):iD C R "append" r args fs=Fe R r args fs:=(xd h).elim fun l e=>bp e (cQ rfl rfl)
theorem VZ {r args} (h:nR (fs.cF r)=true):iD C R "pop" r args fs=BC r args fs:=(xd h).elim fun l e=>bp e (el (by decide+kernel) (cQ rfl rfl))
theorem Wf {r args} (h:nR (fs.cF r)=true):iD C R "index" r args fs=E6 R r args fs:=(xd h).elim fun l e=>bp e (el (by decide+kernel) (el (by decide+kernel) (cQ rfl rfl)))
end
end Mine
end
section
open PySem
namespace Mine
section
variable{b:Bool} {C CQ:cs} {n:Nat} {J aX:Scope} {fs fs':X} {b9:Scope->bk} {R:bk} {Rh:Option (Scope->bk)} {args:List Expr}
theorem Cv {f} (h:J.names.lookup f=some .globalImplicit) (M:f≠"isinstance") (O:f≠"min"):qB C R J f args fs=At C R f args fs:=cQ h (el M (el O rfl))
theorem G6 {f} (h:J.names.lookup f=some .globalImplicit) (M:f≠"isinstance") (O:f≠"min") (Y:lM.contains f≠true) (aC:f≠"Shelf"):qB C R J f args fs=rP C R f args fs:=(Cv h M O).trans (el Y (el aC rfl))
theorem Ww {f names} (h:J.names.lookup f=some .globalImplicit) (M:f≠"isinstance") (O:f≠"min") (Y:lM.contains f≠true) (aC:f≠"Shelf") (bR:jz f=some names):qB C R J f args fs=E1 R f names args fs:=(G6 h M O Y aC).trans (by unfold rP;(refine B bR ?_;rfl))
theorem My {f} (h:J.names.lookup f=some .globalImplicit) (M:f≠"isinstance") (O:f≠"min") (Y:lM.contains f≠true) (aC:f≠"Shelf") (bR:jz f=none):qB C R J f args fs=D4 C R f args fs:=(G6 h M O Y aC).trans (by unfold rP;(refine B bR ?_;rfl))
end
end Mine
end
section
open PySem
namespace Mine
section
variable{b:Bool} {C CQ:cs} {n:Nat} {J aX:Scope} {fs fs₁ fs₂ fs':X} {R:bk} {o:Option (bE×X)} {p:Pos}
theorem YF {ao args per loc r} (M:jo (params ao) args=some loc) (O:cO (aJ b C CQ lA (bO ao)) (g5 ao) ⟨loc,per⟩=some (.ret r,fs)):jm b C CQ ao args per=some (.ret r,fs.per):=bp M (bd O rfl)
theorem dr {ao args per loc r de} (M:jo (params ao) args=some loc) (O:cO (aJ b C CQ lA (bO ao)) (g5 ao) ⟨loc,per⟩=some (.ret r,fs)) (Y:fs.per=de):jm b C CQ ao args per=some (.ret r,de):=Y▸bp M (bd O rfl)
theorem Zv {ao args per loc} (M:jo (params ao) args=some loc) (O:cO (aJ b C CQ lA (bO ao)) (g5 ao) ⟨loc,per⟩=some (.next,fs)):jm b C CQ ao args per=some (.ret (.U .none),fs.per):=bp M (bd O rfl)
theorem YE {ao args per loc} (M:jo (params ao) args=some loc) (O:cO (aJ b C CQ lA (bO ao)) (g5 ao) ⟨loc,per⟩=some (.dA,fs)):jm b C CQ ao args per=some (.dA,fs.per):=bp M (bd O rfl)
theorem aO {s r} (h:R.dg s fs=some (.next,fs₁)) (O:cO R r fs₁=o):cO R (s::r) fs=o:=bd h O
theorem cu {s r v} (h:R.dg s fs=some (.ret v,fs₁)):cO R (s::r) fs=some (.ret v,fs₁):=bd h rfl
theorem qf {s r} (h:R.dg s fs=some (.dA,fs₁)):cO R (s::r) fs=some (.dA,fs₁):=bd h rfl
theorem co {c x y} (t:Bool) (h:(aJ b C CQ n J).dH c fs=some (t,fs₁)) (O:cO (aJ b C CQ n J) (if t then x else y) fs₁=o):(aJ b C CQ (n+1) J).dg (.If c x y p) fs=o:=by
 exact bd h (by cases t<;>exact O)
theorem dc {x px e v} (h:(aJ b C CQ n J).a9 e fs=some (.U v,fs₁)) (O:eL J x (.U v) fs₁=some fs₂):(aJ b C CQ (n+1) J).dg (.Assign [.Name x px] e p) fs=some (.next,fs₂):=bp rfl (bd h (bp O rfl))
theorem fC {x px e v} (h:(aJ b C CQ n J).a9 e fs=some (.own v,fs₁)) (O:eL J x (.own v) fs₁=some fs₂):(aJ b C CQ (n+1) J).dg (.Assign [.Name x px] e p) fs=some (.next,fs₂):=bp rfl (bd h (bp O rfl))
theorem dC {e r r'} (h:(aJ b C CQ n J).a9 e fs=some (r,fs₁)) (O:fs₁.take r=some (r',fs₂)):(aJ b C CQ (n+1) J).dg (.Return (some e) p) fs=some (.ret r',fs₂):=bp rfl (bd h (bd O rfl))
theorem dZ {e m hp args pos c l f vs r per} (aL:(kS e&&hp.endLine==pos.line&&args.length<30)=true) (aW:(aJ b C CQ n J).a9 e fs=some (.U (.dT c l),fs₁)) (ag:pU c m=some f) (bi:iC m l=none)
  (bz:dk (aJ b C CQ n J) args fs₁=some (vs,fs₂)) (hc:C f (.dT c l::vs) fs₂.per=some (.ret r,per)):(aJ b C CQ (n+1) J).a9 (.Call (.Attribute e m hp) args [] pos) fs=some (r,{fs₂ with per:=per}):=cQ aL (bd aW (bp rfl (cQ (by refine B bi ?_;rfl) (bp ag (bd rfl (bd bz (bd hc (bp rfl rfl))))))))
theorem iV {x t} (h:(aJ b C CQ n J).dH x fs=some (t,fs₁)):(aJ b C CQ (n+1) J).dH (.UnaryOp .Not x p) fs=some (!t,fs₁):=by
 exact bd h rfl
theorem vc {ao args per loc de} (M:jo (params ao) args=some loc) (O:cO (aJ b C CQ lA (bO ao)) (g5 ao) ⟨loc,per⟩=some (.next,fs)) (Y:fs.per=de):jm b C CQ ao args per=some (.ret (.U .none),de):=Y▸bp M (bd O rfl)
theorem Cg {ao args per loc de} (M:jo (params ao) args=some loc) (O:cO (aJ b C CQ lA (bO ao)) (g5 ao) ⟨loc,per⟩=some (.dA,fs)) (Y:fs.per=de):jm b C CQ ao args per=some (.dA,de):=Y▸bp M (bd O rfl)
theorem c6 {m f ao args per o} (h:du f=some ao) (O:jm b (aH b m) (aH false m) ao args per=o):aH b (m+1) f args per=o:=bp h O
theorem g7 {x px iter body items} (h:hG (aJ b C CQ n J) J iter fs=some (items,fs₁)) (O:f1 (aJ b C CQ n J) J x body items fs₁=o):(aJ b C CQ (n+1) J).dg (.For (.Name x px) iter body [] p) fs=o:=bp rfl (bd h O)
theorem JJ {b9:Scope->bk} {Rh c body}:pO C b9 Rh J (.While c body [] p) fs=gK (b9 J) c body ml fs:=rfl
theorem qQ {c body} (h:gK (aJ b C CQ n J) c body ml fs=o):(aJ b C CQ (n+1) J).dg (.While c body [] p) fs=o:=(JJ (C:=C) (p:=p) (Rh:=if b then some (aJ false CQ CQ n) else none)).trans h
theorem lq {ts k tp e vs} (aL:(vn e&&tU ts)=true) (h:(aJ b C CQ n J).a9 e fs=some (.U (.aF vs),fs₁)) (M:vs.length<=a4) (O:hL J ts vs fs₁=some fs₂):(aJ b C CQ (n+1) J).dg (.Assign [.Tuple ts k tp] e p) fs=some (.next,fs₂):=bp rfl (cQ aL (bd h (bp rfl (bp rfl (cQ M (bp O rfl))))))
theorem gG {x i q e v r k fs₃} (h:d0 (aJ b C CQ n J) e fs=some (v,fs₁)) (M:(aJ b C CQ n J).a9 x fs₁=some (r,fs₂)) (O:(aJ b C CQ n J).a9 i fs₂=some (.U k,fs₃)) (Y:p9 r k v fs₃=some fs'):(aJ b C CQ (n+1) J).dg (.Assign [.Subscript x i q] e p) fs=some (.next,fs'):=bp rfl (bd h (bd M (bd O (bp rfl (bp Y rfl)))))
theorem nv {f args q sI vs r per} (aL:(decide (J.names.lookup f=some .globalImplicit)&&j0 f)=true) (h:dk (aJ b C CQ n J) args fs=some (vs,fs₁)) (hc:C f vs fs₁.per=some (.ret r,per)):(aJ b C CQ (n+1) J).dg (.Expr (.Call (.Name f p) args [] q) sI) fs=some (.next,{fs₁ with per:=per}):=cQ aL (bd h (bd hc rfl))
theorem Eo {f args q sI vs per} (aL:(decide (J.names.lookup f=some .globalImplicit)&&j0 f)=true) (h:dk (aJ b C CQ n J) args fs=some (vs,fs₁)) (hc:C f vs fs₁.per=some (.dA,per)):(aJ b C CQ (n+1) J).dg (.Expr (.Call (.Name f p) args [] q) sI) fs=some (.dA,{fs₁ with per:=per}):=cQ aL (bd h (bd hc rfl))
theorem nz {e m hp args pos r sI} (h:(aJ b C CQ n J).a9 (.Call (.Attribute e m hp) args [] pos) fs=some (r,fs₁)):(aJ b C CQ (n+1) J).dg (.Expr (.Call (.Attribute e m hp) args [] pos) sI) fs=some (.next,fs₁):=bd h rfl
theorem eS {f args q vs r per} (aL:J.names.lookup f=some .globalImplicit) (M:f≠"isinstance") (O:f≠"min") (Y:lM.contains f≠true) (aC:f≠"Shelf") (bR:jz f=none) (dK:j0 f=true) (bz:dk (aJ b C CQ n J) args fs=some (vs,fs₁)) (hc:C f vs fs₁.per=some (.ret r,per)):
  (aJ b C CQ (n+1) J).a9 (.Call (.Name f p) args [] q) fs=some (r,{fs₁ with per:=per}):=(My aL M O Y aC bR).trans (cQ dK (bd bz (bd hc (bp rfl rfl))))
theorem bM {e t r v vs fs₃} (h:R.a9 e fs=some (r,fs₁)) (O:fs₁.oC r=some (v,fs₂)) (Y:dk R t fs₂=some (vs,fs₃)):dk R (e::t) fs=some (v::vs,fs₃):=by
 exact bd (bd h O) (bd Y rfl)
theorem ds {e r v} (h:R.a9 e fs=some (r,fs₁)) (O:fs₁.oC r=some (v,fs₂)):d0 R e fs=some (v,fs₂):=bd h O
theorem fG {x body v t} (M:eL J x (.U v) fs=some fs₁) (O:cO R body fs₁=some (.next,fs₂)) (Y:f1 R J x body t fs₂=o):f1 R J x body (v::t) fs=o:=bp M (bd O Y)
theorem ws {x body v t r} (M:eL J x (.U v) fs=some fs₁) (O:cO R body fs₁=some (.ret r,fs₂)):f1 R J x body (v::t) fs=some (.ret r,fs₂):=bp M (bd O rfl)
theorem pc {c body m} (M:R.dH c fs=some (true,fs₁)) (O:cO R body fs₁=some (.next,fs₂)) (Y:gK R c body m fs₂=o):gK R c body (m+1) fs=o:=bd M (bd O Y)
theorem Hv {c body m r} (M:R.dH c fs=some (true,fs₁)) (O:cO R body fs₁=some (.ret r,fs₂)):gK R c body (m+1) fs=some (.ret r,fs₂):=bd M (bd O rfl)
theorem w_end {c body m} (M:R.dH c fs=some (false,fs₁)):gK R c body (m+1) fs=some (.next,fs₁):=bd M rfl
theorem cS {l bW e a c x y v w} (M:(aJ b C CQ n J).a9 l fs=some (a,fs₁)) (O:(aJ b C CQ n J).a9 e fs₁=some (c,fs₂)) (Y:fs₂.cF a=some v) (aC:fs₂.cF c=some w) (bR:eI bW v w=some x) (aQ:x=y):(aJ b C CQ (n+1) J).dH (.Compare l [bW] [e] p) fs=some (y,fs₂):=by
 exact bd M (bd O (i8 Y aC (bp bR (aQ▸rfl))))
theorem vT {l bW e a c x v w} (M:(aJ b C CQ n J).a9 l fs=some (a,fs₁)) (O:(aJ b C CQ n J).a9 e fs₁=some (c,fs₂)) (Y:fs₂.cF a=some v) (aC:fs₂.cF c=some w) (bR:eI bW v w=some x):(aJ b C CQ (n+1) J).a9 (.Compare l [bW] [e] p) fs=some (.U (.bool x),fs₂):=by
 exact bd M (bd (bd O (i8 Y aC (bp bR rfl))) rfl)
theorem m4 {c x y r} (t:Bool) (h:(aJ b C CQ n J).dH c fs=some (t,fs₁)) (O:(aJ b C CQ n J).a9 (if t then x else y) fs₁=some (r,fs₂)):(aJ b C CQ (n+1) J).a9 (.IfExp c x y p) fs=some (r,fs₂):=by
 exact bd h (by cases t<;>exact O)
theorem oO {e c q cL r v t} (aL:J.names.lookup ("isinstance":Str)=some .globalImplicit) (M:(aJ b C CQ n J).a9 e fs=some (r,fs₁)) (O:fs₁.cF r=some v) (Y:gF v c=some t) (aC:J.names.lookup c=some .globalImplicit):
  (aJ b C CQ (n+1) J).a9 (.Call (.Name ("isinstance":Str) p) [e,.Name c q] [] cL) fs=some (.U (.bool t),fs₁):=cQ aL (cQ rfl (bd rfl (bd M (bp O (bp Y (cQ aC rfl))))))
theorem j6 {f a k t} (h:(aJ b C CQ n J).a9 (.Call f a k p) fs=some (.U (.bool t),fs₁)):(aJ b C CQ (n+1) J).dH (.Call f a k p) fs=some (t,fs₁):=bd h (bp rfl (bp rfl rfl))
theorem z2 {r:aU} {args k kk l d x} (aL:lK (fs.cF r)=true) (bz:dk R args fs=some ([k,d],fs₁)) (M:fs₁.cF r=some (.V l)) (O:gc k=some kk) (Y:(ba kk l).getD d=x):iD C R "get" r args fs=some (.U x,fs₁):=(AE aL).trans (bd bz (bd rfl (i8 (congrArg pL M) O (Y▸rfl))))
theorem nh {r:aU} {args k kk l x} (aL:lK (fs.cF r)=true) (bz:dk R args fs=some ([k],fs₁)) (M:fs₁.cF r=some (.V l)) (O:gc k=some kk) (Y:(ba kk l).getD .none=x):iD C R "get" r args fs=some (.U x,fs₁):=(AE aL).trans (bd bz (bd rfl (i8 (congrArg pL M) O (Y▸rfl))))
theorem gb {e m hp args pos r oy} (aL:(kS e&&hp.endLine==pos.line&&args.length<30)=true) (aW:(aJ b C CQ n J).a9 e fs=some (r,fs₁)) (hd:iD C (aJ b C CQ n J) m r args fs₁=oy):(aJ b C CQ (n+1) J).a9 (.Call (.Attribute e m hp) args [] pos) fs=oy:=cQ aL (bd aW hd)
theorem xU {k:Nat} {l:List (al×H)} {eD v:H} {kk:al} (h:fs.per[k]? =some (.V l)) (ag:gc eD=some kk) (aq:l.length<=a4):p9 (.U (.per k)) eD v fs=some {fs with per:=fs.per.set k (.V (cU kk v l))}:=bd (bp h rfl) (bp ag (cQ aq rfl))
theorem jC {x:Str} {l:List (al×H)} {eD v:H} {kk:al} (h:getL x fs.loc=some (.aD (.V l))) (ag:gc eD=some kk) (aq:l.length<=a4):p9 (.var x) eD v fs=some {fs with loc:=bX x (.aD (.V (cU kk v l))) fs.loc}:=bd (bp (bp h rfl) rfl) (bp ag (cQ aq rfl))
theorem kG {x y:Expr} {z:Bool} (M:(aJ b C CQ n J).dH x fs=some (true,fs₁)) (O:(aJ b C CQ n J).dH y fs₁=some (z,fs₂)):(aJ b C CQ (n+1) J).dH (.BoolOp .And [x,y] p) fs=some (z,fs₂):=bd M (bd O (by cases z<;>rfl))
theorem n8 {x:Expr} {l:List Expr} (M:(aJ b C CQ n J).dH x fs=some (false,fs₁)):(aJ b C CQ (n+1) J).dH (.BoolOp .And (x::l) p) fs=some (false,fs₁):=bd M rfl
theorem sP {x y:Expr} {z:Bool} (M:(aJ b C CQ n J).dH x fs=some (false,fs₁)) (O:(aJ b C CQ n J).dH y fs₁=some (z,fs₂)):(aJ b C CQ (n+1) J).dH (.BoolOp .Or [x,y] p) fs=some (z,fs₂):=bd M (bd O (by cases z<;>rfl))
theorem KI {x:Expr} {z:Bool} (M:(aJ b C CQ n J).a9 x fs=some (.U (.bool z),fs₁)):(aJ b C CQ (n+1) J).a9 (.UnaryOp .Not x p) fs=some (.U (.bool (!z)),fs₁):=by
 exact bd M (bp rfl (bp rfl rfl))
theorem yo {f:Str} {args:List Expr} {q:Pos} {names:List Str} {vs:List H} {l:List (Str×H)} (aL:J.names.lookup f=some .globalImplicit) (M:f≠"isinstance") (O:f≠"min") (Y:lM.contains f≠true) (aC:f≠"Shelf") (bR:jz f=some names) (bz:dk (aJ b C CQ n J) args fs=some (vs,fs₁)) (dK:qo names vs=some l):
  (aJ b C CQ (n+1) J).a9 (.Call (.Name f p) args [] q) fs=some (.U (.dT f l),fs₁):=(Ww aL M O Y aC bR).trans (bd bz (bp dK rfl))
theorem kE {f:Str} {e:Expr} {q:Pos} {r r':aU} {v:H} (aL:J.names.lookup f=some .globalImplicit) (M:f≠"isinstance") (O:f≠"min") (Y:lM.contains f=true) (aW:(aJ b C CQ n J).a9 e fs=some (r,fs₁)) (hd:fs₁.cF r=some v) (aC:gH f v=some r'):
  (aJ b C CQ (n+1) J).a9 (.Call (.Name f p) [e] [] q) fs=some (r',fs₁):=(Cv aL M O).trans (cQ Y (bp rfl (bd aW (bp hd (bp aC rfl)))))
theorem D3 {q w0:Pos} {a:Expr} {l:List H} (aL:J.names.lookup ("reversed":Str)=some .globalImplicit) (h:d0 R a fs=some (.am l,fs₁)):hG R J (.Call (.Name ("reversed":Str) q) [a] [] w0) fs=some (l.reverse,fs₁):=cQ aL (el (show("reversed":Str)≠"range" by decide+kernel) (cQ rfl (bd h (bp rfl rfl))))
theorem hl {e:Expr} {l:List H} (aL:hG R J e fs=nG R qb e fs) (h:d0 R e fs=some (.am l,fs₁)):hG R J e fs=some (l,fs₁):=aL.trans (bd h (bp rfl rfl))
theorem QR {e:Expr} {l:List (al×H)} (aL:hG R J e fs=nG R qb e fs) (h:d0 R e fs=some (.V l,fs₁)):hG R J e fs=some (l.map (fun p=>p8 p.1),fs₁):=aL.trans (bd h (bp rfl rfl))
theorem dB {l r:Expr} {bW:Operator} {a c:aU} {v w:H} {z:aU} (M:(aJ b C CQ n J).a9 l fs=some (a,fs₁)) (O:(aJ b C CQ n J).a9 r fs₁=some (c,fs₂)) (Y:fs₂.cF a=some v) (aC:fs₂.cF c=some w) (bR:j3 bW v w=some z):(aJ b C CQ (n+1) J).a9 (.BinOp l bW r p) fs=some (z,fs₂):=by
 exact bd M (bd O (i8 Y aC (bp bR rfl)))
theorem kx {es:List Expr} {k:Nat} {vs:List H} (h:dk (aJ b C CQ n J) es fs=some (vs,fs₁)) (M:vs.length<=a4):(aJ b C CQ (n+1) J).a9 (.Tuple es k p) fs=some (.U (.aF vs),fs₁):=by
 exact bd h (cQ M rfl)
theorem zm {es:List Expr} {vs:List H} (h:dk (aJ b C CQ n J) es fs=some (vs,fs₁)) (M:vs.length<=a4):(aJ b C CQ (n+1) J).a9 (.List es p) fs=some (.own (.am vs),fs₁):=by
 exact bd h (cQ M rfl)
theorem rd {x:Str} {args:List Expr} {v:H} {l:List H} (aL:nR (fs.cF (.var x))=true) (bz:dk R args fs=some ([v],fs₁)) (bi:getL x fs₁.loc=some (.aD (.am l))) (aq:l.length<=a4):iD C R "append" (.var x) args fs=some (.U .none,{fs₁ with loc:=bX x (.aD (.am (l++[v]))) fs₁.loc}):=(Np aL).trans (bp rfl (bd bz (i8 rfl (congrArg lC (bp bi rfl)) (cQ aq rfl))))
theorem yY {x:Str} {v:H} {l:List H} (aL:nR (fs.cF (.var x))=true) (bi:getL x fs.loc=some (.aD (.am (l++[v])))) (aq:(l++[v]).length<=a4):iD C R "pop" (.var x) [] fs=some (.U v,{fs with loc:=bX x (.aD (.am l)) fs.loc}):=(VZ aL).trans (bp rfl (bp (congrArg lC (bp bi rfl)) (bp (List.getLast?_concat ..) (cQ (decide_eq_true aq) (by(refine B List.dropLast_concat ?_;rfl))))))
theorem ud {x y:List H} (h:x.length+y.length<=a4):j3 .Add (.aF x) (.aF y)=some (.U (.aF (x++y))):=bp rfl (cQ (decide_eq_true h) rfl)
theorem s5 {x y:List H} (h:x.length+y.length<=a4):j3 .Add (.am x) (.am y)=some (.own (.am (x++y))):=bp rfl (cQ (decide_eq_true h) rfl)
theorem s4 {e:Expr} {r:aU} {l:List H} {z:Bool} (aW:(aJ b C CQ (n+1) J).dH e fs=vM (aJ b C CQ n J) e fs) (h:(aJ b C CQ n J).a9 e fs=some (r,fs₁)) (hd:fs₁.cF r=some (.am l)) (aq:l.length<=a4) (hz:(!l.isEmpty)=z):(aJ b C CQ (n+1) J).dH e fs=some (z,fs₁):=aW.trans (bd h (bp hd (bp (cQ aq rfl) (hz▸rfl))))
theorem q0 {k:H} {l:List (al×H)} {kk:al} {z:Bool} (h:gc k=some kk) (hz:(ba kk l).isSome=z):eI .In k (.V l)=some z:=by
 show(gc k).map (fun k=>(ba k l).isSome)=_
 (refine B h ?_;refine bu hz ?_);rfl
theorem Sg {k:H} {l:List (al×H)} {kk:al} {z:Bool} (h:gc k=some kk) (hz:(!(ba kk l).isSome)=z):eI .NotIn k (.V l)=some z:=by
 show(gc k).map (fun k=> !(ba k l).isSome)=_
 (refine B h ?_;refine bu hz ?_);rfl
theorem WM {x:Str} {args:List Expr} {k:H} {kk:al} {l:List (al×H)} (aL:lK (fs.cF (.var x))=true) (bz:dk R args fs=some ([k,.none],fs₁)) (bi:getL x fs₁.loc=some (.aD (.V l))) (ag:gc k=some kk) (aq:l.length<=a4):
  iD C R "pop" (.var x) args fs=some (.U ((ba kk l).getD .none),{fs₁ with loc:=bX x (.aD (.V (ib kk l))) fs₁.loc}):=(Lq aL).trans (bp rfl (bd bz (bd rfl (i8 (congrArg pL (bp bi rfl)) ag (cQ (decide_eq_true aq) rfl)))))
theorem f3 {e i:Expr} {q:Pos} {r:aU} {k v w:H} (hs:nF i=none) (M:(aJ b C CQ n J).a9 e fs=some (r,fs₁)) (O:(aJ b C CQ n J).a9 i fs₁=some (.U k,fs₂)) (Y:fs₂.cF r=some v) (aC:oh v k=some w):(aJ b C CQ (n+1) J).a9 (.Subscript e i q) fs=some (.U w,fs₂):=by
 show(match nF i with|some s=>Aa (aJ b C CQ n J) e s.1 s.2 fs|none=>Cj (aJ b C CQ n J) e i fs)=_
 refine B hs ?_;exact bd M (bd O (bp rfl (bp Y (bp aC rfl))))
theorem q6 {x:Str} {v:H} {q:Pos} (hs:J.names.lookup x=some .local) (ae:¬(x==("__debug__":Str))=true) (h:getL x fs.loc=some (.aD v)):(aJ b C CQ (n+2) J).dg (.Return (some (.Name x q)) p) fs=some (.ret (.own v),{fs with loc:=jT x fs.loc}):=bp rfl (bd (a:=aU.var x) (b:=fs) (bp hs (el (by decide) (el ae (bp h rfl)))) (bd (show fs.take (.var x)=_ from bp (bp h rfl) rfl) rfl))
theorem w1 {v:H} {k:Nat} (h:xv v=some k) (aE:k<=a4):gH "len" v=some (.U (.int k)):=cQ rfl (bp h (cQ aE rfl))
theorem wQ {l:List H} (aq:l.length<=a4):gH "tuple" (.am l)=some (.U (.aF l)):=el (by decide+kernel) (el (by decide+kernel) (el (by decide+kernel) (el (by decide+kernel) (el (by decide+kernel) (cQ rfl (cQ aq rfl))))))
theorem Lx {d:List (al×H)} {ns:List Int} (aq:d.length<64) (h:oB d=some ns):gH "sorted" (.V d)=some (.own (.am ((qx ns).map .int))):=el (by decide+kernel) (el (by decide+kernel) (el (by decide+kernel) (el (by decide+kernel) (cQ rfl (cQ aq (by unfold ry;(refine B h ?_;rfl)))))))
theorem AB {hd:List (al×H)} (aq:hd.length<=a4):gH "dict" (.V hd)=some (.own (.V hd)):=el (by decide+kernel) (el (by decide+kernel) (el (by decide+kernel) (el (by decide+kernel) (el (by decide+kernel) (el (by decide+kernel) (cQ rfl (cQ aq rfl)))))))
end
end Mine
end
section
open PySem
namespace Mine
theorem Jp:du "Reference.pair"=some (cG 12 1):=by kernel_rfl
theorem Dl:du "Lookup.fetch"=some (cG 18 1):=by kernel_rfl
theorem FV:du "Lookup.get"=some (cG 18 2):=by kernel_rfl
theorem OG:du "Shelf.put"=some (cG 19 0):=by kernel_rfl
theorem Po:du "Shelf.add"=some (cG 19 1):=by kernel_rfl
theorem Us:du "Shelf.numbers"=some (cG 19 3):=by kernel_rfl
theorem DA:du "Shelf.root"=some (cG 19 4):=by kernel_rfl
noncomputable def bB (t u:Nat):H:=.dT "Shelf" [("table",.per t),("trailer",.per u)]
noncomputable def au (n:Int):H:=.dT "Reference" [("number",.int n),("generation",.int 0)]
noncomputable def gz (s:Str):H:=.dT "Name" [("text",.str s)]
section
variable{b:Bool} {C CQ:cs} {n:Nat} {J aX:Scope} {fs fs₁ fs₂ fs':X} {R:bk} {o:Option (bE×X)} {p:Pos} {m:Nat} {t u:Nat} {per:List H} {tab bJ:List (al×H)}
theorem qq {v:H} {c:Str} {x:Bool} (h:gF v c=some x):fs.cF (.U v)=some v:=by
 cases v with
 |per k=>unfold gF at h;split at h<;>cases h
 |_=>rfl
theorem GL {k:Int}:gF (au k) "Reference"=some true:=by rfl
theorem mG {k:Int}:aH b (m+1) "Reference.pair" [au k] per=some (.ret (.U (.aF [.int k,.int 0])),per):=by
 refine c6 Jp ?_
 apply dr rfl
 ·exact cu (dC rfl rfl)
 ·rfl
theorem II {v:H} (h:gF v "Reference"=some false):aH b (m+1) "Lookup.fetch" [bB t u,v] per=some (.ret (.U v),per):=by
 refine c6 Dl ?_
 apply dr rfl
 ·refine aO (dc rfl rfl) ?_
  apply cu
  apply g7 rfl
  exact ws rfl (cu (co true (iV (j6 (oO rfl rfl (qq h) h rfl))) (cu (dC rfl rfl))))
 ·rfl
theorem IQ {k:Int} {v:H} (aG:per[t]? =some (.V tab)) (bi:ba (.int k) tab=some (.aF [.int 0,v])) (h:gF v "Reference"=some false):aH b (m+1) "Lookup.fetch" [bB t u,au k] per=some (.ret (.U v),per):=by
 refine c6 Dl ?_
 apply dr rfl
 ·refine aO (dc rfl rfl) ?_
  apply cu
  apply g7 rfl
  apply fG rfl
  ·refine aO (co false (iV (j6 (oO rfl rfl rfl GL rfl))) rfl) ?_
   refine aO (lq (vs:=[.int 0,v]) rfl (gb rfl rfl (z2 (kk:=.int k) (l:=tab) (by show lK per[t]? =true;refine B aG ?_;rfl) rfl aG rfl (by refine B bi ?_;rfl))) (Nat.le_of_ble_eq_true rfl) rfl) ?_
   refine aO (co false (cS rfl rfl rfl rfl rfl rfl) rfl) ?_
   exact aO (dc rfl rfl) rfl
  ·exact ws rfl (cu (co true (iV (j6 (oO rfl rfl (qq h) h rfl))) (cu (dC rfl rfl))))
 ·rfl
noncomputable def mf (tab:List (al×H)) (v x:H):Prop:=(gF v "Reference"=some false/\x=v)\/∃k,v=au k/\ba (.int k) tab=some (.aF [.int 0,x])/\gF x "Reference"=some false
theorem mf.hr {v:H} (h:gF v "Reference"=some false):mf tab v v:=.inl ⟨h,rfl⟩
theorem mf.r6 {k:Int} {x:H} (h:ba (.int k) tab=some (.aF [.int 0,x])) (O:gF x "Reference"=some false):mf tab (au k) x:=.inr ⟨k,rfl,h,O⟩
theorem uT {v x:H} (aG:per[t]? =some (.V tab)) (h:mf tab v x):aH b (m+1) "Lookup.fetch" [bB t u,v] per=some (.ret (.U x),per):=by
 rcases h with⟨h,rfl⟩|⟨k,rfl,bi,h⟩
 ·exact II h
 ·exact IQ aG bi h
theorem kJ {hd:List (al×H)} {k:Str} {v x:H} (aG:per[t]? =some (.V tab)) (ag:(ba (.str k) hd).getD .none=v) (h:mf tab v x):aH b (m+2) "Lookup.get" [bB t u,.V hd,.str k] per=some (.ret (.U x),per):=by
 refine c6 FV ?_
 apply dr rfl
 ·apply cu
  apply dC
  ·exact dZ rfl rfl rfl rfl (bM (gb rfl rfl (nh (kk:=.str k) (l:=hd) rfl rfl rfl rfl ag)) rfl rfl) (uT aG h)
  ·rfl
 ·rfl
theorem C8 {w:Nat} {hd:List (al×H)} {k:Str} {v x:H} (aG:per[t]? =some (.V tab)) (d9:per[w]? =some (.V hd)) (ag:(ba (.str k) hd).getD .none=v) (h:mf tab v x):aH b (m+2) "Lookup.get" [bB t u,.per w,.str k] per=some (.ret (.U x),per):=by
 refine c6 FV ?_
 apply dr rfl
 ·apply cu
  apply dC
  ·exact dZ rfl rfl rfl rfl (bM (gb rfl rfl (nh (kk:=.str k) (l:=hd) (by show lK per[w]? =true;refine B d9 ?_;rfl) rfl d9 rfl ag)) rfl rfl) (uT aG h)
  ·rfl
 ·rfl
theorem VF {k g:Int} {v:H} (aG:per[t]? =some (.V tab)) (aq:tab.length<=a4):aH b (m+1) "Shelf.put" [bB t u,.int k,.int g,v] per=some (.ret (.U .none),per.set t (.V (cU (.int k) (.aF [.int g,v]) tab))):=by
 refine c6 OG ?_
 apply vc rfl
 ·exact aO (gG (k:=.int k) (r:=.U (.per t)) rfl rfl rfl (xU aG rfl aq)) rfl
 ·rfl
theorem wX {v:H} {hd:List (al×H)} (aG:per[t]? =some (.V tab)) (b2:per[u]? =some (.V bJ)) (ag:(ba (.str "Root") bJ).getD .none=v) (h:mf tab v (.V hd)):aH b (m+3) "Shelf.root" [bB t u] per=some (.ret (.U (.V hd)),per):=by
 refine c6 DA ?_
 apply dr rfl
 ·refine aO (dc (dZ rfl rfl rfl rfl rfl (C8 aG b2 ag h)) rfl) ?_
  exact cu (dC (m4 true (j6 (oO rfl rfl rfl rfl rfl)) rfl) rfl)
 ·rfl
theorem El (aG:per[t]? =some (.V tab)) (b2:per[u]? =some (.V [])):aH b (m+3) "Shelf.root" [bB t u] per=some (.ret (.own (.V [])),per):=by
 refine c6 DA ?_
 apply dr rfl
 ·refine aO (dc (dZ rfl rfl rfl rfl rfl (C8 (x:=.none) aG b2 rfl (.hr rfl))) rfl) ?_
  exact cu (dC (m4 false (j6 (oO rfl rfl rfl rfl rfl)) rfl) rfl)
 ·rfl
end
end Mine
end
section
open PySem
namespace Mine
noncomputable def ce (ao:Stmt) (i:Nat):Stmt:=((g5 ao)[i]?).getD default
noncomputable def UB:Expr->List Expr
 |.BoolOp _ vs _=>vs
 |.BinOp l _ r _=>[l,r]
 |.UnaryOp _ x _=>[x]
 |.Compare l _ mm _=>l::mm
 |.Call f as _ _=>f::as
 |.ListComp e eA _ _=>e::eA.flatMap fun g=>g.iter::g.ifs
 |.Attribute x _ _=>[x]
 |.Subscript x i _=>[x,i]
 |.List es _=>es
 |_=>[]
noncomputable def iv:Expr->Scope
 |.ListComp _ _ s _=>s
 |_=>default
noncomputable def SQ:Stmt->List Expr
 |.Return e _=>e.toList
 |.Assign _ e _=>[e]
 |.Expr e _=>[e]
 |.If c _ _ _=>[c]
 |.While c _ _ _=>[c]
 |_=>[]
noncomputable def d4:Stmt->List Stmt
 |.While _ x _ _=>x
 |.For _ _ x _ _=>x
 |.If _ x _ _=>x
 |_=>[]
noncomputable def mq (s:Stmt):Expr:=(SQ s).headD default
noncomputable def iE (l:List Stmt) (i:Nat):Stmt:=(l[i]?).getD default
noncomputable def ek (s:Stmt) (l:List Nat):Expr:=l.foldl (fun e i=>((UB e)[i]?).getD default) (mq s)
section
variable{b:Bool} {C CQ:cs} {n:Nat} {J aX:Scope} {fs fs₁ fs₂ fs':X} {R:bk} {o:Option (bE×X)} {p:Pos} {m:Nat} {t u:Nat} {per:List H} {tab bJ:List (al×H)}
noncomputable def fZ (tab:List (al×H)) (N:Nat):Prop:=tab.map (·.1)=(List.range N).map fun(i:Nat)=>al.int ((i:Int)+1)
theorem y3 {k:al}:∀{l:List (al×H)},k∉l.map (·.1)->ba k l=none
 |[],_=>rfl
 |(y,v)::r,h=>by
  unfold ba
  (refine B (if_neg (fun e=>h (by rw [e];exact List.mem_cons_self))) ?_;refine B (y3 fun q=>h (List.mem_cons_of_mem _ q)) ?_;rfl)
theorem GJ {k:al}:∀{l:List (al×H)},k∈l.map (·.1)->(ba k l).isSome=true
 |[],h=>by cases h
 |(y,v)::r,h=>by
  unfold ba
  by_cases e:k=y
  ·refine B (if_pos e) ?_;rfl
  ·refine B (if_neg e) ?_
   exact GJ ((List.mem_cons.mp h).resolve_left e)
theorem Bu {k:al} {v:H}:∀{l:List (al×H)},k∉l.map (·.1)->cU k v l=l++[(k,v)]
 |[],_=>rfl
 |(y,w)::r,h=>by
  unfold cU
  (refine B (if_neg (fun e=>h (by rw [e];exact List.mem_cons_self))) ?_;refine B (Bu fun q=>h (List.mem_cons_of_mem _ q)) ?_);rfl
theorem fZ.mem {N j:Nat} (h:fZ tab N):al.int (j:Int)∈tab.map (·.1)↔1<=j/\j<=N:=by
 (refine B h ?_;rw [List.mem_map])
 constructor
 ·rintro ⟨i,M,O⟩
  have M:=List.mem_range.mp M
  have O:(i:Int)+1=j:=by injection O
  exact M1 M O
 ·rintro ⟨M,O⟩
  exact⟨j-1,List.mem_range.mpr (by exact UQ M O),by congr 1;exact XJ M⟩
theorem fZ.len {N:Nat} (h:fZ tab N):tab.length=N:=by
 have:=congrArg List.length h
 simpa using this
theorem fZ.add {N:Nat} {v:H} (h:fZ tab N):cU (.int ((N:Int)+1)) v tab=tab++[(.int ((N:Int)+1),v)]/\fZ (tab++[(.int ((N:Int)+1),v)]) (N+1):=by
 have aE:al.int ((N:Int)+1)∉tab.map (·.1):=fun q=>by
  have:=(h.mem (j:=N+1)).mp (by simpa using q)
  exact(Hf this).elim
 refine⟨Bu aE,?_⟩
 unfold fZ at*
 (refine B List.map_append ?_;refine B h ?_;refine B List.range_succ ?_;refine B List.map_append ?_);rfl
noncomputable def yK (t u:Nat) (v:H) (j:Nat) (per:List H):X:=⟨[("self",.U (bB t u)),("value",.U v),("number",.U (.int j))],per⟩
theorem Dg {v:H} {N:Nat} (aG:per[t]? =some (.V tab)) (ag:fZ tab N):∀(d j fuel:Nat),j+d=N+1->1<=j->d<fuel->
  gK (aJ b C CQ (n+12) (bO (cG 19 1))) (mq (ce (cG 19 1) 1)) (d4 (ce (cG 19 1) 1)) fuel (yK t u v j per)=some (.next,yK t u v (N+1) per)
 |0,j,fuel+1,bF,M,aB=>by
  have:j=N+1:=by exact UZ bF
  subst this
  refine w_end (cS rfl rfl rfl aG (x:=false) ?_ rfl)
  show some (ba (.int ((N+1:Nat):Int)) tab).isSome=_
  refine B (y3 (fun q=>by have:=(ag.mem).mp q;exact(Hf this).elim)) ?_;rfl
 |d+1,j,fuel+1,bF,M,aB=>by
  refine pc (fs₂:=yK t u v (j+1) per) (cS rfl rfl rfl aG (x:=true) ?_ rfl) ?_ (Dg aG ag d (j+1) fuel (by exact NB bF) (by exact Kh) (by exact X4 aB))
  ·show some (ba (.int (j:Int)) tab).isSome=_
   (refine B (GJ ((ag.mem).mpr ⟨M,by exact Iy bF⟩)) ?_;rfl)
  ·exact aO (dc rfl rfl) rfl
theorem rq {v:H} {N:Nat} (aG:per[t]? =some (.V tab)) (ag:fZ tab N) (dm:N<1000):aH b (m+1) "Shelf.add" [bB t u,v] per=some (.ret (.U (au ((N:Int)+1))),per.set t (.V (tab++[(.int ((N:Int)+1),.aF [.int 0,v])]))):=by
 refine c6 Po ?_
 apply dr rfl
 ·refine aO (dc rfl rfl) ?_
  refine aO (qQ (Dg (n:=27) aG ag N 1 _ (by exact Pe) (by exact XU) (by unfold ml;exact Fa dm))) ?_
  refine aO (gG (k:=.int ((N+1:Nat):Int)) (r:=.U (.per t)) rfl rfl rfl (xU aG rfl (by refine B ag.len ?_;unfold a4;exact mw dm))) ?_
  exact cu (dC rfl rfl)
 ·show per.set t (.V (cU (.int ((N:Int)+1)) _ tab))=_
  (refine B ag.add.1 ?_;rfl)
end
end Mine
end
section
open PySem
namespace Mine
theorem PP:du "home_of"=some (aI 25):=by kernel_rfl
theorem Dy:du "is_node"=some (aI 26):=by kernel_rfl
theorem Ld:du "kids_of"=some (aI 27):=by kernel_rfl
theorem PO:du "met"=some (aI 28):=by kernel_rfl
section
variable{b:Bool} {C CQ:cs} {n:Nat} {J aX:Scope} {fs fs₁ fs₂ fs':X} {R:bk} {o:Option (bE×X)} {p:Pos} {m:Nat} {t u:Nat} {per:List H} {tab bJ:List (al×H)}
theorem vV {k:Int} {x:H} (aG:per[t]? =some (.V tab)) (bi:ba (.int k) tab=some (.aF [.int 0,x])) (h:gF x "Reference"=some false):aH b (m+1) "home_of" [bB t u,au k] per=some (.ret (.U (au k)),per):=by
 refine c6 PP ?_
 apply dr rfl
 ·refine aO (dc rfl rfl) ?_
  refine aO (fC rfl rfl) ?_
  apply cu
  apply qQ
  apply Hv (m:=999999) (kG (j6 (oO rfl rfl rfl GL rfl)) (cS rfl rfl rfl rfl rfl rfl))
  refine aO (gG (k:=.int k) rfl rfl rfl (jC rfl rfl (Nat.le_of_ble_eq_true rfl))) ?_
  refine aO (lq (vs:=[.int 0,x]) rfl (gb rfl rfl (z2 (kk:=.int k) (l:=tab) (by show lK per[t]? =true;refine B aG ?_;rfl) rfl aG rfl (by refine B bi ?_;rfl))) (Nat.le_of_ble_eq_true rfl) rfl) ?_
  refine aO (co false (cS rfl rfl rfl rfl rfl rfl) rfl) ?_
  exact cu (co true (iV (j6 (oO rfl rfl (qq h) h rfl))) (cu (dC rfl rfl)))
 ·rfl
theorem pr {hd:List (al×H)} {v:H} {l:List H} (aG:per[t]? =some (.V tab)) (ag:(ba (.str "Kids") hd).getD .none=v) (h:mf tab v (.am l)):aH b (m+3) "kids_of" [bB t u,.V hd] per=some (.ret (.U (.am l)),per):=by
 refine c6 Ld ?_
 apply dr rfl
 ·refine aO (dc (dZ rfl rfl rfl rfl rfl (kJ aG ag h)) rfl) ?_
  refine aO (co false rfl rfl) ?_
  exact cu (dC rfl rfl)
 ·rfl
theorem PV {hd:List (al×H)} (aG:per[t]? =some (.V tab)) (ag:(ba (.str "Type") hd).getD .none=gz "Pages"):aH b (m+3) "is_node" [bB t u,.V hd] per=some (.ret (.U (.bool true)),per):=by
 refine c6 Dy ?_
 apply dr rfl
 ·refine aO (dc (dZ rfl rfl rfl rfl rfl (kJ aG ag (.hr rfl))) rfl) ?_
  exact cu (co true (kG rfl rfl) (cu (dC rfl rfl)))
 ·rfl
theorem P3 {hd:List (al×H)} (aG:per[t]? =some (.V tab)) (ag:(ba (.str "Type") hd).getD .none=gz "Page"):aH b (m+3) "is_node" [bB t u,.V hd] per=some (.ret (.U (.bool false)),per):=by
 refine c6 Dy ?_
 apply dr rfl
 ·refine aO (dc (dZ rfl rfl rfl rfl rfl (kJ aG ag (.hr rfl))) rfl) ?_
  exact cu (co true (kG rfl rfl) (cu (dC rfl rfl)))
 ·rfl
noncomputable def bS (k:Int) (hd:List (al×H)) (ab:List H) (inh:List (al×H)) (pg:Bool):H:=.dT "Spot" [("reference",au k),("head",.V hd),("above",.aF ab),("inherited",.V inh),("is_page",.bool pg)]
noncomputable def pN (v:H):Prop:=gF v "Reference"=some false/\fE v=false
noncomputable def fQ (hd g:List (al×H)) (k:Str):List (al×H):=match ba (.str k) hd with
 |none=>g
 |some v=>cU (.str k) v g
noncomputable def sU (t u:Nat) (k0:Int) (ab:List H) (hd g:List (al×H)) (k:Str) (per:List H):X:=
 ⟨[("shelf",.U (bB t u)),("value",.U (au k0)),("above",.U (.aF ab)),("inherited",.U (.V [])),("reference",.U (au k0)),("head",.U (.V hd)),("given",.aD (.V g)),("key",.U (.str k))],per⟩
theorem tP {k0:Int} {ab:List H} {hd g:List (al×H)} {k:Str} (aG:per[t]? =some (.V tab)) (an:∀v,ba (.str k) hd=some v->pN v) (aq:g.length<=a4):
  cO (aJ b (aH b (m+2)) CQ (n+14) (bO (aI 28))) (d4 (ce (aI 28) 4)) (sU t u k0 ab hd g k per)=some (.next,sU t u k0 ab hd (fQ hd g k) k per):=by
 cases bi:ba (.str k) hd with
 |none=>
  have e:fQ hd g k=g:=by unfold fQ;(refine B bi ?_;rfl)
  refine B e ?_
  exact aO (co false (cS (dZ rfl rfl rfl rfl rfl (kJ aG (v:=.none) (by refine B bi ?_;rfl) (.hr rfl))) rfl rfl rfl rfl rfl) rfl) rfl
 |some v=>
  have e:fQ hd g k=cU (.str k) v g:=by unfold fQ;(refine B bi ?_;rfl)
  refine B e ?_
  refine cl (an v bi) ?_;intro M O
  refine aO (co true (cS (dZ rfl rfl rfl rfl rfl (kJ aG (v:=v) (by refine B bi ?_;rfl) (.hr M))) rfl (qq M) rfl (x:=true) (by show some (!fE v)=_;refine B O ?_;rfl) rfl) (aO (gG (fs₁:=sU t u k0 ab hd g k per) (fs₂:=sU t u k0 ab hd g k per) (fs₃:=sU t u k0 ab hd g k per) (v:=v) (k:=.str k) (r:=.var "given") ?_ rfl rfl (jC (l:=g) rfl rfl aq)) rfl)) rfl
  refine ds (r:=.U v) ?_ rfl
  exact f3 rfl rfl rfl rfl (bp rfl bi)
noncomputable def er (hd:List (al×H)):List (al×H):=fQ hd (fQ hd (fQ hd (fQ hd [] "Resources") "MediaBox") "CropBox") "Rotate"
theorem pf {k:al} {v:H}:∀{l:List (al×H)},(cU k v l).length<=l.length+1
 |[]=>Nat.le_refl _
 |(y,w)::r=>by
  unfold cU
  split
  ·simp
  ·have:=pf (k:=k) (v:=v) (l:=r);simp only [List.length_cons];exact Te this
theorem wi {hd g:List (al×H)} {k:Str}:(fQ hd g k).length<=g.length+1:=by
 unfold fQ;split
 ·exact vD
 ·exact pf
theorem sg {k0:Int} {ab:List H} {hd:List (al×H)} {x:Bool} (aG:per[t]? =some (.V tab)) (bi:ba (.int k0) tab=some (.aF [.int 0,.V hd]))
  (an:∀k∈(["Resources","MediaBox","CropBox","Rotate"]:List Str),∀v,ba (.str k) hd=some v->pN v) (gQ:(ba (.str "Type") hd).getD .none=if x then gz "Pages" else gz "Page"):
  aH b (m+4) "met" [bB t u,au k0,.aF ab,.V []] per=some (.ret (.U (bS k0 hd ab (er hd) (!x))),per):=by
 have aE:aH b (m+3) "is_node" [bB t u,.V hd] per=some (.ret (.U (.bool x)),per):=by
  cases x
  ·exact P3 aG gQ
  ·exact PV aG gQ
 have h0:=wi (hd:=hd) (g:=[]) (k:="Resources")
 have jA:=wi (hd:=hd) (g:=fQ hd [] "Resources") (k:="MediaBox")
 have tJ:=wi (hd:=hd) (g:=fQ hd (fQ hd [] "Resources") "MediaBox") (k:="CropBox")
 simp only [List.length_nil] at h0
 have d5:=tP (b:=b) (CQ:=aH false (m+3)) (n:=25) (m:=m+1) (u:=u) (k0:=k0) (ab:=ab) (g:=[]) aG (an "Resources" (by simp)) (Nat.zero_le _)
 have dX:=tP (b:=b) (CQ:=aH false (m+3)) (n:=25) (m:=m+1) (u:=u) (k0:=k0) (ab:=ab) (g:=fQ hd [] "Resources") aG (an "MediaBox" (by simp)) (by unfold a4;exact Xq h0)
 have fF:=tP (b:=b) (CQ:=aH false (m+3)) (n:=25) (m:=m+1) (u:=u) (k0:=k0) (ab:=ab) (g:=fQ hd (fQ hd [] "Resources") "MediaBox") aG (an "CropBox" (by simp)) (by unfold a4;exact WN h0 jA)
 have iR:=tP (b:=b) (CQ:=aH false (m+3)) (n:=25) (m:=m+1) (u:=u) (k0:=k0) (ab:=ab) (g:=fQ hd (fQ hd (fQ hd [] "Resources") "MediaBox") "CropBox") aG (an "Rotate" (by simp)) (by unfold a4;exact J9 h0 jA tJ)
 refine c6 PO ?_
 apply dr rfl
 ·refine aO (dc (eS rfl (by decide+kernel) (by decide+kernel) (by decide+kernel) (by decide+kernel) rfl (by decide+kernel) rfl (vV aG bi rfl)) rfl) ?_
  refine aO (dc (dZ rfl rfl rfl rfl rfl (uT aG (.r6 bi rfl))) rfl) ?_
  refine aO (co false rfl rfl) ?_
  refine aO (fC rfl rfl) ?_
  refine aO (g7 rfl (fG rfl d5 (fG rfl dX (fG rfl fF (fG rfl iR rfl))))) ?_
  exact cu (dC (yo rfl (by decide+kernel) (by decide+kernel) (by decide+kernel) (by decide+kernel) rfl (bM rfl rfl (bM rfl rfl (bM rfl rfl (bM rfl rfl (bM (KI (eS rfl (by decide+kernel) (by decide+kernel) (by decide+kernel) (by decide+kernel) rfl (by decide+kernel) rfl aE)) rfl rfl))))) rfl) rfl)
 ·rfl
end
end Mine
end
section
open PySem
namespace Mine
theorem WF:du "spots"=some (aI 29):=by kernel_rfl
inductive bN where
 |leaf (k:Int) (hd:List (al×H))
 |node (k:Int) (hd:List (al×H)) (kids:List bN)
noncomputable def bN.num:bN->Int
 |.leaf k _=>k
 |.node k _ _=>k
mutual
noncomputable def bN.db:bN->List Int
 |.leaf k _=>[k]
 |.node k _ kids=>k::bN.jV kids
noncomputable def bN.jV:List bN->List Int
 |[]=>[]
 |x::r=>bN.db x++bN.jV r
end
mutual
noncomputable def dQ (ab:List H):bN->List H
 |.leaf k hd=>[bS k hd ab (er hd) true]
 |.node k hd kids=>bS k hd ab (er hd) false::ix (ab++[au k]) kids
noncomputable def ix (ab:List H):List bN->List H
 |[]=>[]
 |x::r=>dQ ab x++ix ab r
end
noncomputable def fY:List Str:=["Resources","MediaBox","CropBox","Rotate"]
noncomputable def A3 (hd:List (al×H)):Prop:=(∀k∈fY,∀v,ba (.str k) hd=some v->pN v)/\(ba (.str "Type") hd).getD .none=gz "Page"
noncomputable def wY (hd:List (al×H)) (kids:List bN):Prop:=(∀k∈fY,ba (.str k) hd=none)/\(ba (.str "Type") hd).getD .none=gz "Pages"/\ba (.str "Kids") hd=some (.am (kids.map fun x=>au x.num))
mutual
noncomputable def py (tab:List (al×H)):bN->Prop
 |.leaf k hd=>ba (.int k) tab=some (.aF [.int 0,.V hd])/\A3 hd
 |.node k hd kids=>ba (.int k) tab=some (.aF [.int 0,.V hd])/\wY hd kids/\rF tab kids
noncomputable def rF (tab:List (al×H)):List bN->Prop
 |[]=>True
 |x::r=>py tab x/\rF tab r
end
theorem zc {hd:List (al×H)} {kids:List bN} (h:wY hd kids):er hd=[]:=by
 have M:=h.1
 unfold er fQ
 (refine B (M "Resources" (by simp [fY])) ?_;refine B (M "MediaBox" (by simp [fY])) ?_;refine B (M "CropBox" (by simp [fY])) ?_;refine B (M "Rotate" (by simp [fY])) ?_;rfl)
section
variable{b:Bool} {C CQ:cs} {n:Nat} {J aX:Scope} {fs fs₁ fs₂ fs':X} {R:bk} {o:Option (bE×X)} {p:Pos} {m:Nat} {t u:Nat} {per:List H} {tab bJ:List (al×H)}
theorem Vl {x:bN} {ab:List H} (aG:per[t]? =some (.V tab)) (h:py tab x):∃hd pg,aH b (m+4) "met" [bB t u,au x.num,.aF ab,.V []] per=some (.ret (.U (bS x.num hd ab (er hd) pg)),per)/\
  ((pg=true/\x=.leaf x.num hd)\/(pg=false/\∃kids,x=.node x.num hd kids)):=by
 cases x with
 |leaf k hd=>
  refine ef h ?_;clear h;intro M O Y
  exact⟨hd,true,sg (x:=false) aG M O Y,.inl ⟨rfl,rfl⟩⟩
 |node k hd kids=>
  obtain⟨M,⟨O,Y,aC⟩,bR⟩:=h
  exact⟨hd,false,sg (x:=true) aG M (fun k ag v e=>by replace e:=(O k ag)▸e;cases e) Y,.inr ⟨rfl,kids,rfl⟩⟩
noncomputable def BJ (t u:Nat) (found:List H) (seen:List (al×H)) (line:List H) (value above inh wa:H) (per:List H):X:=
 ⟨[("shelf",.U (bB t u)),("found",.aD (.am found)),("seen",.aD (.V seen)),("line",.aD (.am line)),("value",.U value),("above",.U above),("inherited",.U inh),("spot",.U wa)],per⟩
noncomputable def hQ (t u:Nat) (found:List H) (seen:List (al×H)) (line:List H) (value above inh wa kid:H) (per:List H):X:=
 ⟨[("shelf",.U (bB t u)),("found",.aD (.am found)),("seen",.aD (.V seen)),("line",.aD (.am line)),("value",.U value),("above",.U above),("inherited",.U inh),("spot",.U wa),("kid",.U kid)],per⟩
noncomputable def gE (ab:List H) (k:Int):H:=.aF [au k,.aF ab,.V []]
noncomputable def zJ:Stmt:=iE (d4 (iE (d4 (ce (aI 29) 3)) 5)) 0
theorem AT {found line ab:List H} {seen:List (al×H)} {value inh:H} {k j:Int} {hd:List (al×H)} (aq:line.length<1000) (bz:ab.length<1000):
  cO (aJ b C CQ (n+14) (bO (aI 29))) (d4 zJ) (hQ t u found seen line value (.aF ab) inh (bS k hd ab [] false) (au j) per)=some (.next,hQ t u found seen (line++[gE (ab++[au k]) j]) value (.aF ab) inh (bS k hd ab [] false) (au j) per):=by
 refine aO (nz (gb rfl rfl (rd (v:=gE (ab++[au k]) j) (l:=line) rfl (bM (kx (bM rfl rfl (bM (dB rfl rfl rfl rfl (ud (x:=ab) (y:=[au k]) (by unfold a4;simp;exact tq bz))) rfl (bM rfl rfl rfl))) (Nat.le_of_ble_eq_true rfl)) rfl rfl) rfl (by unfold a4;exact mw aq)))) ?_
 rfl
theorem zy {found ab:List H} {seen:List (al×H)} {value inh:H} {k:Int} {hd:List (al×H)} (bz:ab.length<1000):∀{ks:List Int} {line:List H} {j:Int},line.length+ks.length<1000->
  ∃gS,f1 (aJ b C CQ (n+14) (bO (aI 29))) (bO (aI 29)) "kid" (d4 zJ) (ks.map au) (hQ t u found seen line value (.aF ab) inh (bS k hd ab [] false) (au j) per)=some (.next,hQ t u found seen (line++ks.map (gE (ab++[au k]))) value (.aF ab) inh (bS k hd ab [] false) (au gS) per)
 |[],line,j,_=>⟨j,by rw [List.map_nil,List.map_nil,List.append_nil];rfl⟩
 |i::ks,line,j,h=>by
  refine bT (zy (found:=found) (seen:=seen) (value:=value) (inh:=inh) (k:=k) (hd:=hd) bz (ks:=ks) (line:=line++[gE (ab++[au k]) i]) (j:=i) (by simp at h|-;exact I5 h)) ?_;intro gS e
  exact⟨gS,fG rfl (AT (by simp at h;exact v4 h) bz) (e.trans (by simp))⟩
end
end Mine
end
section
open PySem
namespace Mine
theorem hg {k j:al} {v:H}:∀{l:List (al×H)},ba j (cU k v l)=if j=k then some v else ba j l
 |[]=>by unfold cU ba;rfl
 |(y,w)::r=>by
  unfold cU
  by_cases e:k=y
  ·subst e
   refine B (if_pos rfl) ?_
   unfold ba
   by_cases ar:j=k<;>simp [ar]
  ·refine B (if_neg e) ?_
   unfold ba
   by_cases ar:j=y
   ·subst ar
    (refine B (if_pos rfl) ?_;refine B (if_pos rfl) ?_;refine B (if_neg (fun q=>e q.symm)) ?_;rfl)
   ·(refine B (if_neg ar) ?_;refine B (if_neg ar) ?_;refine B hg ?_;rfl)
section
variable{b:Bool} {C CQ:cs} {n:Nat} {J aX:Scope} {fs fs₁ fs₂ fs':X} {R:bk} {o:Option (bE×X)} {p:Pos} {m:Nat} {t u:Nat} {per:List H} {tab bJ:List (al×H)}
noncomputable abbrev ng (b:Bool) (CQ:cs) (m n:Nat):bk:=aJ b (aH b (m+4)) CQ (n+18) (bO (aI 29))
noncomputable abbrev qm:List Stmt:=d4 (ce (aI 29) 3)
theorem Dc {x:H} {l:List H}:eI .Eq (.am (x::l)) (.am [])=some false:=rfl
theorem Jz {found line ab:List H} {seen:List (al×H)} {va aa ia sa kid x0:H} {k:Int} {hd:List (al×H)} (aB:found.length<1000) (aq:line.length<1000) (hs:seen.length<1000)
  (aY:aH b (m+4) "met" [bB t u,au k,.aF ab,.V []] per=some (.ret (.U (bS k hd ab (er hd) true)),per)) (aE:ba (.int k) seen=none):
  cO (ng b CQ m n) qm (hQ t u (x0::found) seen (line++[gE ab k]) va aa ia sa kid per)=
   some (.next,hQ t u (x0::found++[bS k hd ab (er hd) true]) (cU (.int k) (.bool true) seen) line (au k) (.aF ab) (.V []) (bS k hd ab (er hd) true) kid per):=by
 refine aO (lq (vs:=[au k,.aF ab,.V []]) rfl (gb rfl rfl (yY rfl rfl (by unfold a4;simp;exact tq aq))) (Nat.le_of_ble_eq_true rfl) rfl) ?_
 refine aO (dc (eS rfl (by decide+kernel) (by decide+kernel) (by decide+kernel) (by decide+kernel) rfl (by decide+kernel) rfl aY) rfl) ?_
 refine aO (co false (sP (cS rfl rfl rfl rfl (q0 (kk:=.int k) rfl (by refine B aE ?_;rfl)) rfl) (n8 (cS rfl rfl rfl rfl Dc rfl))) rfl) ?_
 refine aO (gG (k:=.int k) (v:=.bool true) rfl rfl rfl (jC rfl rfl (by unfold a4;exact mw hs))) ?_
 refine aO (nz (gb rfl rfl (rd (v:=bS k hd ab (er hd) true) (l:=x0::found) rfl rfl rfl (by unfold a4;simp;exact tq aB)))) ?_
 exact aO (co false rfl rfl) rfl
theorem KA {found line ab:List H} {seen:List (al×H)} {va aa ia sa kid x0:H} {k j:Int} {hd:List (al×H)} {ks:List Int} (aB:found.length<1000) (hs:seen.length<1000) (bz:ab.length<1000) (aq:line.length+ks.length<999)
  (aY:aH b (m+4) "met" [bB t u,au k,.aF ab,.V []] per=some (.ret (.U (bS k hd ab [] false)),per)) (ag:aH b (m+4) "kids_of" [bB t u,.V hd] per=some (.ret (.U (.am (ks.map au))),per)) (aE:ba (.int k) seen=none):
  ∃gS,cO (ng b CQ m n) qm (hQ t u (x0::found) seen (line++[gE ab k]) va aa ia sa (au j) per)=
   some (.next,hQ t u (x0::found++[bS k hd ab [] false]) (cU (.int k) (.bool true) seen) (line++ks.reverse.map (gE (ab++[au k]))) (au k) (.aF ab) (.V []) (bS k hd ab [] false) (au gS) per):=by
 refine bT (zy (b:=b) (C:=aH b (m+4)) (CQ:=CQ) (n:=n+2) (t:=t) (u:=u) (per:=per) (found:=x0::found++[bS k hd ab [] false]) (ab:=ab) (seen:=cU (.int k) (.bool true) seen) (value:=au k) (inh:=.V []) (k:=k) (hd:=hd) bz (ks:=ks.reverse) (line:=line) (j:=j) (by simp;exact Rx aq)) ?_;intro gS e
 refine⟨gS,?_⟩
 refine aO (lq (vs:=[au k,.aF ab,.V []]) rfl (gb rfl rfl (yY rfl rfl (by unfold a4;simp;exact OR aq))) (Nat.le_of_ble_eq_true rfl) rfl) ?_
 refine aO (dc (eS rfl (by decide+kernel) (by decide+kernel) (by decide+kernel) (by decide+kernel) rfl (by decide+kernel) rfl aY) rfl) ?_
 refine aO (co false (sP (cS rfl rfl rfl rfl (q0 (kk:=.int k) rfl (by refine B aE ?_;rfl)) rfl) (n8 (cS rfl rfl rfl rfl Dc rfl))) rfl) ?_
 refine aO (gG (k:=.int k) (v:=.bool true) rfl rfl rfl (jC rfl rfl (by unfold a4;exact mw hs))) ?_
 refine aO (nz (gb rfl rfl (rd (v:=bS k hd ab [] false) (l:=x0::found) rfl rfl rfl (by unfold a4;simp;exact tq aB)))) ?_
 refine aO (co true rfl (aO (g7 (D3 rfl (ds (eS rfl (by decide+kernel) (by decide+kernel) (by decide+kernel) (by decide+kernel) rfl (by decide+kernel) rfl ag) rfl)) ?_) rfl)) rfl
 refine bu List.map_reverse ?_
 exact e
end
end Mine
end
section
open PySem
namespace Mine
noncomputable def h2 (stk:List (List H×bN)):List H:=stk.reverse.map fun p=>gE p.1 p.2.num
noncomputable def fN (stk:List (List H×bN)):List Int:=stk.flatMap fun p=>p.2.db
noncomputable def qI (stk:List (List H×bN)):List H:=stk.flatMap fun p=>dQ p.1 p.2
theorem B1:∀x:bN,1<=x.db.length
 |.leaf k hd=>by unfold bN.db;simp
 |.node k hd kids=>by unfold bN.db;simp
theorem tf:∀x:bN,x.num∈x.db
 |.leaf k hd=>by unfold bN.db bN.num;simp
 |.node k hd kids=>by unfold bN.db bN.num;simp
theorem wv:∀l:List bN,bN.jV l=l.flatMap bN.db
 |[]=>by simp [bN.jV]
 |x::r=>by(rw [bN.jV];refine B (wv r) ?_;refine B List.flatMap_cons ?_;rfl)
theorem x4 {ab:List H}:∀l:List bN,ix ab l=l.flatMap (dQ ab)
 |[]=>by simp [ix]
 |x::r=>by(rw [ix];refine B (x4 r) ?_;refine B List.flatMap_cons ?_;rfl)
theorem v9 {tab:List (al×H)}:∀{l:List bN},rF tab l->∀x∈l,py tab x
 |x::r,h,y,aQ=>by
  unfold rF at h
  rcases List.mem_cons.mp aQ with rfl|aQ
  ·exact h.1
  ·exact v9 h.2 y aQ
theorem w2 {y:bN}:∀{l:List bN},y∈l->y.db.length<=(l.flatMap bN.db).length
 |x::r,h=>by
  (refine B List.flatMap_cons ?_;refine B List.length_append ?_)
  rcases List.mem_cons.mp h with rfl|h
  ·exact Fx
  ·have:=w2 h;exact SS this
theorem y5 {stk:List (List H×bN)}:stk.length<=(fN stk).length:=by
 induction stk with
 |nil=>exact Nat.zero_le _
 |cons p r ih=>
  unfold fN at*
  (refine B List.flatMap_cons ?_;refine B List.length_append ?_;refine B List.length_cons ?_)
  have:=B1 p.2
  exact On ih this
section
variable{b:Bool} {C CQ:cs} {n:Nat} {J aX:Scope} {fs fs₁ fs₂ fs':X} {R:bk} {o:Option (bE×X)} {p:Pos} {m:Nat} {t u:Nat} {per:List H} {tab bJ:List (al×H)}
structure t4 (tab:List (al×H)) (seen:List (al×H)) (stk:List (List H×bN)):Prop where
 ao:∀p∈stk,py tab p.2
 ex:(fN stk).Nodup
 fresh:∀j∈fN stk,ba (.int j) seen=none
 high:∀p∈stk,p.1.length+p.2.db.length<900
theorem Tj (aG:per[t]? =some (.V tab)):∀(N:Nat) {stk:List (List H×bN)} {found:List H} {seen:List (al×H)} {va aa ia sa x0:H} {j:Int} {fuel:Nat},(fN stk).length=N->t4 tab seen stk->found.length+N<900->seen.length+N<900->N<fuel->
  ∃pk qF pK pl pt gS,gK (ng b CQ m n) (mq (ce (aI 29) 3)) qm fuel (hQ t u (x0::found) seen (h2 stk) va aa ia sa (au j) per)=some (.next,hQ t u (x0::found++qI stk) pk [] qF pK pl pt (au gS) per):=by
 intro N
 induction N using Nat.strongRecOn with
 |_ N ih=>
  intro stk found seen va aa ia sa x0 j fuel dm ok aB hs xw
  obtain⟨fuel,rfl⟩:∃f,fuel=f+1:=⟨fuel-1,by exact Gx xw⟩
  cases stk with
  |nil=>
   refine⟨seen,va,aa,ia,sa,j,?_⟩
   exact(w_end (fs₁:=hQ t u (x0::found) seen [] va aa ia sa (au j) per) (s4 rfl rfl rfl (Nat.zero_le _) rfl)).trans (by simp [qI])
  |cons q stk=>
   obtain⟨ab,x⟩:=q
   have gW:h2 ((ab,x)::stk)=h2 stk++[gE ab x.num]:=by unfold h2;(refine B List.reverse_cons ?_;refine B List.map_append ?_);rfl
   have j1:(fN ((ab,x)::stk)).length=x.db.length+(fN stk).length:=by unfold fN;(refine B List.flatMap_cons ?_;refine B List.length_append ?_;rfl)
   have qA:=y5 (stk:=stk)
   have jb:(h2 stk).length=stk.length:=by unfold h2;simp
   have xh:=ok.ao _ List.mem_cons_self
   have yU:=ok.high _ List.mem_cons_self
   dsimp only at xh yU
   have yF:∀j∈x.db,ba (.int j) seen=none:=fun j bF=>ok.fresh j (by unfold fN;refine B List.flatMap_cons ?_;exact List.mem_append_left _ bF)
   have iF:x.db.Nodup/\(fN stk).Nodup/\∀a∈x.db,∀b∈fN stk,a≠b:=by
    have:=ok.ex
    unfold fN at this
    replace this:=List.flatMap_cons▸this
    exact List.nodup_append.mp this
   have nK:(ng b CQ m n).dH (mq (ce (aI 29) 3)) (hQ t u (x0::found) seen (h2 ((ab,x)::stk)) va aa ia sa (au j) per)=some (true,hQ t u (x0::found) seen (h2 ((ab,x)::stk)) va aa ia sa (au j) per):=
    s4 rfl rfl rfl (by refine B gW ?_;unfold a4;simp;exact Nb hs dm j1 qA jb) (by refine B gW ?_;simp)
   have GP:(cU (.int x.num) (.bool true) seen).length<=seen.length+1:=pf
   have lB:=B1 x
   refine hw (Vl (b:=b) (m:=m) (u:=u) (ab:=ab) aG xh) ?_;intro hd pg aY ae
   rcases ae with⟨rfl,ae⟩|⟨rfl,kids,ae⟩
   ·have ak:=Jz (b:=b) (CQ:=CQ) (n:=n) (m:=m) (t:=t) (u:=u) (per:=per) (found:=found) (line:=h2 stk) (ab:=ab) (seen:=seen) (va:=va) (aa:=aa) (ia:=ia) (sa:=sa) (kid:=au j) (x0:=x0) (k:=x.num) (hd:=hd) (by exact q5 aB) (by exact L4 hs dm j1 qA jb) (by exact q5 hs) aY (yF _ (tf x))
    have w9:t4 tab (cU (.int x.num) (.bool true) seen) stk:=⟨fun p an=>ok.ao p (List.mem_cons_of_mem _ an),iF.2.1,fun j bF=>by
     (refine B hg ?_;refine B (if_neg (fun e=>iF.2.2 _ (tf x) j bF (by injection e with e;exact e.symm))) ?_)
     exact ok.fresh j (by unfold fN;refine B List.flatMap_cons ?_;exact List.mem_append_right _ bF),fun p an=>ok.high p (List.mem_cons_of_mem _ an)⟩
    refine uy (ih (fN stk).length (by exact J3 dm j1 lB) (stk:=stk) (found:=found++[bS x.num hd ab (er hd) true]) (seen:=cU (.int x.num) (.bool true) seen) (va:=au x.num) (aa:=.aF ab) (ia:=.V []) (sa:=bS x.num hd ab (er hd) true) (x0:=x0) (j:=j) (fuel:=fuel) rfl w9 (by simp;exact Pd aB dm j1 lB) (by exact XD hs dm j1 GP lB) (by exact PN xw dm j1 lB)) ?_;intro pk qF pK pl pt gS ar
    refine⟨pk,qF,pK,pl,pt,gS,?_⟩
    rw [gW] at nK|-
    refine pc nK ak (ar.trans ?_)
    unfold qI
    refine B List.flatMap_cons ?_
    dsimp only [kA,la,lf,kX,kN,kM,kV,lb]
    refine B ae ?_
    simp [dQ,bN.num]
   ·have vk:=xh
    replace vk:=ae▸vk
    refine ef vk ?_;clear vk;intro bH b7 c7
    have aR:=zc b7
    replace aY:=aR▸aY
    have zq:kids.map (fun y=>au y.num)=(kids.map bN.num).map au:=by refine B List.map_map ?_;rfl
    have ag:aH b (m+4) "kids_of" [bB t u,.V hd] per=some (.ret (.U (.am ((kids.map bN.num).map au))),per):=by
     have:=pr (b:=b) (m:=m+1) (u:=u) (hd:=hd) (v:=.am (kids.map fun y=>au y.num)) (l:=kids.map fun y=>au y.num) aG (by refine B b7.2.2 ?_;rfl) (.hr rfl)
     replace this:=zq▸this
     exact this
    have mv:x.db=x.num::kids.flatMap bN.db:=by refine B ae ?_;show bN.db (.node _ _ _)=_;unfold bN.db;refine B (wv _) ?_;rfl
    have kR:kids.length<=(kids.flatMap bN.db).length:=by
     have:=y5 (stk:=kids.map fun y=>(ab,y))
     unfold fN at this
     rw [List.flatMap_map] at this
     simpa using this
    have qK:x.db.length=(kids.flatMap bN.db).length+1:=by refine B mv ?_;rfl
    refine bT (KA (b:=b) (CQ:=CQ) (n:=n) (m:=m) (t:=t) (u:=u) (per:=per) (found:=found) (line:=h2 stk) (ab:=ab) (seen:=seen) (va:=va) (aa:=aa) (ia:=ia) (sa:=sa) (kid:=.none) (x0:=x0) (k:=x.num) (j:=j) (hd:=hd) (ks:=kids.map bN.num) (by exact q5 aB) (by exact q5 hs) (by exact q5 yU) (by simp;exact Rj hs dm j1 qA jb kR qK) aY ag (yF _ (tf x))) ?_;intro z4 ak
    have it:fN (kids.map (fun y=>(ab++[au x.num],y))++stk)=kids.flatMap bN.db++fN stk:=by
     unfold fN;(refine B List.flatMap_append ?_;refine B (List.flatMap_map _ _ _) ?_;rfl)
    have Gi:x.num∉kids.flatMap bN.db/\(kids.flatMap bN.db).Nodup:=by
     have:=iF.1;replace this:=mv▸this;exact List.nodup_cons.mp this
    have w9:t4 tab (cU (.int x.num) (.bool true) seen) (kids.map (fun y=>(ab++[au x.num],y))++stk):=by
     refine⟨fun p an=> ?_,?_,fun j bF=> ?_,fun p an=> ?_⟩
     ·rcases List.mem_append.mp an with an|an
      ·refine bb (List.mem_map.mp an) ?_;intro y aQ u;subst u
       exact v9 c7 y aQ
      ·exact ok.ao p (List.mem_cons_of_mem _ an)
     ·refine B it ?_
      exact List.nodup_append.mpr ⟨Gi.2,iF.2.1,fun a bz c hc=>iF.2.2 a (by refine B mv ?_;exact List.mem_cons_of_mem _ bz) c hc⟩
     ·replace bF:=it▸bF
      have b1:¬al.int j=al.int x.num:=fun e=>by
       injection e with e
       subst e
       rcases List.mem_append.mp bF with h|h
       ·exact Gi.1 h
       ·exact iF.2.2 _ (tf x) _ h rfl
      (refine B hg ?_;refine B (if_neg b1) ?_)
      rcases List.mem_append.mp bF with h|h
      ·exact yF j (by refine B mv ?_;exact List.mem_cons_of_mem _ h)
      ·exact ok.fresh j (by unfold fN;refine B List.flatMap_cons ?_;exact List.mem_append_right _ h)
     ·rcases List.mem_append.mp an with an|an
      ·refine bb (List.mem_map.mp an) ?_;intro y aQ u;subst u
       have:y.db.length<=(kids.flatMap bN.db).length:=by
        exact w2 aQ
       simp only [List.length_append,List.length_cons,List.length_nil]
       exact HL yU qK this
      ·exact ok.high p (List.mem_cons_of_mem _ an)
    obtain⟨pk,qF,pK,pl,pt,gS,ar⟩:=ih (fN (kids.map (fun y=>(ab++[au x.num],y))++stk)).length (by(refine B it ?_;refine B List.length_append ?_);exact Io dm j1 qK) (stk:=kids.map (fun y=>(ab++[au x.num],y))++stk) (found:=found++[bS x.num hd ab [] false]) (seen:=cU (.int x.num) (.bool true) seen) (va:=au x.num) (aa:=.aF ab) (ia:=.V []) (sa:=bS x.num hd ab [] false) (x0:=x0) (j:=z4) (fuel:=fuel) rfl w9
     (by refine B it ?_;simp only [List.length_append,List.length_cons,List.length_nil];exact Q8 aB dm j1 qK) (by(refine B it ?_;refine B List.length_append ?_);exact VT hs dm j1 GP qK) (by(refine B it ?_;refine B List.length_append ?_);exact Jm xw dm j1 qK)
    refine⟨pk,qF,pK,pl,pt,gS,?_⟩
    have hN:h2 (kids.map (fun y=>(ab++[au x.num],y))++stk)=h2 stk++(kids.map bN.num).reverse.map (gE (ab++[au x.num])):=by
     unfold h2
     (refine B List.reverse_append ?_;refine B List.map_append ?_;refine bu List.map_reverse ?_;refine B List.map_map ?_;refine bu List.map_reverse ?_;refine B List.map_map ?_);rfl
    replace ar:=hN▸ar
    rw [gW] at nK|-
    refine pc nK ak (ar.trans ?_)
    unfold qI
    (refine B List.flatMap_cons ?_;refine B List.flatMap_append ?_;refine B (List.flatMap_map _ _ _) ?_)
    dsimp only [kA,la,lf,kX,kN,kM,kV,lb]
    have:dQ ab x=bS x.num hd ab [] false::kids.flatMap (dQ (ab++[au x.num])):=by
     refine B ae ?_
     show dQ ab (.node _ _ _)=_
     unfold dQ
     (refine B aR ?_;refine B (x4 _) ?_);rfl
    refine B this ?_
    simp
end
end Mine
end
section
open PySem
namespace Mine
section
variable{b:Bool} {C CQ:cs} {n:Nat} {J aX:Scope} {fs fs₁ fs₂ fs':X} {R:bk} {o:Option (bE×X)} {p:Pos} {m:Nat} {t u:Nat} {per:List H} {tab bJ:List (al×H)}
noncomputable def r7 (t u:Nat) (line:List H) (per:List H):X:=⟨[("shelf",.U (bB t u)),("found",.aD (.am [])),("seen",.aD (.V [])),("line",.aD (.am line))],per⟩
theorem WS {k:Int} {hd:List (al×H)} {ks:List Int} (aq:ks.length<900) (aY:aH b (m+4) "met" [bB t u,au k,.aF [],.V []] per=some (.ret (.U (bS k hd [] [] false)),per))
  (ag:aH b (m+4) "kids_of" [bB t u,.V hd] per=some (.ret (.U (.am (ks.map au))),per)):
  ∃fs,cO (ng b CQ m n) qm (r7 t u [gE [] k] per)=some (.next,fs)/\
   ((ks=[]/\fs=BJ t u [bS k hd [] [] false] [(.int k,.bool true)] [] (au k) (.aF []) (.V []) (bS k hd [] [] false) per)\/
    ∃j,fs=hQ t u [bS k hd [] [] false] [(.int k,.bool true)] (ks.reverse.map (gE [au k])) (au k) (.aF []) (.V []) (bS k hd [] [] false) (au j) per):=by
 have key:∀fs,f1 (aJ b (aH b (m+4)) CQ (n+16) (bO (aI 29))) (bO (aI 29)) "kid" (d4 zJ) (ks.map au).reverse (BJ t u [bS k hd [] [] false] [(.int k,.bool true)] [] (au k) (.aF []) (.V []) (bS k hd [] [] false) per)=some (.next,fs)->
   cO (ng b CQ m n) qm (r7 t u [gE [] k] per)=some (.next,fs):=fun fs e=>by
  refine aO (lq (vs:=[au k,.aF [],.V []]) rfl (gb rfl rfl (yY (l:=[]) rfl rfl (Nat.le_of_ble_eq_true rfl))) (Nat.le_of_ble_eq_true rfl) rfl) ?_
  refine aO (dc (eS rfl (by decide+kernel) (by decide+kernel) (by decide+kernel) (by decide+kernel) rfl (by decide+kernel) rfl aY) rfl) ?_
  refine aO (co false (sP (cS rfl rfl rfl rfl (q0 (kk:=.int k) rfl rfl) rfl) (kG (cS rfl rfl rfl rfl rfl rfl) rfl)) rfl) ?_
  refine aO (gG (k:=.int k) (v:=.bool true) rfl rfl rfl (jC rfl rfl (Nat.le_of_ble_eq_true rfl))) ?_
  refine aO (nz (gb rfl rfl (rd (v:=bS k hd [] [] false) (l:=[]) rfl rfl rfl (Nat.le_of_ble_eq_true rfl)))) ?_
  exact aO (co true rfl (aO (g7 (D3 rfl (ds (eS rfl (by decide+kernel) (by decide+kernel) (by decide+kernel) (by decide+kernel) rfl (by decide+kernel) rfl ag) rfl)) e) rfl)) rfl
 replace key:=(Eq.symm List.map_reverse)▸key
 cases jN:ks.reverse with
 |nil=>
  have:ks=[]:=by simpa using jN
  refine⟨_,key _ (by refine B jN ?_;rfl),.inl ⟨this,rfl⟩⟩
 |cons i r=>
  have aP:r.length<900:=by have:=congrArg List.length jN;simp at this;exact WU aq this
  refine bT (zy (b:=b) (C:=aH b (m+4)) (CQ:=CQ) (n:=n+2) (t:=t) (u:=u) (per:=per) (found:=[bS k hd [] [] false]) (ab:=[]) (seen:=[(.int k,.bool true)]) (value:=au k) (inh:=.V []) (k:=k) (hd:=hd) (by simp) (ks:=r) (line:=[gE [au k] i]) (j:=i) (by simp;exact P6 aP)) ?_;intro gS e
  refine⟨_,key _ ?_,.inr ⟨gS,rfl⟩⟩
  refine B jN ?_
  exact fG (fs₁:=hQ t u [bS k hd [] [] false] [(.int k,.bool true)] [] (au k) (.aF []) (.V []) (bS k hd [] [] false) (au i) per) rfl (AT (line:=[]) (by simp) (by simp)) e
structure kO (tab bJ:List (al×H)) (x:bN):Prop where
 jE:∃a6 qh,(ba (.str "Root") bJ).getD .none=au a6/\ba (.int a6) tab=some (.aF [.int 0,.V qh])/\ba (.str "Pages") qh=some (au x.num)
 node:∃k hd kids,x=.node k hd kids
 ao:py tab x
 ex:x.db.Nodup
 fu:x.db.length<400
theorem ub {x:bN} (aG:per[t]? =some (.V tab)) (b2:per[u]? =some (.V bJ)) (ae:kO tab bJ x):aH b (m+5) "spots" [bB t u] per=some (.ret (.own (.am (dQ [] x))),per):=by
 refine dP ae.jE ?_;intro a6 qh eC ez hX
 refine p3 ae.node ?_;intro k hd kids u;subst u
 refine ef ae.ao ?_;intro bH b7 c7
 have aR:=zc b7
 have aY:=sg (b:=b) (m:=m) (u:=u) (ab:=[]) (x:=true) aG bH (fun k ag v e=>by replace e:=(b7.1 k ag)▸e;cases e) b7.2.1
 replace aY:=aR▸aY
 have zq:kids.map (fun y=>au y.num)=(kids.map bN.num).map au:=by refine B List.map_map ?_;rfl
 have ag:aH b (m+4) "kids_of" [bB t u,.V hd] per=some (.ret (.U (.am ((kids.map bN.num).map au))),per):=by
  have:=pr (b:=b) (m:=m+1) (u:=u) (hd:=hd) (v:=.am (kids.map fun y=>au y.num)) (l:=kids.map fun y=>au y.num) aG (by refine B b7.2.2 ?_;rfl) (.hr rfl)
  replace this:=zq▸this
  exact this
 have mv:bN.db (.node k hd kids)=k::kids.flatMap bN.db:=by unfold bN.db;(refine B (wv _) ?_;rfl)
 have fp:=ae.fu
 have ft:=ae.ex
 rw [mv] at fp ft
 simp only [List.length_cons] at fp
 have kR:kids.length<=(kids.flatMap bN.db).length:=by
  have:=y5 (stk:=kids.map fun y=>(([]:List H),y))
  unfold fN at this
  rw [List.flatMap_map] at this
  simpa using this
 refine bb (WS (b:=b) (CQ:=aH false (m+4)) (n:=21) (m:=m) (t:=t) (u:=u) (per:=per) (k:=k) (hd:=hd) (ks:=kids.map bN.num) (by simp;exact JV fp kR) aY ag) ?_;intro fs ak ar
 have Dn:dQ [] (.node k hd kids)=bS k hd [] [] false::kids.flatMap (dQ [au k]):=by unfold dQ;(refine B aR ?_;refine B (x4 _) ?_);rfl
 refine c6 WF ?_
 have cI:∀fs',gK (ng b (aH false (m+4)) m 21) (mq (ce (aI 29) 3)) qm ml (r7 t u [gE [] k] per)=some (.next,fs')->getL "found" fs'.loc=some (.aD (.am (dQ [] (.node k hd kids))))->fs'.per=per->
   jm b (aH b (m+4)) (aH false (m+4)) (aI 29) [bB t u] per=some (.ret (.own (.am (dQ [] (.node k hd kids)))),per):=fun fs' xb mz sw=>by
  apply dr rfl
  ·refine aO (fC rfl rfl) ?_
   refine aO (fC rfl rfl) ?_
   refine aO (fC (zm (bM (kx (bM (gb rfl (dZ rfl rfl rfl rfl rfl (wX (m:=m+1) aG b2 eC (.r6 ez rfl))) (nh (kk:=.str "Pages") (l:=qh) (x:=au k) rfl rfl rfl rfl (by refine B hX ?_;rfl))) rfl (bM rfl rfl (bM rfl rfl rfl))) (Nat.le_of_ble_eq_true rfl)) rfl rfl) (Nat.le_of_ble_eq_true rfl)) rfl) ?_
   refine aO (qQ xb) ?_
   exact cu (q6 rfl (by decide+kernel) mz)
  ·exact sw
 have nK:(ng b (aH false (m+4)) m 21).dH (mq (ce (aI 29) 3)) (r7 t u [gE [] k] per)=some (true,r7 t u [gE [] k] per):=s4 rfl rfl rfl (Nat.le_of_ble_eq_true rfl) rfl
 rcases ar with⟨aL,rfl⟩|⟨j,rfl⟩
 ·have aL:kids=[]:=by simpa using aL
  subst aL
  refine cI _ (pc (m:=999999) nK ak (w_end (m:=999998) (s4 rfl rfl rfl (Nat.zero_le _) rfl))) ?_ rfl
  refine B Dn ?_;rfl
 ·have hN:h2 (kids.map fun y=>([au k],y))=(kids.map bN.num).reverse.map (gE [au k]):=by
   unfold h2
   (refine bu List.map_reverse ?_;refine B List.map_map ?_;refine bu List.map_reverse ?_;refine B List.map_map ?_);rfl
  have it:fN (kids.map fun y=>([au k],y))=kids.flatMap bN.db:=by unfold fN;(refine B (List.flatMap_map _ _ _) ?_;rfl)
  refine cl (List.nodup_cons.mp ft) ?_;intro k7 ky
  have ok:t4 tab [(.int k,.bool true)] (kids.map fun y=>([au k],y)):=by
   refine⟨fun p an=> ?_,by refine B it ?_;exact ky,fun j bF=> ?_,fun p an=> ?_⟩
   ·refine bb (List.mem_map.mp an) ?_;intro y aQ u;subst u
    exact v9 c7 y aQ
   ·replace bF:=it▸bF
    unfold ba
    refine B (if_neg (fun e=>by injection e with e;subst e;exact k7 bF)) ?_;rfl
   ·refine bb (List.mem_map.mp an) ?_;intro y aQ u;subst u
    have:=w2 aQ
    simp only [List.length_cons,List.length_nil]
    exact Sz fp this
  refine uy (Tj (b:=b) (CQ:=aH false (m+4)) (n:=21) (m:=m) (t:=t) (u:=u) (per:=per) aG _ (found:=[]) (va:=au k) (aa:=.aF []) (ia:=.V []) (sa:=bS k hd [] [] false) (x0:=bS k hd [] [] false) (j:=j) (fuel:=999999) rfl ok (by refine B it ?_;simp only [List.length_nil];exact Oo fp) (by refine B it ?_;simp only [List.length_cons,List.length_nil];exact LF fp) (by refine B it ?_;exact T6 fp)) ?_;intro pk qF pK pl pt gS bP
  replace bP:=hN▸bP
  refine cI _ (pc (m:=999999) nK ak bP) ?_ rfl
  refine B Dn ?_
  show some (cf.aD (.am (bS k hd [] [] false::[]++qI _)))=_
  unfold qI
  refine B (List.flatMap_map _ _ _) ?_;rfl
end
end Mine
end
section
open PySem
namespace Mine
theorem We:du "turned"=some (aI 24):=by kernel_rfl
theorem Tc:du "lay"=some (aI 41):=by kernel_rfl
theorem U5:du "is_count"=some (aI 34):=by kernel_rfl
theorem Wk:du "page_spots"=some (aI 31):=by kernel_rfl
section
variable{b:Bool} {C CQ:cs} {n:Nat} {J aX:Scope} {fs fs₁ fs₂ fs':X} {R:bk} {o:Option (bE×X)} {p:Pos} {m:Nat} {t u:Nat} {per:List H} {tab bJ:List (al×H)}
theorem hS {elt iter:Expr} {x:Str} {px:Pos} {ifs:List Expr} {items ck:List H} (h:hG (aJ b C CQ n J) J iter fs=some (items,fs₁)) (M:items.length<=a4) (O:(aX.names.lookup x==some .local&&n4 J aX)=true) (Y:ga (aJ b C CQ n aX) x ifs elt items {fs₁ with loc:=mg aX fs₁.loc}=some (ck,fs₂)):
  (aJ b C CQ (n+1) J).a9 (.ListComp elt [⟨.Name x px,iter,ifs,0⟩] aX p) fs=some (.own (.am ck),{fs₁ with per:=fs₂.per}):=bp rfl (bd h (cQ (Bool.and_eq_true_iff.mpr ⟨decide_eq_true M,O⟩) (bd Y rfl)))
theorem set_set {x:Str} {v w:cf}:∀{l:List (Str×cf)},bX x v (bX x w l)=bX x v l
 |[]=>by simp [bX]
 |(y,z)::r=>by
  by_cases e:x=y
  ·subst e;simp [bX]
  ·have M:bX x w ((y,z)::r)=(y,z)::bX x w r:=by show(if x=y then _ else _)=_;(refine B (if_neg e) ?_;rfl)
   have O:∀q,bX x v ((y,z)::q)=(y,z)::bX x v q:=fun q=>by show(if x=y then _ else _)=_;(refine B (if_neg e) ?_;rfl)
   (refine B M ?_;refine B (O _) ?_;refine B (O _) ?_;refine B set_set ?_;rfl)
theorem qR {x:Str} {L:List (Str×cf)} {fs:X} (v:H) (aB:fs=⟨L,per⟩\/∃w,fs=⟨bX x w L,per⟩):({fs with loc:=bX x (.U v) fs.loc}:X)=⟨bX x (.U v) L,per⟩:=by
 rcases aB with rfl|⟨w,rfl⟩
 ·rfl
 ·exact congrArg (X.mk · per) set_set
theorem rY {x:Str} {L:List (Str×cf)} {fs:X} {α:Type} {a:α} (aB:fs=⟨L,per⟩\/∃w,fs=⟨bX x w L,per⟩):∃l,some (a,fs)=some (a,(⟨l,per⟩:X)):=by
 rcases aB with rfl|⟨w,rfl⟩<;>exact⟨_,rfl⟩
theorem vL {elt:Expr} {x:Str} {L:List (Str×cf)} {f:H->H} {items:List H}:∀{fs:X},(∀v∈items,d0 R elt ⟨bX x (.U v) L,per⟩=some (f v,⟨bX x (.U v) L,per⟩))->(fs=⟨L,per⟩\/∃w,fs=⟨bX x w L,per⟩)->∃l,ga R x [] elt items fs=some (items.map f,⟨l,per⟩):=by
 induction items with
 |nil=>exact fun _ aB=>rY aB
 |cons v r ih=>exact fun h aB=>(ih (fun y aQ=>h y (List.mem_cons_of_mem _ aQ)) (.inr ⟨.U v,rfl⟩)).elim fun l e=>⟨l,bd rfl (bd ((congrArg (d0 R elt) (qR v aB)).trans (h v List.mem_cons_self)) (bd e rfl))⟩
theorem vW {elt:Expr} {x:Str} {v y:H} {t ck:List H} (M:d0 R elt {fs with loc:=bX x (.U v) fs.loc}=some (y,fs₁)) (O:ga R x [] elt t fs₁=some (ck,fs₂)):ga R x [] elt (v::t) fs=some (y::ck,fs₂):=bd rfl (bd M (bd O rfl))
theorem xZ {elt c:Expr} {x:Str} {L:List (Str×cf)} {f:H->H} {q:H->Bool} {items:List H}:∀{fs:X},(∀v∈items,R.dH c ⟨bX x (.U v) L,per⟩=some (q v,⟨bX x (.U v) L,per⟩))->(∀v∈items,q v=true->d0 R elt ⟨bX x (.U v) L,per⟩=some (f v,⟨bX x (.U v) L,per⟩))->
  (fs=⟨L,per⟩\/∃w,fs=⟨bX x w L,per⟩)->∃l,ga R x [c] elt items fs=some ((items.filter q).map f,⟨l,per⟩):=by
 induction items with
 |nil=>exact fun _ _ aB=>rY aB
 |cons v r ih=>
  intro fs aA h aB
  refine(ih (fun y aQ=>aA y (List.mem_cons_of_mem _ aQ)) (fun y aQ=>h y (List.mem_cons_of_mem _ aQ)) (.inr ⟨.U v,rfl⟩)).elim fun l e=>⟨l,bd ((congrArg (R.dH c) (qR v aB)).trans (aA v List.mem_cons_self)) ?_⟩
  cases ay:q v with
  |true=>exact bd (h v List.mem_cons_self ay) (bd e (by refine B (List.filter_cons_of_pos ay) ?_;rfl))
  |false=>exact e.trans (by(refine B (List.filter_cons_of_neg (by rw [ay];decide)) ?_;rfl))
theorem D1 {k:Int} {v:H} (aG:per[t]? =some (.V tab)) (aq:tab.length<=a4):aH b (m+2) "lay" [bB t u,au k,v] per=some (.ret (.U .none),per.set t (.V (cU (.int k) (.aF [.int 0,v]) tab))):=by
 refine c6 Tc ?_
 apply vc rfl
 ·exact aO (nz (dZ rfl rfl rfl rfl rfl (VF aG aq))) rfl
 ·rfl
theorem Aw {e:Expr} {z:Bool} (h:R.a9 e fs=some (.U (.bool z),fs₁)):oa R [e] fs=some (z,fs₁):=bd h (bp rfl (bp rfl (el (by simp) rfl)))
theorem yX {e cg:Expr} {l:List Expr} {o:Option (Bool×X)} (h:R.a9 e fs=some (.U (.bool true),fs₁)) (O:oa R (cg::l) fs₁=o):oa R (e::cg::l) fs=o:=bd h (bp rfl (bp rfl O))
theorem Ff {i:Int}:aH b (m+1) "is_count" [.int i] per=some (.ret (.U (.bool (decide (0<=i)))),per):=by
 refine c6 U5 ?_
 apply dr rfl
 ·exact cu (dC (bd (yX rfl (yX rfl (Aw rfl))) rfl) rfl)
 ·rfl
noncomputable def kp (d:List (al×H)) (q:al×H):List (al×H):=if fE q.2 then ib q.1 d else cU q.1 q.2 d
noncomputable def hR (hd ch:List (al×H)):List (al×H):=ch.foldl kp hd
theorem BD {k:al}:∀{l:List (al×H)},(ib k l).length<=l.length
 |[]=>Nat.le_refl _
 |(y,w)::r=>by
  unfold ib
  split
  ·simp
  ·have:=BD (k:=k) (l:=r);simp only [List.length_cons];exact XQ this
theorem BP {d:List (al×H)} {q:al×H}:(kp d q).length<=d.length+1:=by
 unfold kp;split
 ·have:=BD (k:=q.1) (l:=d);exact Jx this
 ·exact pf
noncomputable def mZ (hd ch d:List (al×H)) (k:Str) (per:List H):X:=⟨[("head",.U (.V hd)),("changes",.U (.V ch)),("found",.aD (.V d)),("key",.U (.str k))],per⟩
theorem CP {hd ch d:List (al×H)} {k:Str} {v:H} (bi:ba (.str k) ch=some v) (ay:iH v=true) (aq:d.length<=a4):
  cO (aJ b C CQ (n+14) (bO (aI 24))) (d4 (ce (aI 24) 1)) (mZ hd ch d k per)=some (.next,mZ hd ch (kp d (.str k,v)) k per):=by
 have ke:∀{N gU hB iN},(aJ b C CQ (N+3) (bO (aI 24))).a9 (.Subscript (.Name "changes" gU) (.Name "key" hB) iN) (mZ hd ch d k per)=some (.U v,mZ hd ch d k per):=fun{N gU hB iN}=>by
  exact f3 rfl rfl rfl rfl (bp rfl bi)
 cases aE:fE v with
 |true=>
  have e:kp d (.str k,v)=ib (.str k) d:=by unfold kp;(refine B (if_pos aE) ?_;rfl)
  refine B e ?_
  exact aO (co true (cS ke rfl (uh ay) rfl (x:=true) (by show some (fE v)=_;(refine B aE ?_;rfl)) rfl) (aO (nz (gb rfl rfl (WM (kk:=.str k) (l:=d) rfl rfl rfl rfl aq))) rfl)) rfl
 |false=>
  have e:kp d (.str k,v)=cU (.str k) v d:=by unfold kp;(refine B (if_neg (by rw [aE];decide)) ?_;rfl)
  refine B e ?_
  exact aO (co false (cS ke rfl (uh ay) rfl (x:=false) (by show some (fE v)=_;(refine B aE ?_;rfl)) rfl) (aO (gG (v:=v) (k:=.str k) (r:=.var "found") (ds ke rfl) rfl rfl (jC (l:=d) rfl rfl aq)) rfl)) rfl
end
end Mine
end
section
open PySem
namespace Mine
theorem XO:du "fields_of"=some (aI 30):=by kernel_rfl
theorem M5:du "pages"=some (aI 32):=by kernel_rfl
section
variable{b:Bool} {C CQ:cs} {n:Nat} {J aX:Scope} {fs fs₁ fs₂ fs':X} {R:bk} {o:Option (bE×X)} {p:Pos} {m:Nat} {t u:Nat} {per:List H} {tab bJ:List (al×H)}
theorem wz {k:al} {v:H}:∀{l:List (al×H)},(l.map (·.1)).Nodup->(k,v)∈l->ba k l=some v
 |(y,w)::r,aE,h=>by
  refine cl (List.nodup_cons.mp aE) ?_;intro M O
  unfold ba
  rcases List.mem_cons.mp h with e|h
  ·cases e;(refine B (if_pos rfl) ?_;rfl)
  ·refine B (if_neg (fun e=>M (by rw [<-e];exact List.mem_map.mpr ⟨_,h,rfl⟩))) ?_
   exact wz O h
structure sX (ch:List (al×H)):Prop where
 str:∀q∈ch,∃k,q.1=.str k/\iH q.2=true
 ex:(ch.map (·.1)).Nodup
theorem Ec {hd ch:List (al×H)} (hc:sX ch):∀{l d:List (al×H)} {k:Str},(∀q∈l,q∈ch)->d.length+l.length<1000->
  ∃cY,f1 (aJ b C CQ (n+14) (bO (aI 24))) (bO (aI 24)) "key" (d4 (ce (aI 24) 1)) (l.map fun p=>p8 p.1) (mZ hd ch d k per)=some (.next,mZ hd ch (l.foldl kp d) cY per)
 |[],d,k,_,_=>⟨k,rfl⟩
 |(key,v)::l,d,k,aY,aq=>by
  refine bb (hc.str _ (aY _ List.mem_cons_self)) ?_;intro s hs ay
  dsimp only at hs ay
  subst hs
  have bC:=BP (d:=d) (q:=(.str s,v))
  simp only [List.length_cons] at aq
  refine bT (Ec (hd:=hd) hc (l:=l) (d:=kp d (.str s,v)) (k:=s) (fun q aA=>aY q (List.mem_cons_of_mem _ aA)) (by exact z7 aq bC)) ?_;intro cY e
  exact⟨cY,fG (fs₁:=mZ hd ch d s per) rfl (CP (wz hc.ex (aY _ List.mem_cons_self)) ay (by unfold a4;exact OZ aq)) e⟩
theorem qN {hd ch:List (al×H)} (hc:sX ch) (aq:hd.length+ch.length<900):aH b (m+1) "turned" [.V hd,.V ch] per=some (.ret (.own (.V (hR hd ch))),per):=by
 refine c6 We ?_
 have aL:gH "dict" (.V hd)=some (.own (.V hd)):=AB (by unfold a4;exact XZ aq)
 have start:∀fs',f1 (aJ b (aH b m) (aH false m) 39 (bO (aI 24))) (bO (aI 24)) "key" (d4 (ce (aI 24) 1)) (ch.map fun p=>p8 p.1) ⟨[("head",.U (.V hd)),("changes",.U (.V ch)),("found",.aD (.V hd))],per⟩=some (.next,fs')->getL "found" fs'.loc=some (.aD (.V (hR hd ch)))->fs'.per=per->
   jm b (aH b m) (aH false m) (aI 24) [.V hd,.V ch] per=some (.ret (.own (.V (hR hd ch))),per):=fun fs' xb mz sw=>by
  apply dr rfl
  ·refine aO (fC (kE rfl (by decide+kernel) (by decide+kernel) rfl rfl rfl aL) rfl) ?_
   refine aO (g7 (QR rfl (ds (r:=.U (.V ch)) rfl rfl)) xb) ?_
   exact cu (q6 rfl (by decide+kernel) mz)
  ·exact sw
 cases ch with
 |nil=>exact start _ rfl rfl rfl
 |cons q r=>
  obtain⟨key,v⟩:=q
  refine bb (hc.str _ List.mem_cons_self) ?_;intro s hs ay
  dsimp only at hs ay
  subst hs
  have bC:=BP (d:=hd) (q:=(.str s,v))
  simp only [List.length_cons] at aq
  refine bT (Ec (b:=b) (C:=aH b m) (CQ:=aH false m) (n:=25) (per:=per) (hd:=hd) hc (l:=r) (d:=kp hd (.str s,v)) (k:=s) (fun q aA=>List.mem_cons_of_mem _ aA) (by exact QP aq bC)) ?_;intro cY e
  exact start _ (fG (fs₁:=mZ hd ((.str s,v)::r) hd s per) rfl (CP (n:=25) (wz hc.ex List.mem_cons_self) ay (by unfold a4;exact Ge aq)) e) rfl rfl
noncomputable def xj:H->Bool
 |.dT _ l=>match iC "is_page" l with|some (.bool x)=>x|_=>false
 |_=>false
noncomputable def eo (x:bN):List H:=(dQ [] x).filter xj
theorem p4:∀(x:bN) (ab:List H),∀v∈dQ ab x,∃k hd ab' inh pg,v=bS k hd ab' inh pg:=by
 intro x
 induction x using bN.rec (motive_2:=fun l=>∀ab,∀v∈ix ab l,∃k hd ab' inh pg,v=bS k hd ab' inh pg) with
 |leaf k hd=>intro ab v ay;unfold dQ at ay;exact⟨_,_,_,_,_,List.mem_singleton.mp ay⟩
 |node k hd kids ih=>
  intro ab v ay
  unfold dQ at ay
  rcases List.mem_cons.mp ay with rfl|ay
  ·exact⟨_,_,_,_,_,rfl⟩
  ·exact ih _ v ay
 |nil=>rename_i ab v ay;unfold ix at ay;cases ay
 |cons x r xD wE=>
  rename_i ab v ay
  unfold ix at ay
  rcases List.mem_append.mp ay with ay|ay
  ·exact xD _ v ay
  ·exact wE _ v ay
theorem tG:∀(x:bN) (ab:List H),(dQ ab x).length=x.db.length:=by
 intro x
 induction x using bN.rec (motive_2:=fun l=>∀ab,(ix ab l).length=(bN.jV l).length) with
 |leaf k hd=>intro ab;unfold dQ bN.db;rfl
 |node k hd kids ih=>intro ab;unfold dQ bN.db;(refine B List.length_cons ?_;refine B List.length_cons ?_;refine B (ih _) ?_;rfl)
 |nil=>unfold ix bN.jV;rfl
 |cons x r xD wE=>rename_i ab;unfold ix bN.jV;(refine B List.length_append ?_;refine B List.length_append ?_;refine B (xD _) ?_;refine B (wE _) ?_;rfl)
theorem Lg {x:bN} (aG:per[t]? =some (.V tab)) (b2:per[u]? =some (.V bJ)) (ae:kO tab bJ x):aH b (m+6) "page_spots" [bB t u] per=some (.ret (.own (.am (eo x))),per):=by
 refine c6 Wk ?_
 obtain⟨l,e⟩:=xZ (R:=aJ b (aH b (m+5)) (aH false (m+5)) 38 (iv (ek (ce (aI 31) 0) []))) (per:=per)
  (elt:=ek (ce (aI 31) 0) [0]) (c:=ek (ce (aI 31) 0) [2]) (x:="spot") (L:=[]) (f:=fun v=>v) (q:=xj) (items:=dQ [] x) (fs:=⟨[],per⟩)
  (fun v ay=>by obtain⟨k,hd,ab',inh,pg,rfl⟩:=p4 x [] v ay;cases pg<;>rfl) (fun v ay _=>by obtain⟨k,hd,ab',inh,pg,rfl⟩:=p4 x [] v ay;rfl) (.inl rfl)
 replace e:=(List.map_id' _)▸e
 apply dr rfl
 ·exact cu (dC (hS (hl rfl (ds (eS rfl (by decide+kernel) (by decide+kernel) (by decide+kernel) (by decide+kernel) rfl (by decide+kernel) rfl (ub aG b2 ae)) rfl)) (by refine B (tG _ _) ?_;have:=ae.fu;unfold a4;exact v6 this) rfl e) rfl)
 ·rfl
end
end Mine
end
section
open PySem
namespace Mine
section
variable{b:Bool} {C CQ:cs} {n:Nat} {J aX:Scope} {fs fs₁ fs₂ fs':X} {R:bk} {o:Option (bE×X)} {p:Pos} {m:Nat} {t u:Nat} {per:List H} {tab bJ:List (al×H)}
theorem uI {hd g:List (al×H)} {k j:Str}:ba (.str j) (fQ hd g k)=if j=k then(match ba (.str k) hd with|some v=>some v|none=>ba (.str j) g) else ba (.str j) g:=by
 unfold fQ
 cases h:ba (.str k) hd with
 |none=>by_cases e:j=k<;>simp [e]
 |some v=>
  dsimp only [kA,la,lf,kX,kN,kM,kV,lb]
  refine B hg ?_
  by_cases e:j=k
  ·subst e;simp
  ·(refine B (if_neg (fun q=>e (by injection q))) ?_;refine B (if_neg e) ?_;rfl)
theorem yG {hd:List (al×H)} {k:Str} (ag:k∈fY):ba (.str k) (er hd)=ba (.str k) hd:=by
 unfold er
 simp only [fY,List.mem_cons,List.not_mem_nil,or_false] at ag
 rcases ag with rfl|rfl|rfl|rfl<;>
 ·(refine B uI ?_;refine B uI ?_;refine B uI ?_;refine B uI ?_)
  simp only [tv,String.reduceEq,if_true,if_false,ba]
  split<;>simp_all
noncomputable def FA (t u:Nat) (sp:H) (d:List (al×H)) (k:Str) (per:List H):X:=⟨[("shelf",.U (bB t u)),("spot",.U sp),("found",.aD (.V d)),("key",.U (.str k))],per⟩
theorem uC {k0:Int} {hd:List (al×H)} {ab:List H} {pg:Bool} {k:Str} (aG:per[t]? =some (.V tab)) (ag:k∈fY) (an:∀v,ba (.str k) hd=some v->pN v):
  cO (aJ b (aH b (m+2)) CQ (n+16) (bO (aI 30))) (d4 (ce (aI 30) 1)) (FA t u (bS k0 hd ab (er hd) pg) hd k per)=some (.next,FA t u (bS k0 hd ab (er hd) pg) hd k per):=by
 cases bi:ba (.str k) hd with
 |none=>exact aO (co false (n8 (cS rfl rfl rfl rfl (q0 (kk:=.str k) rfl (by(refine B (yG ag) ?_;refine B bi ?_);rfl)) rfl)) rfl) rfl
 |some v=>
  refine cl (an v bi) ?_;intro M O
  exact aO (co false (kG (cS rfl rfl rfl rfl (q0 (kk:=.str k) rfl (by(refine B (yG ag) ?_;refine B bi ?_);rfl)) rfl) (cS (dZ rfl rfl rfl rfl rfl (kJ aG (v:=v) (by refine B bi ?_;rfl) (.hr M))) rfl (qq M) rfl (x:=false) (by show some (fE v)=_;(refine B O ?_;rfl)) rfl)) rfl) rfl
theorem GD {k0:Int} {hd:List (al×H)} {ab:List H} {pg:Bool} (aG:per[t]? =some (.V tab)) (an:∀k∈fY,∀v,ba (.str k) hd=some v->pN v) (aq:hd.length<=a4):
  aH b (m+3) "fields_of" [bB t u,bS k0 hd ab (er hd) pg] per=some (.ret (.own (.V hd)),per):=by
 have d5:=uC (b:=b) (CQ:=aH false (m+2)) (n:=23) (m:=m) (u:=u) (k0:=k0) (ab:=ab) (pg:=pg) (k:="Resources") aG (by simp [fY]) (an _ (by simp [fY]))
 have dX:=uC (b:=b) (CQ:=aH false (m+2)) (n:=23) (m:=m) (u:=u) (k0:=k0) (ab:=ab) (pg:=pg) (k:="MediaBox") aG (by simp [fY]) (an _ (by simp [fY]))
 have fF:=uC (b:=b) (CQ:=aH false (m+2)) (n:=23) (m:=m) (u:=u) (k0:=k0) (ab:=ab) (pg:=pg) (k:="CropBox") aG (by simp [fY]) (an _ (by simp [fY]))
 have iR:=uC (b:=b) (CQ:=aH false (m+2)) (n:=23) (m:=m) (u:=u) (k0:=k0) (ab:=ab) (pg:=pg) (k:="Rotate") aG (by simp [fY]) (an _ (by simp [fY]))
 refine c6 XO ?_
 apply dr rfl
 ·refine aO (fC (kE rfl (by decide+kernel) (by decide+kernel) rfl rfl rfl (AB aq)) rfl) ?_
  refine aO (g7 rfl (fG rfl d5 (fG rfl dX (fG rfl fF (fG rfl iR rfl))))) ?_
  exact cu (dC rfl rfl)
 ·rfl
theorem zF:du "is_parent"=some (aI 38):=by kernel_rfl
theorem NZ {k0:Int} {hd inh:List (al×H)} {pg:Bool} {v:H} (bi:(ba (.str "Parent") hd).getD .none=v) (ay:iH v=true):aH b (m+1) "is_parent" [bS k0 hd [] inh pg] per=some (.ret (.U (.bool (fE v))),per):=by
 refine c6 zF ?_
 apply dr rfl
 ·refine aO (dc (gb rfl rfl (nh (kk:=.str "Parent") (l:=hd) (x:=v) rfl rfl rfl rfl bi)) rfl) ?_
  refine cu (co true (cS rfl rfl rfl rfl rfl rfl) (cu (dC (vT rfl rfl (uh ay) rfl rfl) rfl)))
 ·rfl
theorem Lo {k0 j:Int} {hd inh:List (al×H)} {ab:List H} {pg:Bool} (bz:ab.length<900) (bi:(ba (.str "Parent") hd).getD .none=.none):aH b (m+2) "is_parent" [bS k0 hd (ab++[au j]) inh pg] per=some (.ret (.U (.bool false)),per):=by
 refine c6 zF ?_
 have b1:eI .Eq (.aF (ab++[au j])) (.aF [])=some false:=by
  cases ab<;>rfl
 apply dr rfl
 ·refine aO (dc (gb rfl rfl (nh (kk:=.str "Parent") (l:=hd) (x:=.none) rfl rfl rfl rfl bi)) rfl) ?_
  refine aO (co false (cS rfl rfl rfl rfl b1 rfl) rfl) ?_
  exact cu (dC rfl rfl)
 ·rfl
theorem B5 {x y:Expr} {z:Bool} (M:(aJ b C CQ n J).a9 x fs=some (.U (.bool true),fs₁)) (O:(aJ b C CQ n J).a9 y fs₁=some (.U (.bool z),fs₂)):(aJ b C CQ (n+1) J).a9 (.BoolOp .And [x,y] p) fs=some (.U (.bool z),fs₂):=bd (yX M (Aw O)) rfl
theorem vQ {ab:List H} {v:H}:oh (.aF (ab++[v])) (.int (-1))=some v:=by
 have O:kb (-1) (ab++[v]).length=some ab.length:=by
  refine B List.length_append ?_
  exact el (by decide) (cQ (show(0:Int)<= -1+((ab.length+1:Nat):Int) by exact kc) (congrArg some (show(-1+((ab.length+1:Nat):Int)).toNat=_ by exact oY)))
 have Y:rs (ab++[v]) (.int (-1))=br (kb (-1) (ab++[v]).length) fun j=>(ab++[v])[j]? :=rfl
 exact Y.trans (bp O List.getElem?_concat_length)
theorem DJ {i j:Int}:eI .Eq (.aF [.int i,.int 0]) (.aF [.int j,.int 0])=some (decide (i=j)):=by
 show some ((i==j)&&(((0:Int)==0)&&true))=_
 by_cases h:i=j<;>simp [h]
theorem I9 {k0 i j:Int} {hd inh:List (al×H)} {ab:List H} {pg:Bool} (bi:(ba (.str "Parent") hd).getD .none=au i):aH b (m+2) "is_parent" [bS k0 hd (ab++[au j]) inh pg] per=some (.ret (.U (.bool (decide (i=j)))),per):=by
 refine c6 zF ?_
 have b1:eI .Eq (.aF (ab++[au j])) (.aF [])=some false:=by
  cases ab<;>rfl
 apply dr rfl
 ·refine aO (dc (gb rfl rfl (nh (kk:=.str "Parent") (l:=hd) (x:=au i) rfl rfl rfl rfl bi)) rfl) ?_
  refine aO (co false (cS rfl rfl rfl rfl b1 rfl) rfl) ?_
  exact cu (dC (B5 rfl (vT (dZ rfl rfl rfl rfl rfl mG) (dZ (l:=[("number",.int j),("generation",.int 0)]) rfl (f3 rfl rfl rfl rfl vQ) rfl rfl rfl mG) rfl rfl DJ)) rfl)
 ·rfl
end
end Mine
end
section
open PySem
namespace Mine
theorem La:du "counts_of"=some (aI 37):=by kernel_rfl
structure cR where
 k:Int
 hd:List (al×H)
 ab:List Int
 inh:List (al×H)
 pg:Bool
noncomputable def cR.v (s:cR):H:=bS s.k s.hd (s.ab.map au) s.inh s.pg
noncomputable def gC (d:List (al×H)) (k:Int):List (al×H):=match ba (.int k) d with
 |some (.int c)=>cU (.int k) (.int (c+1)) d
 |_=>d
noncomputable def g9 (d:List (al×H)) (s:cR):List (al×H):=cU (.int s.k) (.int (if s.pg then 1 else 0)) d
noncomputable def i3 (d:List (al×H)) (s:cR):List (al×H):=if s.pg then s.ab.foldl gC d else d
noncomputable def gu (d:List (al×H)) (k:Int):Prop:=∃c,ba (.int k) d=some (.int c)
theorem gu.tE {d:List (al×H)} {k j:Int} (h:gu d j):gu (gC d k) j:=by
 refine bT h ?_;clear h;intro c hc
 unfold gC
 split
 ·unfold gu
  refine B hg ?_
  by_cases e:al.int j=al.int k
  ·refine B (if_pos e) ?_;exact⟨_,rfl⟩
  ·refine B (if_neg e) ?_;exact⟨c,hc⟩
 ·exact⟨c,hc⟩
theorem yJ {d:List (al×H)} {k:Int} (h:gu d k):(gC d k).length=d.length:=by
 refine bT h ?_;clear h;intro c hc
 unfold gC
 refine B hc ?_
 dsimp only [kA,la,lf,kX,kN,kM,kV,lb]
 have:∀{l:List (al×H)} {v:H},(ba (.int k) l).isSome=true->(cU (.int k) v l).length=l.length:=by
  intro l v
  induction l with
  |nil=>intro h;cases h
  |cons p r ih=>
   obtain⟨y,w⟩:=p
   intro h
   unfold cU
   unfold ba at h
   by_cases e:al.int k=y
   ·refine B (if_pos e) ?_;rfl
   ·rw [if_neg e] at h|-
    simp [ih h]
 exact this (by refine B hc ?_;rfl)
section
variable{b:Bool} {C CQ:cs} {n:Nat} {J aX:Scope} {fs fs₁ fs₂ fs':X} {R:bk} {o:Option (bE×X)} {p:Pos} {m:Nat} {t u:Nat} {per:List H} {tab bJ:List (al×H)}
noncomputable def kf (found:List H) (d:List (al×H)) (s:H) (per:List H):X:=⟨[("found",.U (.am found)),("counts",.aD (.V d)),("spot",.U s)],per⟩
noncomputable def iX (found:List H) (d:List (al×H)) (s nd:H) (per:List H):X:=⟨[("found",.U (.am found)),("counts",.aD (.V d)),("spot",.U s),("node",.U nd)],per⟩
noncomputable def Dk:List Stmt:=d4 (iE (d4 (iE (d4 (ce (aI 37) 2)) 0)) 0)
theorem Fc {found:List H} {d:List (al×H)} {s:cR} (aq:d.length<1000):cO (aJ b C CQ (n+16) (bO (aI 37))) (d4 (ce (aI 37) 1)) (kf found d s.v per)=some (.next,kf found (g9 d s) s.v per):=by
 obtain⟨k,hd,ab,inh,pg⟩:=s
 cases pg
 ·exact aO (gG (v:=.int 0) (k:=.int k) (r:=.var "counts") rfl rfl rfl (jC (l:=d) rfl rfl (by unfold a4;exact mw aq))) rfl
 ·exact aO (gG (v:=.int 1) (k:=.int k) (r:=.var "counts") rfl rfl rfl (jC (l:=d) rfl rfl (by unfold a4;exact mw aq))) rfl
theorem D8 {found:List H} {d:List (al×H)} {s:H} {k:Int} (aq:d.length<1000) (h:gu d k):cO (aJ b C CQ (n+14) (bO (aI 37))) Dk (iX found d s (au k) per)=some (.next,iX found (gC d k) s (au k) per):=by
 refine bT h ?_;clear h;intro c hc
 have e:gC d k=cU (.int k) (.int (c+1)) d:=by unfold gC;(refine B hc ?_;rfl)
 refine B e ?_
 have ke:∀{N gU hB iN jU a},a=("number":Str)->(aJ b C CQ (N+4) (bO (aI 37))).a9 (.Subscript (.Name "counts" gU) (.Attribute (.Name "node" hB) a iN) jU) (iX found d s (au k) per)=some (.U (.int c),iX found d s (au k) per):=fun{N gU hB iN jU a} bz=>by
  subst bz
  exact f3 rfl rfl rfl rfl (bp rfl hc)
 exact aO (gG (v:=.int (c+1)) (k:=.int k) (r:=.var "counts") (ds (dB (ke rfl) rfl rfl rfl rfl) rfl) rfl rfl (jC (l:=d) rfl rfl (by unfold a4;exact mw aq))) rfl
theorem zO {found:List H} {s:H}:∀{ks:List Int} {d:List (al×H)} {nd:H},d.length<1000->(∀k∈ks,gu d k)->∃ki,f1 (aJ b C CQ (n+14) (bO (aI 37))) (bO (aI 37)) "node" Dk (ks.map au) (iX found d s nd per)=some (.next,iX found (ks.foldl gC d) s ki per)
 |[],d,nd,_,_=>⟨nd,rfl⟩
 |k::ks,d,nd,aq,h=>by
  refine bT (zO (found:=found) (s:=s) (ks:=ks) (d:=gC d k) (nd:=au k) (by refine B (yJ (h k List.mem_cons_self)) ?_;exact aq) (fun j bF=>(h j (List.mem_cons_of_mem _ bF)).tE)) ?_;intro ki e
  exact⟨ki,fG (fs₁:=iX found d s (au k) per) rfl (D8 aq (h k List.mem_cons_self)) e⟩
theorem H4 {ks:List Int}:∀{d:List (al×H)},(∀k∈ks,gu d k)->(ks.foldl gC d).length=d.length/\∀j,gu d j->gu (ks.foldl gC d) j:=by
 induction ks with
 |nil=>intro d _;exact⟨rfl,fun j h=>h⟩
 |cons k ks ih=>
  intro d h
  refine cl (ih (d:=gC d k) (fun j bF=>(h j (List.mem_cons_of_mem _ bF)).tE)) ?_;intro M O
  exact⟨M.trans (yJ (h k List.mem_cons_self)),fun j bF=>O j bF.tE⟩
theorem TT {d:List (al×H)} {s:cR} (h:∀k∈s.ab,gu d k):(i3 d s).length=d.length/\∀j,gu d j->gu (i3 d s) j:=by
 unfold i3
 split
 ·exact H4 h
 ·exact⟨rfl,fun j h=>h⟩
theorem WW {found:List H} {d:List (al×H)} {s:cR} {nd:H} (aq:d.length<1000) (h:∀k∈s.ab,gu d k):∃ki,cO (aJ b C CQ (n+16) (bO (aI 37))) (d4 (ce (aI 37) 2)) (iX found d s.v nd per)=some (.next,iX found (i3 d s) s.v ki per):=by
 obtain⟨k,hd,ab,inh,pg⟩:=s
 cases pg
 ·exact⟨nd,aO (co false rfl rfl) rfl⟩
 ·refine bT (zO (b:=b) (C:=C) (CQ:=CQ) (n:=n) (per:=per) (found:=found) (s:=bS k hd (ab.map au) inh true) (ks:=ab) (d:=d) (nd:=nd) aq h) ?_;intro ki e
  exact⟨ki,aO (co true rfl (aO (g7 rfl e) rfl)) rfl⟩
end
end Mine
end
section
open PySem
namespace Mine
section
variable{b:Bool} {C CQ:cs} {n:Nat} {J aX:Scope} {fs fs₁ fs₂ fs':X} {R:bk} {o:Option (bE×X)} {p:Pos} {m:Nat} {t u:Nat} {per:List H} {tab bJ:List (al×H)}
theorem L2 {found:List H} {d:List (al×H)} {s:cR} (aq:d.length<1000) (h:∀k∈s.ab,gu d k):∃fs',cO (aJ b C CQ (n+16) (bO (aI 37))) (d4 (ce (aI 37) 2)) (kf found d s.v per)=some (.next,fs')/\
  (fs'=kf found (i3 d s) s.v per\/∃nd,fs'=iX found (i3 d s) s.v nd per):=by
 obtain⟨k,hd,ab,inh,pg⟩:=s
 cases pg
 ·exact⟨_,aO (co false rfl rfl) rfl,.inl rfl⟩
 ·cases ab with
  |nil=>exact⟨_,aO (co true rfl (aO (g7 rfl rfl) rfl)) rfl,.inl rfl⟩
  |cons k0 ks=>
   refine bT (zO (b:=b) (C:=C) (CQ:=CQ) (n:=n) (per:=per) (found:=found) (s:=bS k hd ((k0::ks).map au) inh true) (ks:=ks) (d:=gC d k0) (nd:=au k0) (by refine B (yJ (h k0 List.mem_cons_self)) ?_;exact aq) (fun j bF=>(h j (List.mem_cons_of_mem _ bF)).tE)) ?_;intro ki e
   exact⟨_,aO (co true rfl (aO (g7 rfl (fG (fs₁:=iX found d (bS k hd ((k0::ks).map au) inh true) (au k0) per) rfl (D8 aq (h k0 List.mem_cons_self)) e)) rfl)) rfl,.inr ⟨ki,rfl⟩⟩
noncomputable def xi (fs:X) (found:List H) (d:List (al×H)) (s:H) (per:List H):Prop:=fs=kf found d s per\/∃nd,fs=iX found d s nd per
theorem FC {found:List H}:∀{l:List cR} {d:List (al×H)} {s:H} {fs:X},d.length<1000->(∀x∈l,∀k∈x.ab,gu d k)->xi fs found d s per->
  ∃fs' az,f1 (aJ b C CQ (n+16) (bO (aI 37))) (bO (aI 37)) "spot" (d4 (ce (aI 37) 2)) (l.map cR.v) fs=some (.next,fs')/\xi fs' found (l.foldl i3 d) az per
 |[],d,s,fs,_,_,h=>⟨fs,s,rfl,h⟩
 |x::l,d,s,fs,aq,bx,h=>by
  refine cl (TT (bx x List.mem_cons_self)) ?_;intro eC ez
  have step:∃fs₁ fs₂,eL (bO (aI 37)) "spot" (.U x.v) fs=some fs₁/\cO (aJ b C CQ (n+16) (bO (aI 37))) (d4 (ce (aI 37) 2)) fs₁=some (.next,fs₂)/\xi fs₂ found (i3 d x) x.v per:=by
   rcases h with rfl|⟨nd,rfl⟩
   ·refine bb (L2 (b:=b) (C:=C) (CQ:=CQ) (n:=n) (per:=per) (found:=found) (s:=x) aq (bx x List.mem_cons_self)) ?_;intro fs' ak ar
    exact⟨kf found d x.v per,fs',rfl,ak,ar⟩
   ·refine bT (WW (b:=b) (C:=C) (CQ:=CQ) (n:=n) (per:=per) (found:=found) (s:=x) (nd:=nd) aq (bx x List.mem_cons_self)) ?_;intro ki ak
    exact⟨iX found d x.v nd per,_,rfl,ak,.inr ⟨ki,rfl⟩⟩
  refine dP step ?_;clear step;intro fs₁ fs₂ ak ar bP
  refine hw (FC (l:=l) (d:=i3 d x) (s:=x.v) (fs:=fs₂) (by refine B eC ?_;exact aq) (fun y aQ k ag=>ez k (bx y (List.mem_cons_of_mem _ aQ) k ag)) bP) ?_;intro fs' az cW dn
  exact⟨fs',az,fG ak ar cW,dn⟩
theorem wO {d:List (al×H)} {s:cR}:(g9 d s).length<=d.length+1:=pf
theorem BW {found:List H}:∀{l:List cR} {d:List (al×H)} {s:H},d.length+l.length<1000->∃az,f1 (aJ b C CQ (n+16) (bO (aI 37))) (bO (aI 37)) "spot" (d4 (ce (aI 37) 1)) (l.map cR.v) (kf found d s per)=some (.next,kf found (l.foldl g9 d) az per)
 |[],d,s,_=>⟨s,rfl⟩
 |x::l,d,s,h=>by
  have:=wO (d:=d) (s:=x)
  simp only [List.length_cons] at h
  obtain⟨az,e⟩:=BW (l:=l) (d:=g9 d x) (s:=x.v) (by exact z7 h this)
  exact⟨az,fG (fs₁:=kf found d x.v per) rfl (Fc (by exact v4 h)) e⟩
noncomputable def mR (l:List cR):List (al×H):=l.foldl i3 (l.foldl g9 [])
theorem Pq {l:List cR}:∀{d:List (al×H)},(l.foldl g9 d).length<=d.length+l.length:=by
 induction l with
 |nil=>intro d;exact Nat.le_refl _
 |cons x l ih=>intro d;have:=wO (d:=d) (s:=x);have:=ih (d:=g9 d x);simp only [List.foldl_cons,List.length_cons];exact L1 (by assumption) this
theorem D2 {x:cR} {l:List cR} (aq:(x::l).length<900) (bx:∀y∈x::l,∀k∈y.ab,gu ((x::l).foldl g9 []) k):aH b (m+1) "counts_of" [.am ((x::l).map cR.v)] per=some (.ret (.own (.V (mR (x::l)))),per):=by
 refine c6 La ?_
 simp only [List.length_cons] at aq
 refine bT (BW (b:=b) (C:=aH b m) (CQ:=aH false m) (n:=23) (per:=per) (found:=(x::l).map cR.v) (l:=l) (d:=g9 [] x) (s:=x.v) (by have:=wO (d:=[]) (s:=x);simp only [List.length_nil] at this;exact Iq aq this)) ?_;intro d5 ak
 have bC:=Pq (l:=x::l) (d:=[])
 simp only [List.length_cons,List.length_nil] at bC
 refine hw (FC (b:=b) (C:=aH b m) (CQ:=aH false m) (n:=23) (per:=per) (found:=(x::l).map cR.v) (l:=x::l) (d:=(x::l).foldl g9 []) (s:=d5) (fs:=kf ((x::l).map cR.v) ((x::l).foldl g9 []) d5 per) (by exact OH aq bC) bx (.inl rfl)) ?_;intro fs' dX ar bP
 have mz:getL "counts" fs'.loc=some (.aD (.V (mR (x::l)))):=by
  rcases bP with rfl|⟨nd,rfl⟩<;>rfl
 have sw:fs'.per=per:=by
  rcases bP with rfl|⟨nd,rfl⟩<;>rfl
 apply dr rfl
 ·refine aO (fC rfl rfl) ?_
  refine aO (g7 rfl (fG (fs₁:=kf ((x::l).map cR.v) [] x.v per) rfl (Fc (n:=23) (by simp)) ak)) ?_
  refine aO (g7 (hl rfl (ds (r:=.U (.am ((x::l).map cR.v))) rfl rfl)) ar) ?_
  exact cu (q6 rfl (by decide+kernel) mz)
 ·exact sw
end
end Mine
end
section
open PySem
namespace Mine
theorem Ij:du "settle"=some (aI 40):=by kernel_rfl
noncomputable def kt (s:cR) (x:Option Int):Bool:=decide (x=s.ab.getLast?)
noncomputable def l9 (s:cR) (c:Int):Bool:=s.pg||(match ba (.str "Count") s.hd with|some (.int d)=>d==c|_=>false)
noncomputable def hT (s:cR) (x:Option Int) (c:Int):List (al×H):=
 (if kt s x then [] else [(.str "Parent",match s.ab.getLast? with|some j=>au j|none=>.none)])++(if l9 s c then [] else [(.str "Count",.int c)])
structure m6 (s:cR) (x:Option Int):Prop where
 par:ba (.str "Parent") s.hd=x.map au
 i6:s.ab=[]->x=none
 cnt:s.pg=false->ba (.str "Count") s.hd=none\/∃c,ba (.str "Count") s.hd=some (.int c)
 fu:s.hd.length<500/\s.ab.length<500
section
variable{b:Bool} {C CQ:cs} {n:Nat} {J aX:Scope} {fs fs₁ fs₂ fs':X} {R:bk} {o:Option (bE×X)} {p:Pos} {m:Nat} {t u:Nat} {per:List H} {tab bJ:List (al×H)}
theorem BG {s:cR} {x:Option Int} (h:m6 s x):aH b (m+2) "is_parent" [s.v] per=some (.ret (.U (.bool (kt s x))),per):=by
 obtain⟨k,hd,ab,inh,pg⟩:=s
 have an:=h.par
 dsimp only at an
 rcases List.eq_nil_or_concat ab with rfl|⟨ab',j,rfl⟩
 ·have ae:=h.i6 rfl
  subst ae
  exact NZ (v:=.none) (m:=m+1) (by refine B an ?_;rfl) rfl
 ·have e:kt ⟨k,hd,ab'++[j],inh,pg⟩ x=decide (x=some j):=by unfold kt;simp
  have a9:(⟨k,hd,ab'++[j],inh,pg⟩:cR).v=bS k hd (ab'.map au++[au j]) inh pg:=by unfold cR.v;simp
  (refine B List.concat_eq_append ?_;refine B e ?_;refine B a9 ?_)
  cases x with
  |none=>exact Lo (by have:=h.fu.2;simp at this|-;exact V1 this) (by refine B an ?_;rfl)
  |some i=>
   have:=I9 (b:=b) (m:=m) (per:=per) (k0:=k) (i:=i) (j:=j) (hd:=hd) (inh:=inh) (ab:=ab'.map au) (pg:=pg) (by refine B an ?_;rfl)
   refine B this ?_
   congr 5
   simp
noncomputable def iK (t u:Nat) (found:List H) (cts:List (al×H)) (s:H) (ch:cf) (per:List H):X:=
 ⟨[("shelf",.U (bB t u)),("found",.U (.am found)),("counts",.aD (.V cts)),("spot",.U s),("changes",ch)],per⟩
noncomputable def kh:List Stmt:=d4 (ce (aI 40) 2)
theorem MF {found:List H} {cts:List (al×H)} {s:cR} {x:Option Int} (h:m6 s x):
  (aJ b (aH b (m+2)) CQ (n+20) (bO (aI 40))).dg ((kh[1]?).getD default) (iK t u found cts s.v (.aD (.V [])) per)=
   some (.next,iK t u found cts s.v (.aD (.V (if kt s x then [] else [(.str "Parent",match s.ab.getLast? with|some j=>au j|none=>.none)]))) per):=by
 have an:=BG (b:=b) (m:=m) (per:=per) h
 refine co (!kt s x) (iV (j6 (eS rfl (by decide+kernel) (by decide+kernel) (by decide+kernel) (by decide+kernel) rfl (by decide+kernel) rfl an))) ?_
 cases ah:kt s x with
 |true=>rfl
 |false=>
  obtain⟨k,hd,ab,inh,pg⟩:=s
  rcases List.eq_nil_or_concat ab with rfl|⟨ab',j,rfl⟩
  ·have ae:=h.i6 rfl
   subst ae
   cases ah
  ·rw [List.concat_eq_append] at*
   have a9:(⟨k,hd,ab'++[j],inh,pg⟩:cR).v=bS k hd (ab'.map au++[au j]) inh pg:=by unfold cR.v;simp
   have fa:(ab'++[j]).getLast? =some j:=by simp
   dsimp only [kA,la,lf,kX,kN,kM,kV,lb]
   (refine B a9 ?_;refine B fa ?_)
   have b1:eI .Eq (.aF (ab'.map au++[au j])) (.aF [])=some false:=by
    cases ab'<;>rfl
   exact aO (gG (v:=au j) (k:=.str "Parent") (r:=.var "changes") (ds (m4 false (cS rfl rfl rfl rfl b1 rfl) (f3 rfl rfl rfl rfl vQ)) rfl) rfl rfl (jC (l:=[]) rfl rfl (Nat.zero_le _))) rfl
end
end Mine
end
section
open PySem
namespace Mine
section
variable{b:Bool} {C CQ:cs} {n:Nat} {J aX:Scope} {fs fs₁ fs₂ fs':X} {R:bk} {o:Option (bE×X)} {p:Pos} {m:Nat} {t u:Nat} {per:List H} {tab bJ:List (al×H)}
theorem qi {d:List (al×H)} {k:H} {kk:al} {v:H} (ag:gc k=some kk) (h:ba kk d=some v):oh (.V d) k=some v:=bp ag h
theorem LU {found:List H} {cts d1:List (al×H)} {s:cR} {x:Option Int} {c:Int} (aG:per[t]? =some (.V tab)) (h:m6 s x) (hc:ba (.int s.k) cts=some (.int c)) (M:cU (.str "Count") (.int c) d1=d1++[(.str "Count",.int c)]) (O:d1.length<=1):
  (aJ b (aH b (m+2)) CQ (n+20) (bO (aI 40))).dg ((kh[2]?).getD default) (iK t u found cts s.v (.aD (.V d1)) per)=
   some (.next,iK t u found cts s.v (.aD (.V (d1++(if l9 s c then [] else [(.str "Count",.int c)])))) per):=by
 obtain⟨k,hd,ab,inh,pg⟩:=s
 dsimp only at hc
 cases pg with
 |true=>
  have e:l9 ⟨k,hd,ab,inh,true⟩ c=true:=rfl
  (refine B e ?_;refine B (if_pos rfl) ?_;refine B (List.append_nil _) ?_)
  exact co false (n8 rfl) rfl
 |false=>
  have cI:∀(v:H) (z:Bool),(ba (.str "Count") hd).getD .none=v->gF v "Reference"=some false->eI .NotEq v (.int c)=some z->l9 ⟨k,hd,ab,inh,false⟩ c= !z->
    (aJ b (aH b (m+2)) CQ (n+20) (bO (aI 40))).dg ((kh[2]?).getD default) (iK t u found cts (cR.v ⟨k,hd,ab,inh,false⟩) (.aD (.V d1)) per)=
    some (.next,iK t u found cts (cR.v ⟨k,hd,ab,inh,false⟩) (.aD (.V (d1++(if l9 ⟨k,hd,ab,inh,false⟩ c then [] else [(.str "Count",.int c)])))) per):=fun v z ak ar bP cW=>by
   refine B cW ?_
   refine co z (kG rfl (cS (dZ rfl rfl rfl rfl rfl (kJ aG (v:=v) ak (.hr ar))) (f3 rfl rfl rfl rfl (qi (kk:=.int k) rfl hc)) (qq ar) rfl bP rfl)) ?_
   cases z with
   |false=>(refine B Bool.not_false ?_;refine B (if_pos rfl) ?_;refine B (List.append_nil _) ?_);rfl
   |true=>
    have fe:(d1++(if(!true)=true then([]:List (al×H)) else [(.str "Count",.int c)]))=cU (.str "Count") (.int c) d1:=M.symm
    refine B fe ?_
    exact aO (gG (v:=.int c) (k:=.str "Count") (r:=.var "changes") (ds (f3 rfl rfl rfl rfl (qi (kk:=.int k) rfl hc)) rfl) rfl rfl (jC (l:=d1) rfl rfl (by unfold a4;exact I4 O))) rfl
  rcases h.cnt rfl with bi|⟨d,bi⟩
  ·dsimp only at bi
   refine cI .none true (by refine B bi ?_;rfl) rfl rfl ?_
   unfold l9;refine B bi ?_;rfl
  ·dsimp only at bi
   refine cI (.int d) (!(d==c)) (by refine B bi ?_;rfl) rfl rfl ?_
   unfold l9;(refine B bi ?_;refine B (Bool.not_not _) ?_);rfl
theorem Km {s:cR} {x:Option Int} {c:Int}:sX (hT s x c)/\(hT s x c).length<=2:=by
 unfold hT
 cases kt s x<;>cases l9 s c
 ·refine⟨⟨fun q aA=> ?_,?_⟩,by simp⟩
  ·simp only [Bool.false_eq_true,if_false,List.cons_append,List.nil_append,List.mem_cons,List.not_mem_nil,or_false] at aA
   rcases aA with rfl|rfl
   ·exact⟨"Parent",rfl,by dsimp only [kA,la,lf,kX,kN,kM,kV,lb];split<;>rfl⟩
   ·exact⟨"Count",rfl,rfl⟩
  ·simp [tv]
 ·refine⟨⟨fun q aA=> ?_,?_⟩,by simp⟩
  ·simp only [Bool.false_eq_true,if_false,if_true,List.append_nil,List.mem_cons,List.not_mem_nil,or_false] at aA
   subst aA
   exact⟨"Parent",rfl,by dsimp only [kA,la,lf,kX,kN,kM,kV,lb];split<;>rfl⟩
  ·simp
 ·refine⟨⟨fun q aA=> ?_,?_⟩,by simp⟩
  ·simp only [Bool.false_eq_true,if_false,if_true,List.nil_append,List.mem_cons,List.not_mem_nil,or_false] at aA
   subst aA
   exact⟨"Count",rfl,rfl⟩
  ·simp
 ·exact⟨⟨fun q aA=>by simp at aA,by simp⟩,by simp⟩
noncomputable def ji (tab:List (al×H)) (s:cR) (x:Option Int) (c:Int):List (al×H):=if(hT s x c).isEmpty then tab else cU (.int s.k) (.aF [.int 0,.V (hR s.hd (hT s x c))]) tab
theorem LX {q:al×H} {d:List (al×H)}:eI .NotEq (.V (q::d)) (.V [])=some true:=rfl
theorem vJ {t:Nat} {v:H} (h:per[t]? =some v):per.set t v=per:=by
 apply List.ext_getElem?
 intro i
 refine B List.getElem?_set ?_
 by_cases e:t=i
 ·subst e
  have:=(List.getElem?_eq_some_iff.mp h).1
  (refine B (if_pos rfl) ?_;refine B (if_pos this) ?_;refine B h ?_;rfl)
 ·(refine B (if_neg e) ?_;rfl)
theorem NX {found:List H} {cts:List (al×H)} {s:cR} {x:Option Int} {c:Int} (aG:per[t]? =some (.V tab)) (h:m6 s x) (aq:tab.length<=a4):
  ∃ch,(aJ b (aH b (m+2)) CQ (n+20) (bO (aI 40))).dg ((kh[3]?).getD default) (iK t u found cts s.v (.aD (.V (hT s x c))) per)=
   some (.next,iK t u found cts s.v ch (per.set t (.V (ji tab s x c)))):=by
 refine cl (Km (s:=s) (x:=x) (c:=c)) ?_;intro nw n1
 unfold ji
 cases Il:hT s x c with
 |nil=>
  refine⟨.aD (.V []),?_⟩
  (refine B List.isEmpty_nil ?_;refine B (if_pos rfl) ?_;refine B (vJ aG) ?_)
  exact co false (cS rfl rfl rfl rfl rfl rfl) rfl
 |cons q d=>
  rw [Il] at nw n1
  refine⟨.U (.V (q::d)),?_⟩
  (refine B List.isEmpty_cons ?_;refine B (if_neg (by decide)) ?_)
  have hs:=h.fu.1
  obtain⟨k,hd,ab,inh,pg⟩:=s
  have UG:=qN (b:=b) (m:=m+1) (per:=per) (hd:=hd) (ch:=q::d) nw (by dsimp only at hs;simp only [List.length_cons] at n1|-;exact Uv n1 hs)
  refine co true (cS rfl rfl rfl rfl LX rfl) ?_
  exact aO (nv (by decide+kernel) (bM rfl rfl (bM rfl rfl (bM (eS rfl (by decide+kernel) (by decide+kernel) (by decide+kernel) (by decide+kernel) rfl (by decide+kernel) rfl UG) rfl rfl))) (D1 (m:=m) aG aq)) rfl
end
end Mine
end
section
open PySem
namespace Mine
mutual
noncomputable def gk (ab:List Int):bN->List cR
 |.leaf k hd=>[⟨k,hd,ab,er hd,true⟩]
 |.node k hd kids=>⟨k,hd,ab,er hd,false⟩::nC (ab++[k]) kids
noncomputable def nC (ab:List Int):List bN->List cR
 |[]=>[]
 |x::r=>gk ab x++nC ab r
end
mutual
theorem x8:∀{x:bN} {ab:List Int},dQ (ab.map au) x=(gk ab x).map cR.v
 |.leaf k hd,ab=>rfl
 |.node k hd kids,ab=>by
  unfold dQ gk
  have:=Ay (l:=kids) (ab:=ab++[k])
  replace this:=List.map_append▸this
  (refine B List.map_cons ?_;refine bu this ?_);rfl
theorem Ay:∀{l:List bN} {ab:List Int},ix (ab.map au) l=(nC ab l).map cR.v
 |[],ab=>rfl
 |x::r,ab=>by unfold ix nC;(refine B List.map_append ?_;refine B (x8 (x:=x)) ?_;refine B (Ay (l:=r)) ?_;rfl)
end
noncomputable abbrev xN:=cR×Option Int×Int
noncomputable def pA (tab:List (al×H)) (l:List xN):List (al×H):=l.foldl (fun d q=>ji d q.1 q.2.1 q.2.2) tab
theorem WI {tab:List (al×H)} {s:cR} {x:Option Int} {c:Int}:(ji tab s x c).length<=tab.length+1:=by
 unfold ji;split
 ·exact vD
 ·exact pf
section
variable{b:Bool} {C CQ:cs} {n:Nat} {J aX:Scope} {fs fs₁ fs₂ fs':X} {R:bk} {o:Option (bE×X)} {p:Pos} {m:Nat} {t u:Nat} {per:List H} {tab bJ:List (al×H)}
noncomputable def DQ (t u:Nat) (found:List H) (cts:List (al×H)) (per:List H):X:=⟨[("shelf",.U (bB t u)),("found",.U (.am found)),("counts",.aD (.V cts))],per⟩
noncomputable def Dj (t u:Nat) (found:List H) (cts:List (al×H)) (s:H) (per:List H):X:=⟨[("shelf",.U (bB t u)),("found",.U (.am found)),("counts",.aD (.V cts)),("spot",.U s)],per⟩
noncomputable def PA (t u:Nat) (found:List H) (cts:List (al×H)) (per:List H) (fs:X):Prop:=fs=DQ t u found cts per\/∃s ch,fs=iK t u found cts s ch per
theorem NT {found:List H} {cts:List (al×H)} {s:cR} {x:Option Int} {c:Int} (aB:fs=Dj t u found cts s.v per\/∃ch,fs=iK t u found cts s.v ch per) (aG:per[t]? =some (.V tab)) (h:m6 s x) (hc:ba (.int s.k) cts=some (.int c)) (aq:tab.length<=a4):
  ∃ch,cO (aJ b (aH b (m+2)) CQ (n+20) (bO (aI 40))) kh fs=some (.next,iK t u found cts s.v ch (per.set t (.V (ji tab s x c)))):=by
 refine bT (NX (b:=b) (CQ:=CQ) (n:=n) (m:=m) (u:=u) (found:=found) (cts:=cts) (s:=s) (x:=x) (c:=c) aG h aq) ?_;intro ch e
 have ak:=MF (b:=b) (CQ:=CQ) (n:=n) (m:=m) (t:=t) (u:=u) (per:=per) (found:=found) (cts:=cts) h
 have ar:=fun d1 M O=>LU (b:=b) (CQ:=CQ) (n:=n) (m:=m) (u:=u) (found:=found) (cts:=cts) (d1:=d1) (x:=x) (c:=c) aG h hc M O
 have iL:(aJ b (aH b (m+2)) CQ (n+20) (bO (aI 40))).dg ((kh[0]?).getD default) fs=some (.next,iK t u found cts s.v (.aD (.V [])) per):=by
  rcases aB with rfl|⟨YH,rfl⟩<;>exact fC rfl rfl
 refine⟨ch,aO (s:=(kh[0]?).getD default) (r:=[(kh[1]?).getD default,(kh[2]?).getD default,(kh[3]?).getD default]) iL (aO ak (aO (ar _ ?_ ?_) (aO e rfl)))⟩
 ·split<;>rfl
 ·split<;>simp
theorem lm {t:Nat} {v w:H}:(per.set t v).set t w=per.set t w:=by(refine B (List.set_set _) ?_;rfl)
theorem jk {t:Nat} {v w:H} (h:per[t]? =some v):(per.set t w)[t]? =some w:=by
 have:=(List.getElem?_eq_some_iff.mp h).1
 (refine B List.getElem?_set ?_;refine B (if_pos rfl) ?_;refine B (if_pos this) ?_;rfl)
theorem Fw {found:List H} {cts:List (al×H)}:∀{l:List xN} {tab:List (al×H)} {per:List H} {fs:X},PA t u found cts per fs->per[t]? =some (.V tab)->(∀q∈l,m6 q.1 q.2.1/\ba (.int q.1.k) cts=some (.int q.2.2))->tab.length+l.length<=a4->
  ∃fs',f1 (aJ b (aH b (m+2)) CQ (n+20) (bO (aI 40))) (bO (aI 40)) "spot" kh (l.map fun q=>q.1.v) fs=some (.next,fs')/\fs'.per=per.set t (.V (pA tab l))
 |[],tab,per,fs,aB,aG,h,aq=>by
  refine⟨fs,rfl,?_⟩
  have:pA tab []=tab:=rfl
  (refine B this ?_;refine B (vJ aG) ?_)
  rcases aB with rfl|⟨s,ch,rfl⟩<;>rfl
 |(s,x,c)::l,tab,per,fs,aB,aG,h,aq=>by
  refine cl (h _ List.mem_cons_self) ?_;intro bH b7
  simp only [List.length_cons] at aq
  have bC:=WI (tab:=tab) (s:=s) (x:=x) (c:=c)
  have step:∃fs₁,eL (bO (aI 40)) "spot" (.U s.v) fs=some fs₁/\(fs₁=Dj t u found cts s.v per\/∃ch,fs₁=iK t u found cts s.v ch per):=by
   rcases aB with rfl|⟨az,ch,rfl⟩
   ·exact⟨_,rfl,.inl rfl⟩
   ·exact⟨_,rfl,.inr ⟨ch,rfl⟩⟩
  refine bb step ?_;clear step;intro fs₁ ak ar
  refine bT (NT (b:=b) (CQ:=CQ) (n:=n) (m:=m) (x:=x) (c:=c) ar aG bH b7 (by exact IM aq)) ?_;intro ch bP
  refine bb (Fw (l:=l) (tab:=ji tab s x c) (fs:=iK t u found cts s.v ch (per.set t (.V (ji tab s x c)))) (.inr ⟨_,_,rfl⟩) (jk aG) (fun q aA=>h q (List.mem_cons_of_mem _ aA)) (by exact O6 aq bC)) ?_;intro fs' cW dn
  refine⟨fs',fG ak bP cW,?_⟩
  (refine B dn ?_;refine B lm ?_);rfl
theorem Ln {x:bN} {l:List xN} (aG:per[t]? =some (.V tab)) (b2:per[u]? =some (.V bJ)) (ae:kO tab bJ x) (hs:l.map (fun q=>q.1)=gk [] x)
  (bC:l.length<900) (bx:∀y∈gk [] x,∀k∈y.ab,gu ((gk [] x).foldl g9 []) k) (aA:∀q∈l,m6 q.1 q.2.1/\ba (.int q.1.k) (mR (gk [] x))=some (.int q.2.2)) (aq:tab.length+l.length<=a4):
  aH b (m+6) "settle" [bB t u] per=some (.ret (.U .none),per.set t (.V (pA tab l))):=by
 refine c6 Ij ?_
 have ak:=ub (b:=b) (m:=m) aG b2 ae
 have iL:dQ [] x=(gk [] x).map cR.v:=x8 (ab:=[])
 replace ak:=iL▸ak
 have b1:∃s r,gk [] x=s::r:=by
  refine p3 ae.node ?_;intro k hd kids u;subst u
  exact⟨_,_,rfl⟩
 refine jf b1 ?_;clear b1;intro s r tL
 have ar:aH b (m+5) "counts_of" [.am ((gk [] x).map cR.v)] per=some (.ret (.own (.V (mR (gk [] x)))),per):=by
  rw [tL] at bx|-
  exact D2 (m:=m+4) (by(refine bu tL ?_;refine bu hs ?_;refine B (List.length_map _) ?_);exact bC) bx
 refine bb (Fw (b:=b) (CQ:=aH false (m+5)) (n:=19) (m:=m+3) (u:=u) (found:=(gk [] x).map cR.v) (cts:=mR (gk [] x)) (l:=l) (fs:=DQ t u ((gk [] x).map cR.v) (mR (gk [] x)) per) (.inl rfl) aG aA aq) ?_;intro fs' bP cW
 have ay:(l.map fun q=>q.1.v)=(gk [] x).map cR.v:=by(refine bu hs ?_;refine B List.map_map ?_);rfl
 replace bP:=ay▸bP
 apply vc rfl
 ·refine aO (fC (eS rfl (by decide+kernel) (by decide+kernel) (by decide+kernel) (by decide+kernel) rfl (by decide+kernel) (bM rfl rfl rfl) ak) rfl) ?_
  refine aO (fC (eS rfl (by decide+kernel) (by decide+kernel) (by decide+kernel) (by decide+kernel) rfl (by decide+kernel) (bM rfl rfl rfl) ar) rfl) ?_
  exact aO (g7 (hl rfl (ds (r:=.U (.am ((gk [] x).map cR.v))) rfl rfl)) bP) rfl
 ·exact cW
end
end Mine
end
section
open PySem
namespace Mine
theorem LN:du "page_count"=some (aI 33):=by kernel_rfl
section
variable{b:Bool} {C CQ:cs} {n:Nat} {J aX:Scope} {fs fs₁ fs₂ fs':X} {R:bk} {o:Option (bE×X)} {p:Pos} {m:Nat} {t u:Nat} {per:List H} {tab bJ:List (al×H)}
theorem Kd {k:Int} {hd:List (al×H)} {kids:List bN} {c:Int} (aG:per[t]? =some (.V tab)) (b2:per[u]? =some (.V bJ)) (ae:kO tab bJ (.node k hd kids)) (hc:ba (.str "Count") hd=some (.int c)) (aL:0<=c):
  aH b (m+5) "page_count" [bB t u] per=some (.ret (.U (.int c)),per):=by
 refine dP ae.jE ?_;intro a6 qh eC ez hX
 refine ef ae.ao ?_;intro bH b7 c7
 have aR:=Ff (b:=b) (m:=m+3) (per:=per) (i:=c)
 replace aR:=(decide_eq_true aL)▸aR
 refine c6 LN ?_
 apply dr rfl
 ·refine aO (dc (dZ rfl rfl rfl rfl (bM (dZ rfl rfl rfl rfl (bM (eS rfl (by decide+kernel) (by decide+kernel) (by decide+kernel) (by decide+kernel) rfl (by decide+kernel) (bM rfl rfl (bM (gb rfl (dZ rfl rfl rfl rfl rfl (wX (m:=m+1) aG b2 eC (.r6 ez rfl))) (nh (kk:=.str "Pages") (l:=qh) (x:=au k) rfl rfl rfl rfl (by refine B hX ?_;rfl))) rfl rfl)) (vV (m:=m+3) aG bH rfl)) rfl rfl) (uT (m:=m+3) aG (.r6 bH rfl))) rfl (bM rfl rfl rfl)) (kJ (m:=m+2) aG (v:=.int c) (by refine B hc ?_;rfl) (.hr rfl))) rfl) ?_
  exact cu (co true (j6 (eS rfl (by decide+kernel) (by decide+kernel) (by decide+kernel) (by decide+kernel) rfl (by decide+kernel) rfl aR)) (cu (dC rfl rfl)))
 ·rfl
end
end Mine
end
section
open PySem
namespace Mine
theorem Jg:du "kid_index"=some (aI 45):=by kernel_rfl
noncomputable def hx (k:Int):H:=.aF [.int k,.int 0]
noncomputable def v7:H->Int
 |.dT _ ((_,.int k)::_)=>k
 |_=>0
noncomputable def oP (r:Int):List Int->Option Nat
 |[]=>none
 |k::l=>if k=r then some 0 else(oP r l).map (· +1)
theorem yg {i j:Int}:eR eF (hx i) (hx j)=some (decide (i=j)):=by
 show some ((i==j)&&(((0:Int)==0)&&true))=_
 by_cases h:i=j<;>simp [h]
theorem H2 {r:Int} {l:List Int}:m9 (hx r) (l.map hx)=oP r l:=by
 induction l with
 |nil=>rfl
 |cons k l ih=>
  refine bp yg ?_
  unfold oP
  by_cases h:k=r
  ·refine B (if_pos h) ?_;exact cQ (decide_eq_true h) rfl
  ·(refine B (if_neg h) ?_;refine bu ih ?_);refine el (fun e=>h (of_decide_eq_true e)) ?_
   cases m9 (hx r) (l.map hx)<;>rfl
section
variable{b:Bool} {C CQ:cs} {n:Nat} {J aX:Scope} {fs fs₁ fs₂ fs':X} {R:bk} {o:Option (bE×X)} {p:Pos} {m:Nat} {t u:Nat} {per:List H} {tab bJ:List (al×H)}
theorem Nu {r:aU} {args:List Expr} {v:H} {l:List H} {i:Nat} (aL:nR (fs.cF r)=true) (bz:dk R args fs=some ([v],fs₁)) (M:fs₁.cF r=some (.am l)) (O:(l.length<=a4&&l.all (fun y=>mH y&&(eR eF y v).isSome))=true) (Y:m9 v l=some i):iD C R "index" r args fs=some (.U (.int i),fs₁):=by
 exact(Wf aL).trans (bd bz (i8 rfl (congrArg lC M) (cQ O (bp Y rfl))))
noncomputable def TJ:Expr:=ek (ce (aI 45) 0) [0,0,0]
noncomputable def Lm:Scope:=iv (ek (ce (aI 45) 0) [0,0])
noncomputable def Fm (tab:List (al×H)) (j:Int):Prop:=∃x,ba (.int j) tab=some (.aF [.int 0,x])/\gF x "Reference"=some false
theorem Sj {k r:Int} {hd inh:List (al×H)} {ab:List H} {ks:List Int} {i:Nat} (aG:per[t]? =some (.V tab)) (ag:ba (.str "Kids") hd=some (.am (ks.map au))) (hs:∀j∈ks,Fm tab j) (aq:ks.length<900) (aR:oP r ks=some i):
  aH b (m+4) "kid_index" [bB t u,bS k hd ab inh false,au r] per=some (.ret (.U (.int i)),per):=by
 refine c6 Jg ?_
 obtain⟨l,e⟩:=vL (R:=aJ b (aH b (m+3)) (aH false (m+3)) 37 Lm) (per:=per) (elt:=TJ) (x:="kid") (L:=[("shelf",.U (bB t u))]) (f:=fun v=>hx (v7 v)) (items:=ks.map au) (fs:=⟨[("shelf",.U (bB t u))],per⟩)
  (fun v ay=>by
   refine bb (List.mem_map.mp ay) ?_;intro j bF u;subst u
   refine bb (hs j bF) ?_;intro x jH oU
   exact ds (dZ (l:=[("number",.int j),("generation",.int 0)]) rfl (eS rfl (by decide+kernel) (by decide+kernel) (by decide+kernel) (by decide+kernel) rfl (by decide+kernel) (bM rfl rfl (bM rfl rfl rfl)) (vV (m:=m+2) aG jH oU)) rfl rfl rfl (mG (m:=m+2))) rfl) (.inl rfl)
 have Xe:(ks.map au).map (fun v=>hx (v7 v))=ks.map hx:=by refine B List.map_map ?_;rfl
 replace e:=Xe▸e
 apply dr rfl
 ·refine cu (dC (gb rfl (hS (hl rfl (ds (eS rfl (by decide+kernel) (by decide+kernel) (by decide+kernel) (by decide+kernel) rfl (by decide+kernel) rfl (pr (m:=m) aG (by refine B ag ?_;rfl) (.hr rfl))) rfl)) (by refine B (List.length_map _) ?_;unfold a4;exact j9 aq) rfl e) (Nu (v:=hx r) (l:=ks.map hx) (i:=i) rfl (bM (dZ rfl rfl rfl rfl rfl (mG (m:=m+2))) rfl rfl) rfl ?_ ?_)) rfl)
  ·refine B (Bool.and_eq_true _ _) ?_
   refine⟨decide_eq_true (by refine B (List.length_map _) ?_;unfold a4;exact j9 aq),?_⟩
   rw [List.all_eq_true]
   intro y aQ
   refine bb (List.mem_map.mp aQ) ?_;intro j bF u;subst u
   (refine B (show mH (hx j)=true from rfl) ?_;refine B (Bool.true_and _) ?_)
   refine B yg ?_;rfl
  ·refine B H2 ?_;exact aR
 ·rfl
end
end Mine
end
section
open PySem
namespace Mine
theorem yv:du "place_of"=some (aI 44):=by kernel_rfl
section
variable{b:Bool} {C CQ:cs} {n:Nat} {J aX:Scope} {fs fs₁ fs₂ fs₃ fs':X} {R:bk} {o:Option (bE×X)} {p:Pos} {m:Nat} {t u:Nat} {per:List H} {tab bJ:List (al×H)}
theorem vG {l bW kW e cg a c c' v w Gl z} (M:(aJ b C CQ n J).a9 l fs=some (a,fs₁)) (O:(aJ b C CQ n J).a9 e fs₁=some (.U c,fs₂)) (Y:fs₂.cF a=some v) (aC:fs₂.cF (.U c)=some w) (bR:eI bW v w=some true)
  (dK:(aJ b C CQ n J).a9 cg fs₂=some (c',fs₃)) (f6:fs₃.cF (.U c)=some eY) (o6:fs₃.cF c'=some Gl) (q4:eI kW eY Gl=some z):(aJ b C CQ (n+1) J).dH (.Compare l [bW,kW] [e,cg] p) fs=some (z,fs₃):=bd M (bd O (i8 Y aC (bp bR (bp rfl (bp rfl (bd dK (i8 f6 o6 (bp q4 rfl))))))))
theorem Tw {l bW kW e cg a c v w} (M:(aJ b C CQ n J).a9 l fs=some (a,fs₁)) (O:(aJ b C CQ n J).a9 e fs₁=some (.U c,fs₂)) (Y:fs₂.cF a=some v) (aC:fs₂.cF (.U c)=some w) (bR:eI bW v w=some false):(aJ b C CQ (n+1) J).dH (.Compare l [bW,kW] [e,cg] p) fs=some (false,fs₂):=bd M (bd O (i8 Y aC (bp bR (bp rfl (bp rfl rfl)))))
theorem W7 {args:List Expr} {q:Pos} {x y:Int} (aL:J.names.lookup ("min":Str)=some .globalImplicit) (bz:dk (aJ b C CQ n J) args fs=some ([.int x,.int y],fs₁)):(aJ b C CQ (n+1) J).a9 (.Call (.Name ("min":Str) p) args [] q) fs=some (.U (.int (if y<x then y else x)),fs₁):=cQ aL (el (show("min":Str)≠"isinstance" by decide+kernel) (cQ rfl (bd bz (bd rfl rfl))))
theorem wm {l:List H} {i:Nat} {v:H} (h:l[i]? =some v) (aR:i<2^62):oh (.am l) (.int i)=some v:=by
 have M:rs l (.int (i:Int))=br (kb i l.length) fun j=>l[j]? :=if_pos aR
 have O:kb i l.length=some i:=cQ (Int.natCast_nonneg i) (cQ (List.getElem?_eq_some_iff.mp h).1 rfl)
 exact M.trans (bp O h)
theorem Cw {cls s:Str} {k q bZ bn} (h:(cls=("TreeFault":Str)&&J.names.lookup cls==some .globalImplicit)=true):(aJ true C CQ (n+1) J).dg (.Raise (some (.Call (.Name cls q) [.Constant (.str s) k bZ] [] bn)) none p) fs=some (.dA,fs):=by
 refine bp rfl (bd rfl (bp rfl (bp rfl (cQ (?_:(true&&(true&&(true&&(decide (cls=("TreeFault":Str))&&J.names.lookup cls==some .globalImplicit))))=true) rfl))))
 exact h
end
end Mine
end
section
open PySem
namespace Mine
section
variable{b:Bool} {C CQ:cs} {n:Nat} {J aX:Scope} {fs fs₁ fs₂ fs₃ fs':X} {R:bk} {o:Option (bE×X)} {p:Pos} {m:Nat} {t u:Nat} {per:List H} {tab bJ:List (al×H)}
noncomputable def A0 (t u:Nat) (at':Int) (found:List H) (per:List H):X:=⟨[("shelf",.U (bB t u)),("at",.U (.int at')),("found",.aD (.am found))],per⟩
noncomputable def G4 (t u:Nat) (at':Int) (found lV:List H) (per:List H):X:=⟨[("shelf",.U (bB t u)),("at",.U (.int at')),("found",.U (.am found)),("leaves",.aD (.am lV))],per⟩
theorem wM {x:bN} {a:Int} (hs:x.db.length<400):(aJ b C CQ 40 (bO (aI 44))).dg (ce (aI 44) 1) (A0 t u a (dQ [] x) per)=some (.next,G4 t u a (dQ [] x) (eo x) per):=by
 obtain⟨l,e⟩:=xZ (R:=aJ b C CQ 38 (iv (ek (ce (aI 44) 1) []))) (per:=per)
  (elt:=ek (ce (aI 44) 1) [0]) (c:=ek (ce (aI 44) 1) [2]) (x:="spot") (L:=[]) (f:=fun v=>v) (q:=xj) (items:=dQ [] x) (fs:=⟨[],per⟩)
  (fun v ay=>by obtain⟨k,hd,ab',inh,pg,rfl⟩:=p4 x [] v ay;cases pg<;>rfl) (fun v ay _=>by obtain⟨k,hd,ab',inh,pg,rfl⟩:=p4 x [] v ay;rfl) (.inl rfl)
 replace e:=(List.map_id' _)▸e
 exact fC (hS (hl rfl (ds (r:=.var "found") rfl rfl)) (by refine B (tG _ _) ?_;unfold a4;exact v6 hs) rfl e) rfl
theorem xc {x:bN} {a:Int} (aG:per[t]? =some (.V tab)) (b2:per[u]? =some (.V bJ)) (ae:kO tab bJ x):(aJ b (aH b (m+5)) CQ 40 (bO (aI 44))).dg (ce (aI 44) 0) ⟨[("shelf",.U (bB t u)),("at",.U (.int a))],per⟩=some (.next,A0 t u a (dQ [] x) per):=
 fC (eS rfl (by decide+kernel) (by decide+kernel) (by decide+kernel) (by decide+kernel) rfl (by decide+kernel) rfl (ub aG b2 ae)) rfl
theorem q8 {x:bN} (hs:x.db.length<400):(eo x).length<=a4:=by
 have M:(eo x).length<=(dQ [] x).length:=List.length_filter_le ..
 replace M:=(tG _ _)▸M
 unfold a4;exact Sd hs M
theorem ir {l:List H} (h:l.length<=a4):gH "len" (.am l)=some (.U (.int l.length)):=w1 rfl h
theorem pu {x y:Int} (h:x<=y):eI .LtE (.int x) (.int y)=some true:=by
 show some (decide (x<=y))=_;(refine B (decide_eq_true h) ?_;rfl)
theorem Ew {x y:Int} (h:¬x<=y):eI .LtE (.int x) (.int y)=some false:=by
 show some (decide (x<=y))=_;(refine B (decide_eq_false h) ?_;rfl)
theorem Kp {x:bN} {a:Int} (aG:per[t]? =some (.V tab)) (b2:per[u]? =some (.V bJ)) (ae:kO tab bJ x) (bz:a<0\/((eo x).length:Int)<a):aH true (m+6) "place_of" [bB t u,.int a] per=some (.dA,per):=by
 refine c6 yv ?_
 apply Cg rfl
 ·refine aO (xc (m:=m) aG b2 ae) (aO (wM ae.fu) ?_)
  by_cases aL:0<=a
  ·have M:¬(a<=((eo x).length:Int)):=by exact Od bz aL
   exact qf (co true (iV (vG (z:=false) (c:=.int a) (c':=.U (.int (eo x).length)) rfl rfl rfl rfl (pu aL) (kE rfl (by decide+kernel) (by decide+kernel) rfl rfl rfl (ir (q8 ae.fu))) rfl rfl (Ew M))) (qf (Cw rfl)))
  ·exact qf (co true (iV (Tw (c:=.int a) rfl rfl rfl rfl (Ew aL))) (qf (Cw rfl)))
 ·rfl
end
end Mine
end
section
open PySem
namespace Mine
section
variable{b:Bool} {C CQ:cs} {n:Nat} {J aX:Scope} {fs fs₁ fs₂ fs₃ fs':X} {R:bk} {o:Option (bE×X)} {p:Pos} {m:Nat} {t u:Nat} {per:List H} {tab bJ:List (al×H)}
theorem yw {e:Expr} {a c:Str} {r:aU} {l:List (Str×H)} {v:H} (M:(aJ b C CQ n J).a9 e fs=some (r,fs₁)) (O:fs₁.cF r=some (.dT c l)) (Y:(pW c a&&kS e)=true) (aC:iC a l=some v):(aJ b C CQ (n+1) J).a9 (.Attribute e a p) fs=some (.U v,fs₁):=bd M (bd (bp O rfl) (cQ Y (bp aC rfl)))
theorem yL {l:List H} {v:H}:oh (.am (v::l)) (.int 0)=some v:=wm (i:=0) rfl (by decide)
theorem S7 {k:Int} {hd:List (al×H)} {kids:List bN} (aG:per[t]? =some (.V tab)) (b2:per[u]? =some (.V bJ)) (ae:kO tab bJ (.node k hd kids)) (aW:eo (.node k hd kids)=[]) (kR:kids.length<900):
  aH b (m+6) "place_of" [bB t u,.int 0] per=some (.ret (.U (.aF [bS k hd [] (er hd) false,.int kids.length])),per):=by
 refine c6 yv ?_
 refine ef ae.ao ?_;intro bH b7 c7
 have ag:=pr (b:=b) (m:=m+2) (u:=u) (hd:=hd) (v:=.am (kids.map fun y=>au y.num)) (l:=kids.map fun y=>au y.num) aG (by refine B b7.2.2 ?_;rfl) (.hr rfl)
 have iL:=xc (b:=b) (CQ:=aH false (m+5)) (m:=m) (a:=0) aG b2 ae
 have ak:=wM (b:=b) (C:=aH b (m+5)) (CQ:=aH false (m+5)) (t:=t) (u:=u) (per:=per) (a:=0) ae.fu
 replace ak:=aW▸ak
 have hs:dQ [] (.node k hd kids)=bS k hd [] (er hd) false::ix ([]++[au k]) kids:=rfl
 rw [hs] at iL ak
 have aq:gH "len" (.am (kids.map fun y=>au y.num))=some (.U (.int kids.length)):=by
  have:=ir (l:=kids.map fun y=>au y.num) (by refine B (List.length_map _) ?_;unfold a4;exact j9 kR)
  replace this:=(List.length_map _)▸this
  exact this
 apply dr rfl
 ·refine aO iL (aO ak ?_)
  refine aO (co false (iV (vG (z:=true) (c:=.int 0) (c':=.U (.int 0)) rfl rfl rfl rfl (pu (Int.le_refl 0)) (kE rfl (by decide+kernel) (by decide+kernel) rfl rfl rfl rfl) rfl rfl (pu (Int.le_refl 0)))) rfl) ?_
  exact cu (co true (cS rfl rfl rfl rfl rfl rfl) (cu (dC (kx (bM (f3 rfl rfl rfl rfl yL) rfl (bM (kE rfl (by decide+kernel) (by decide+kernel) rfl (eS rfl (by decide+kernel) (by decide+kernel) (by decide+kernel) (by decide+kernel) rfl (by decide+kernel) (bM rfl rfl (bM (yw (f3 rfl rfl rfl rfl yL) rfl rfl rfl) rfl rfl)) ag) rfl aq) rfl rfl)) (Nat.le_of_ble_eq_true rfl)) rfl)))
 ·rfl
end
end Mine
end
section
open PySem
namespace Mine
noncomputable def tt:H->Int
 |.dT _ ((_,r)::_)=>v7 r
 |_=>0
section
variable{b:Bool} {C CQ:cs} {n:Nat} {J aX:Scope} {fs fs₁ fs₂ fs₃ fs':X} {R:bk} {o:Option (bE×X)} {p:Pos} {m:Nat} {t u:Nat} {per:List H} {tab bJ:List (al×H)}
noncomputable def BA (t u:Nat) (at':Int) (found lV:List H) (bs:H) (per:List H):X:=⟨[("shelf",.U (bB t u)),("at",.U (.int at')),("found",.U (.am found)),("leaves",.aD (.am lV)),("beside",.U bs)],per⟩
noncomputable def IK (t u:Nat) (at':Int) (found lV:List H) (bs nd:H) (per:List H):X:=⟨[("shelf",.U (bB t u)),("at",.U (.int at')),("found",.U (.am found)),("leaves",.aD (.am lV)),("beside",.U bs),("node",.U nd)],per⟩
noncomputable def rg:Expr×Expr×Scope:=(ek (ce (aI 44) 5) [0,0],ek (ce (aI 44) 5) [0,2],iv (ek (ce (aI 44) 5) [0]))
theorem Oi {x:bN} {a r nk:Int} {rhd rinh:List (al×H)} {ab rest:List H} {nd:H} (hs:x.db.length<400) (aE:(dQ [] x).filter (fun v=>decide (tt v=nk))=nd::rest):
  (aJ b (aH b (m+5)) CQ 40 (bO (aI 44))).dg (ce (aI 44) 5) (BA t u a (dQ [] x) (eo x) (bS r rhd (ab++[au nk]) rinh true) per)=some (.next,IK t u a (dQ [] x) (eo x) (bS r rhd (ab++[au nk]) rinh true) nd per):=by
 obtain⟨l,e⟩:=xZ (R:=aJ b (aH b (m+5)) CQ 37 rg.2.2) (per:=per) (elt:=rg.1) (c:=rg.2.1) (x:="spot") (L:=[("beside",.U (bS r rhd (ab++[au nk]) rinh true))]) (f:=fun v=>v) (q:=fun v=>decide (tt v=nk)) (items:=dQ [] x) (fs:=⟨[("beside",.U (bS r rhd (ab++[au nk]) rinh true))],per⟩)
  (fun v ay=>by
   refine sJ (p4 x [] v ay) ?_;intro k hd ab' inh pg u;subst u
   have aA:∀{z},decide (k=nk)=z->(aJ b (aH b (m+5)) CQ 37 rg.2.2).dH rg.2.1 ⟨bX "spot" (.U (bS k hd ab' inh pg)) [("beside",.U (bS r rhd (ab++[au nk]) rinh true))],per⟩=some (z,⟨bX "spot" (.U (bS k hd ab' inh pg)) [("beside",.U (bS r rhd (ab++[au nk]) rinh true))],per⟩):=fun{z} hz=>by
    apply cS (a:=.U (.aF [.int k,.int 0])) (c:=.U (.aF [.int nk,.int 0]))
    ·exact dZ rfl rfl rfl rfl rfl mG
    ·apply dZ (fs₁:=⟨bX "spot" (.U (bS k hd ab' inh pg)) [("beside",.U (bS r rhd (ab++[au nk]) rinh true))],per⟩) (fs₂:=⟨bX "spot" (.U (bS k hd ab' inh pg)) [("beside",.U (bS r rhd (ab++[au nk]) rinh true))],per⟩) (c:="Reference") (l:=[("number",.int nk),("generation",.int 0)]) (vs:=[])
     ·rfl
     ·exact f3 rfl rfl rfl rfl vQ
     ·rfl
     ·rfl
     ·rfl
     ·exact mG
    ·rfl
    ·rfl
    ·exact DJ
    ·exact hz
   exact aA rfl) (fun v ay _=>by obtain⟨k,hd,ab',inh,pg,rfl⟩:=p4 x [] v ay;rfl) (.inl rfl)
 (replace e:=(List.map_id' _)▸e;replace e:=aE▸e)
 exact dc (f3 rfl (hS (hl rfl (ds (r:=.U (.am (dQ [] x))) rfl rfl)) (by refine B (tG _ _) ?_;unfold a4;exact v6 hs) rfl e) rfl rfl yL) rfl
theorem Qq {x:bN} {a:Int} {i:Nat} {bs:H} (hs:x.db.length<400) (ah:(eo x)[i]? =some bs) (aR:(if((eo x).length:Int)-1<a then((eo x).length:Int)-1 else a)=(i:Int)):
  (aJ b (aH b (m+5)) CQ 40 (bO (aI 44))).dg (ce (aI 44) 4) (G4 t u a (dQ [] x) (eo x) per)=some (.next,BA t u a (dQ [] x) (eo x) bs per):=by
 have bC:(eo x).length<2^62:=by have:=q8 hs;unfold a4 at this;exact HC this
 have cy:=(List.getElem?_eq_some_iff.mp ah).1
 exact dc (f3 rfl rfl (W7 rfl (bM rfl rfl (bM (dB (kE rfl (by decide+kernel) (by decide+kernel) rfl rfl rfl (ir (q8 hs))) rfl rfl rfl rfl) rfl rfl))) rfl (by refine B aR ?_;exact wm ah (by exact Rg bC cy))) rfl
theorem WG {x:bN} {a r nk:Int} {i j:Nat} {rhd rinh nhd ninh:List (al×H)} {ab nab rest:List H} {ks:List Int} (aG:per[t]? =some (.V tab)) (b2:per[u]? =some (.V bJ)) (ae:kO tab bJ x) (aL:0<=a) (M:a<=((eo x).length:Int))
  (ah:(eo x)[i]? =some (bS r rhd (ab++[au nk]) rinh true)) (aR:(if((eo x).length:Int)-1<a then((eo x).length:Int)-1 else a)=(i:Int)) (aE:(dQ [] x).filter (fun v=>decide (tt v=nk))=bS nk nhd nab ninh false::rest)
  (ag:ba (.str "Kids") nhd=some (.am (ks.map au))) (bx:∀j∈ks,Fm tab j) (aq:ks.length<900) (bF:oP r ks=some j):
  aH b (m+6) "place_of" [bB t u,.int a] per=some (.ret (.U (.aF [bS nk nhd nab ninh false,.int ((j:Int)+if a=((eo x).length:Int) then 1 else 0)])),per):=by
 refine c6 yv ?_
 have iL:=xc (b:=b) (CQ:=aH false (m+5)) (m:=m) (a:=a) aG b2 ae
 have ak:=wM (b:=b) (C:=aH b (m+5)) (CQ:=aH false (m+5)) (t:=t) (u:=u) (per:=per) (a:=a) ae.fu
 have cW:=Qq (b:=b) (CQ:=aH false (m+5)) (m:=m) (t:=t) (u:=u) (per:=per) (a:=a) ae.fu ah aR
 have dn:=Oi (b:=b) (CQ:=aH false (m+5)) (m:=m) (t:=t) (u:=u) (per:=per) (a:=a) (r:=r) (rhd:=rhd) (rinh:=rinh) (ab:=ab) ae.fu aE
 have an:=q8 ae.fu
 have qJ:=Sj (b:=b) (m:=m+1) (u:=u) (k:=nk) (inh:=ninh) (ab:=nab) aG ag bx aq bF
 have b1:eI .Eq (.am (eo x)) (.am [])=some false:=by
  cases aA:eo x with
  |nil=>replace ah:=aA▸ah;cases ah
  |cons y l=>rfl
 apply dr rfl
 ·refine aO iL (aO ak ?_)
  refine aO (co false (iV (vG (z:=true) (c:=.int a) (c':=.U (.int (eo x).length)) rfl rfl rfl rfl (pu aL) (kE rfl (by decide+kernel) (by decide+kernel) rfl rfl rfl (ir an)) rfl rfl (pu M))) rfl) ?_
  refine aO (co false (cS rfl rfl rfl rfl b1 rfl) rfl) ?_
  refine aO cW (aO dn ?_)
  by_cases aW:a=((eo x).length:Int)
  ·refine B (if_pos aW) ?_
   exact cu (dC (kx (bM rfl rfl (bM (dB (eS rfl (by decide+kernel) (by decide+kernel) (by decide+kernel) (by decide+kernel) rfl (by decide+kernel) rfl qJ) (m4 true (cS rfl (kE rfl (by decide+kernel) (by decide+kernel) rfl rfl rfl (ir an)) rfl rfl (show some (a==((eo x).length:Int))=some true by(refine B (beq_iff_eq.mpr aW) ?_;rfl)) rfl) rfl) rfl rfl rfl) rfl rfl)) (Nat.le_of_ble_eq_true rfl)) rfl)
  ·refine B (if_neg aW) ?_
   exact cu (dC (kx (bM rfl rfl (bM (dB (eS rfl (by decide+kernel) (by decide+kernel) (by decide+kernel) (by decide+kernel) rfl (by decide+kernel) rfl qJ) (m4 false (cS rfl (kE rfl (by decide+kernel) (by decide+kernel) rfl rfl rfl (ir an)) rfl rfl (show some (a==((eo x).length:Int))=some false by(refine B (beq_eq_false_iff_ne.mpr aW) ?_;rfl)) rfl) rfl) rfl rfl rfl) rfl rfl)) (Nat.le_of_ble_eq_true rfl)) rfl)
 ·rfl
end
end Mine
end
section
open PySem
namespace Mine
theorem Tk:du "put_reference"=some (aI 46):=by kernel_rfl
section
variable{b:Bool} {C CQ:cs} {n:Nat} {J aX:Scope} {fs fs₁ fs₂ fs₃ fs':X} {R:bk} {o:Option (bE×X)} {p:Pos} {m:Nat} {t u:Nat} {per:List H} {tab bJ:List (al×H)}
theorem nD {e:Expr} {cZ aR:Option Expr} {q:Pos} {r:aU} {x y:Option Int} {l:List H} (M:(aJ b C CQ n J).a9 e fs=some (r,fs₁)) (O:mB (aJ b C CQ n J) cZ fs₁=some (x,fs₂)) (Y:mB (aJ b C CQ n J) aR fs₂=some (y,fs₃)) (aC:fs₃.cF r=some (.am l)) (bR:l.length<=a4):
  (aJ b C CQ (n+1) J).a9 (.Subscript e (.Slice cZ aR none p) q) fs=some (.own (.am (iT l x y)),fs₃):=bd M (bd O (bd Y (bp (congrArg lC aC) (cQ bR rfl))))
theorem CA {k:Str} {e:Expr} {cY bZ:_} {v:H} (h:d0 (aJ b C CQ n J) e fs=some (v,fs₁)):(aJ b C CQ (n+1) J).a9 (.Dict [some (.Constant (.str k) cY bZ)] [e] p) fs=some (.own (.V [(.str k,v)]),fs₁):=bd (bp rfl (bd h (bd rfl rfl))) rfl
theorem vC {j k:Nat} (h:j<=k):jj (j:Int) k=j:=by
 unfold jj
 (refine B (if_neg (by exact Ab)) ?_;refine B (Int.toNat_natCast _) ?_;refine B (Nat.min_eq_left h) ?_;rfl)
theorem zU {l:List H} {j:Nat} (h:j<=l.length):iT l none (some (j:Int))=l.take j:=by
 show(l.take (jj (j:Int) l.length)).drop 0=_
 (refine B (vC h) ?_;refine B List.drop_zero ?_;rfl)
theorem C3 {l:List H} {j:Nat} (h:j<=l.length):iT l (some (j:Int)) none=l.drop j:=by
 show(l.take l.length).drop (jj (j:Int) l.length)=_
 (refine B (vC h) ?_;refine B List.take_length ?_;rfl)
theorem SY {l:List H}:sX [(.str "Kids",.am l)]:=⟨fun q aA=>by rw [List.mem_singleton] at aA;subst aA;exact⟨_,rfl,rfl⟩,by simp⟩
theorem TI {a r k:Int} {j:Nat} {hd inh:List (al×H)} {ab:List H} {ks:List H} {de:List H} (aG:per[t]? =some (.V tab)) (aq:tab.length<=a4) (bx:hd.length<800) (kR:ks.length<900) (bF:j<=ks.length)
  (an:aH b (m+3) "place_of" [bB t u,.int a] per=some (.ret (.U (.aF [bS k hd ab inh false,.int j])),per)) (ag:ba (.str "Kids") hd=some (.am ks))
  (hs:aH b (m+3) "settle" [bB t u] (per.set t (.V (cU (.int k) (.aF [.int 0,.V (hR hd [(.str "Kids",.am (ks.take j++[au r]++ks.drop j))])]) tab)))=some (.ret (.U .none),de)):
  aH b (m+4) "put_reference" [bB t u,.int a,au r] per=some (.ret (.U .none),de):=by
 refine c6 Tk ?_
 have sF:=pr (b:=b) (m:=m) (u:=u) (hd:=hd) (v:=.am ks) (l:=ks) aG (by refine B ag ?_;rfl) (.hr rfl)
 have iY:=qN (b:=b) (m:=m+2) (per:=per) (hd:=hd) (ch:=[(.str "Kids",.am (ks.take j++[au r]++ks.drop j))]) SY (by simp only [List.length_cons,List.length_nil];exact Xx bx)
 have jN:ks.length<=a4:=by unfold a4;exact j9 kR
 have M:=zU (l:=ks) bF
 have O:=C3 (l:=ks) bF
 apply vc rfl
 ·refine aO (lq (vs:=[bS k hd ab inh false,.int j]) rfl (eS rfl (by decide+kernel) (by decide+kernel) (by decide+kernel) (by decide+kernel) rfl (by decide+kernel) rfl an) (Nat.le_of_ble_eq_true rfl) rfl) ?_
  refine aO (dc (eS rfl (by decide+kernel) (by decide+kernel) (by decide+kernel) (by decide+kernel) rfl (by decide+kernel) rfl sF) rfl) ?_
  refine aO (nv (by decide+kernel) (bM rfl rfl (bM rfl rfl (bM (eS rfl (by decide+kernel) (by decide+kernel) (by decide+kernel) (by decide+kernel) rfl (by decide+kernel) (bM rfl rfl (bM (CA (ds (dB (dB (nD rfl rfl rfl rfl jN) rfl rfl rfl (s5 ?_)) (nD rfl rfl rfl rfl jN) rfl rfl (s5 ?_)) rfl)) rfl rfl)) (by(refine B M ?_;refine B O ?_);exact iY)) rfl rfl))) (D1 (m:=m+1) aG aq)) ?_
  ·(refine B M ?_;refine B List.length_take ?_);unfold a4;simp only [List.length_cons,List.length_nil];exact NK kR
  ·(refine B M ?_;refine B O ?_;refine B List.length_append ?_;refine B List.length_take ?_;refine B List.length_drop ?_);unfold a4;simp only [List.length_cons,List.length_nil];exact VE kR
  ·exact aO (nv (by decide+kernel) rfl hs) rfl
 ·rfl
end
end Mine
end
section
open PySem
namespace Mine
theorem Cq:du "insert_page"=some (aI 47):=by kernel_rfl
section
variable{b:Bool} {C CQ:cs} {n:Nat} {J aX:Scope} {fs fs₁ fs₂ fs₃ fs':X} {R:bk} {o:Option (bE×X)} {p:Pos} {m:Nat} {t u:Nat} {per:List H} {tab bJ:List (al×H)}
theorem Oc {a:Int} {pd:H} (Yz:iH pd=true) (h:aH true m "place_of" [bB t u,.int a] per=some (.dA,per)):aH true (m+1) "insert_page" [bB t u,.int a,pd] per=some (.dA,per):=by
 refine c6 Cq ?_
 apply Cg rfl
 ·exact qf (Eo (by decide+kernel) rfl h)
 ·rfl
end
end Mine
end
section
open PySem
namespace Mine
section
variable{b:Bool} {C CQ:cs} {n:Nat} {J aX:Scope} {fs fs₁ fs₂ fs₃ hh fs':X} {R:bk} {o:Option (bE×X)} {p:Pos} {m:Nat} {t u:Nat} {per:List H} {tab bJ:List (al×H)}
theorem pG {k k2:Str} {e ar:Expr} {cY bZ XK bn} {v w:H} (h:d0 (aJ b C CQ n J) e fs=some (v,fs₁)) (O:d0 (aJ b C CQ n J) ar fs₁=some (w,fs₂)) (b1:k≠k2):(aJ b C CQ (n+1) J).a9 (.Dict [some (.Constant (.str k) cY bZ),some (.Constant (.str k2) XK bn)] [e,ar] p) fs=some (.own (.V [(.str k,v),(.str k2,w)]),fs₂):=by
 have Y:cU (.str k2) w [(.str k,v)]=[(.str k,v),(.str k2,w)]:=if_neg fun e=>b1 (by injection e with e;exact e.symm)
 exact bd (bp rfl (bd h (bd (bp rfl (bd O (bd rfl rfl))) rfl))) (congrArg (fun d=>some (aU.own (.V d),fs₂)) Y)
noncomputable def n2:List (al×H):=[(.str "Type",gz "Page"),(.str "Parent",.none)]
theorem ED:sX n2:=⟨fun q aA=>by
  unfold n2 at aA
  rcases List.mem_cons.mp aA with rfl|aA
  ·exact⟨_,rfl,rfl⟩
  ·rw [List.mem_singleton] at aA;subst aA;exact⟨_,rfl,rfl⟩,by unfold n2;simp [tv]⟩
theorem KP {a:Int} {N:Nat} {pd cd:List (al×H)} {O0:H} {de:List H} (aG:per[t]? =some (.V tab)) (ag:fZ tab N) (dm:N<1000) (e8:cd.length<800)
  (an:aH b (m+2) "place_of" [bB t u,.int a] per=some (.ret (.U O0),per)) (hc:aH b (m+2) "copied" [.V pd] per=some (.ret (.own (.V cd)),per))
  (aP:aH b (m+2) "put_reference" [bB t u,.int a,au ((N:Int)+1)] (per.set t (.V (tab++[(.int ((N:Int)+1),.aF [.int 0,.V (hR cd n2)])])))=some (.ret (.U .none),de)):
  aH b (m+3) "insert_page" [bB t u,.int a,.V pd] per=some (.ret (.U (au ((N:Int)+1))),de):=by
 refine c6 Cq ?_
 have iY:=qN (b:=b) (m:=m+1) (per:=per) (hd:=cd) ED (by unfold n2;simp only [List.length_cons,List.length_nil];exact Sk e8)
 apply dr rfl
 ·refine aO (nv (by decide+kernel) rfl an) ?_
  refine aO (dc (dZ rfl rfl rfl rfl (bM (eS rfl (by decide+kernel) (by decide+kernel) (by decide+kernel) (by decide+kernel) rfl (by decide+kernel) (bM (eS rfl (by decide+kernel) (by decide+kernel) (by decide+kernel) (by decide+kernel) rfl (by decide+kernel) rfl hc) rfl (bM (pG (v:=gz "Page") (w:=.none) rfl rfl (by decide+kernel)) rfl rfl)) iY) rfl rfl) (rq (m:=m+1) aG ag dm)) rfl) ?_
  refine aO (nv (by decide+kernel) rfl aP) ?_
  exact cu (dC rfl rfl)
 ·rfl
end
end Mine
end
section
open PySem
namespace Mine
noncomputable def mT (k:Int) (hd:List (al×H)):H:=.dT "Page" [("reference",au k),("fields",.V hd)]
noncomputable def zR:H->H
 |.dT _ ((_,r)::(_,h)::_)=>.dT "Page" [("reference",r),("fields",h)]
 |_=>.none
section
variable{b:Bool} {C CQ:cs} {n:Nat} {J aX:Scope} {fs fs₁ fs₂ fs₃ hh fs':X} {R:bk} {o:Option (bE×X)} {p:Pos} {m:Nat} {t u:Nat} {per:List H} {tab bJ:List (al×H)}
noncomputable def AK:Expr×Scope:=(ek (ce (aI 32) 0) [0],iv (ek (ce (aI 32) 0) []))
theorem Lr {x:bN} (aG:per[t]? =some (.V tab)) (b2:per[u]? =some (.V bJ)) (ae:kO tab bJ x) (QO:∀v∈eo x,∃k hd ab pg,v=bS k hd ab (er hd) pg/\(∀k∈fY,∀v,ba (.str k) hd=some v->pN v)/\hd.length<=a4):
  aH b (m+7) "pages" [bB t u] per=some (.ret (.own (.am ((eo x).map zR))),per):=by
 refine c6 M5 ?_
 obtain⟨l,e⟩:=vL (R:=aJ b (aH b (m+6)) (aH false (m+6)) 38 AK.2) (per:=per) (elt:=AK.1) (x:="spot") (L:=[("shelf",.U (bB t u))]) (f:=zR) (items:=eo x) (fs:=⟨[("shelf",.U (bB t u))],per⟩)
  (fun v ay=>by
   refine sH (QO v ay) ?_;intro k hd ab pg u;subst u;intro M O
   exact ds (yo rfl (by decide+kernel) (by decide+kernel) (by decide+kernel) (by decide+kernel) rfl (bM rfl rfl (bM (eS rfl (by decide+kernel) (by decide+kernel) (by decide+kernel) (by decide+kernel) rfl (by decide+kernel) rfl (GD (m:=m+3) aG M O)) rfl rfl)) rfl) rfl) (.inl rfl)
 apply dr rfl
 ·exact cu (dC (hS (hl rfl (ds (eS rfl (by decide+kernel) (by decide+kernel) (by decide+kernel) (by decide+kernel) rfl (by decide+kernel) rfl (Lg (m:=m) aG b2 ae)) rfl)) (q8 ae.fu) rfl e) rfl)
 ·rfl
end
end Mine
end
section
open PySem
namespace Mine
structure da where
 n:Int
 w:Int
 kq:Bool
noncomputable abbrev cD:=List (al×H)
noncomputable def da.d (p:da):cD:=(.str "N",.int p.n)::(.str "MediaBox",.am [.int 0,.int 0,.int p.w,.int 9])::(if p.kq then [(.str "Rotate",.int 90)] else [])
inductive af where
 |leaf (k:Int) (p:da) (par:Option Int)
 |node (k:Int) (par cnt:Option Int) (kids:List af)
noncomputable def af.num:af->Int
 |.leaf k _ _=>k
 |.node k _ _ _=>k
structure bg where
 k:Int
 par:Option Int
 cnt:Option Int
 c:da⊕List Int
 ab:List Int
noncomputable def Go (p:Option Int):cD:=(p.map fun j=>(al.str "Parent",au j)).toList
noncomputable def Rk (p:Option Int):cD:=(p.map fun j=>(al.str "Count",H.int j)).toList
noncomputable def dW (par cnt:Option Int):da⊕List Int->cD
 |.inl p=>p.d++(.str "Type",gz "Page")::Go par
 |.inr l=>(.str "Type",gz "Pages")::(.str "Kids",.am (l.map au))::(Go par++Rk cnt)
noncomputable def bg.hd (q:bg):cD:=dW q.par q.cnt q.c
noncomputable def bg.pg (q:bg):Bool:=q.c.isLeft
noncomputable def bg.sp (q:bg):cR:=⟨q.k,q.hd,q.ab,er q.hd,q.pg⟩
mutual
noncomputable def af.h8:af->bN
 |.leaf k p par=>.leaf k (dW par none (.inl p))
 |.node k par cnt kids=>.node k (dW par cnt (.inr (kids.map af.num))) (af.jr kids)
noncomputable def af.jr:List af->List bN
 |[]=>[]
 |x::r=>x.h8::af.jr r
end
mutual
noncomputable def af.ai (ab:List Int):af->List bg
 |.leaf k p par=>[⟨k,par,none,.inl p,ab⟩]
 |.node k par cnt kids=>⟨k,par,cnt,.inr (kids.map af.num),ab⟩::af.bD (ab++[k]) kids
noncomputable def af.bD (ab:List Int):List af->List bg
 |[]=>[]
 |x::r=>af.ai ab x++af.bD ab r
end
theorem af.all {P:af->Prop} {Q:List af->Prop} (M:∀k p par,P (.leaf k p par)) (O:∀k par cnt kids,Q kids->P (.node k par cnt kids)) (Y:Q []) (aC:∀x r,P x->Q r->Q (x::r)):(∀x,P x)/\∀l,Q l:=
 have h:∀x,P x:=fun x=>af.rec (motive_1:=P) (motive_2:=Q) M O Y aC x
 ⟨h,fun l=>List.rec Y (fun x r ih=>aC x r (h x) ih) l⟩
theorem E2 {x:af}:x.h8.num=x.num:=by cases x<;>rfl
theorem vx:∀{l:List af},af.jr l=l.map af.h8
 |[]=>rfl
 |x::r=>by unfold af.jr;refine B vx ?_;rfl
theorem vF {ab:List Int}:∀{l:List af},af.bD ab l=l.flatMap (af.ai ab)
 |[]=>rfl
 |x::r=>by unfold af.bD;refine B vF ?_;rfl
theorem t6:(∀x:af,∀ab,gk ab x.h8=(x.ai ab).map bg.sp)/\∀l:List af,∀ab,nC ab (af.jr l)=(af.bD ab l).map bg.sp:=by
 apply af.all
 ·intro k p par ab;rfl
 ·intro k par cnt kids ih ab
  show _::nC (ab++[k]) (af.jr kids)=_::(af.bD (ab++[k]) kids).map bg.sp
  refine B (ih _) ?_;rfl
 ·intro ab;rfl
 ·intro x r M O ab
  show gk ab x.h8++nC ab (af.jr r)=(x.ai ab++af.bD ab r).map bg.sp
  (refine B (M _) ?_;refine B (O _) ?_;refine B List.map_append ?_;rfl)
noncomputable def cz (L:List bg):List Int:=L.map bg.k
theorem Cb:(∀x:af,∀ab,x.h8.db=cz (x.ai ab))/\∀l:List af,∀ab,bN.jV (af.jr l)=cz (af.bD ab l):=by
 apply af.all
 ·intro k p par ab;rfl
 ·intro k par cnt kids ih ab
  show k::bN.jV (af.jr kids)=k::cz (af.bD (ab++[k]) kids)
  rw [ih]
 ·intro ab;rfl
 ·intro x r M O ab
  show bN.db x.h8++bN.jV (af.jr r)=cz (x.ai ab++af.bD ab r)
  (refine B (M ab) ?_;refine B (O ab) ?_);unfold cz;(refine B List.map_append ?_;rfl)
theorem ua:(∀x:af,∀ab,∀q∈x.ai ab,∃t,q.ab=ab++t/\t.length<(x.ai ab).length/\∀j∈t,j∈cz (x.ai ab))/\∀l:List af,∀ab,∀q∈af.bD ab l,∃t,q.ab=ab++t/\t.length<(af.bD ab l).length/\∀j∈t,j∈cz (af.bD ab l):=by
 apply af.all
 ·intro k p par ab q aA
  rw [af.ai,List.mem_singleton] at aA
  subst aA
  exact⟨[],by simp,by simp [af.ai],by simp⟩
 ·intro k par cnt kids ih ab q aA
  rw [af.ai] at aA|-
  rcases List.mem_cons.mp aA with rfl|aA
  ·exact⟨[],by simp,by simp,by simp⟩
  ·refine et (ih _ q aA) ?_;intro t M Y O
   refine⟨k::t,by refine B M ?_;simp,by simp;exact LK Y,fun j bF=> ?_⟩
   rcases List.mem_cons.mp bF with rfl|bF
   ·exact List.mem_cons_self
   ·exact List.mem_cons_of_mem _ (O j bF)
 ·intro ab q aA;cases aA
 ·intro x r M O ab q aA
  rw [af.bD] at aA|-
  unfold cz at*
  (refine B List.map_append ?_;refine B List.length_append ?_)
  rcases List.mem_append.mp aA with aA|aA
  ·refine et (M _ q aA) ?_;intro t ak bP ar
   exact⟨t,ak,by exact PC bP,fun j bF=>List.mem_append_left _ (ar j bF)⟩
  ·refine et (O _ q aA) ?_;intro t ak bP ar
   exact⟨t,ak,by exact WK bP,fun j bF=>List.mem_append_right _ (ar j bF)⟩
noncomputable def hk (tab:cD) (L:List bg):Prop:=∀q∈L,ba (.int q.k) tab=some (.aF [.int 0,.V q.hd])
theorem rm {par cnt:Option Int} {p:da}:A3 (dW par cnt (.inl p)):=by
 obtain⟨n,w,kq⟩:=p
 refine⟨fun k ag v ay=> ?_,by cases kq<;>rfl⟩
 simp only [fY,List.mem_cons,List.not_mem_nil,or_false] at ag
 rcases ag with rfl|rfl|rfl|rfl<;>cases kq<;>cases par<;>first|(cases ay;done)|(injection ay with ay;subst ay;exact⟨rfl,rfl⟩)
theorem GB {par cnt:Option Int} {kids:List af}:wY (dW par cnt (.inr (kids.map af.num))) (af.jr kids):=by
 refine⟨fun k ag=> ?_,rfl,?_⟩
 ·simp only [fY,List.mem_cons,List.not_mem_nil,or_false] at ag
  rcases ag with rfl|rfl|rfl|rfl<;>cases par<;>cases cnt<;>rfl
 ·(refine B vx ?_;refine B List.map_map ?_)
  show some (H.am ((kids.map af.num).map au))=_
  refine B List.map_map ?_
  congr 2
  apply List.map_congr_left
  intro x _
  show au x.num=au x.h8.num
  (refine B E2 ?_;rfl)
theorem SC {tab:cD}:(∀x:af,∀ab,hk tab (x.ai ab)->py tab x.h8)/\∀l:List af,∀ab,hk tab (af.bD ab l)->rF tab (af.jr l):=by
 apply af.all
 ·intro k p par ab h
  exact⟨h _ List.mem_cons_self,rm⟩
 ·intro k par cnt kids ih ab h
  exact⟨h _ List.mem_cons_self,GB,ih _ fun q aA=>h q (List.mem_cons_of_mem _ aA)⟩
 ·intro ab h;trivial
 ·intro x r M O ab h
  exact⟨M ab fun q aA=>h q (List.mem_append_left _ aA),O ab fun q aA=>h q (List.mem_append_right _ aA)⟩
end Mine
end
section
open PySem
namespace Mine
theorem LV:du "kid_with"=some (aI 36):=by kernel_rfl
theorem OI:du "page_at"=some (aI 35):=by kernel_rfl
mutual
noncomputable def af.bh:af->List (Int×da×Option Int)
 |.leaf k p par=>[(k,p,par)]
 |.node _ _ _ kids=>af.fV kids
noncomputable def af.fV:List af->List (Int×da×Option Int)
 |[]=>[]
 |x::r=>x.bh++af.fV r
end
mutual
noncomputable def af.oi:af->Prop
 |.leaf ..=>True
 |.node _ _ cnt kids=>cnt=some ((af.fV kids).length:Int)/\af.qa kids
noncomputable def af.qa:List af->Prop
 |[]=>True
 |x::r=>x.oi/\af.qa r
end
noncomputable def af.sv (ab:List Int):af->H
 |.leaf k p par=>bS k (dW par none (.inl p)) (ab.map au) (er (dW par none (.inl p))) true
 |.node k par cnt kids=>bS k (dW par cnt (.inr (kids.map af.num))) (ab.map au) [] false
noncomputable def EJ (J:Scope) (f:Str):Bool:=decide (J.names.lookup f=some .globalImplicit)&&(!(["isinstance","min","Shelf"]:List Str).contains f&&(!lM.contains f&&((jz f).isNone&&j0 f)))
section
variable{b:Bool} {C CQ:cs} {n:Nat} {J aX:Scope} {fs fs₁ fs₂ fs₃ hh fs':X} {R:bk} {o:Option (bE×X)} {p:Pos} {m:Nat} {t u:Nat} {per:List H} {tab bJ:List (al×H)}
theorem dt {f args q vs r per} (h:EJ J f=true) (bz:dk (aJ b C CQ n J) args fs=some (vs,fs₁)) (hc:C f vs fs₁.per=some (.ret r,per)):(aJ b C CQ (n+1) J).a9 (.Call (.Name f p) args [] q) fs=some (r,{fs₁ with per:=per}):=by
 unfold EJ at h
 simp only [Bool.and_eq_true,decide_eq_true_eq,Bool.not_eq_true',Option.isNone_iff_eq_none] at h
 refine jY h ?_;clear h;intro aL M O Y aC
 have iP:∀g∈(["isinstance","min","Shelf"]:List Str),f≠g:=fun g bi e=>by
  subst e
  have:=List.contains_iff_mem.mpr bi
  replace this:=M▸this;cases this
 exact eS aL (iP _ (by simp)) (iP _ (by simp)) (by refine B O ?_;decide) (iP _ (by simp)) Y aC bz hc
theorem Gb {x:af} {ab:List Int} (aG:per[t]? =some (.V tab)) (h:hk tab (x.ai ab)):aH b (m+4) "met" [bB t u,au x.num,.aF (ab.map au),.V []] per=some (.ret (.U (x.sv ab)),per):=by
 cases x with
 |leaf k q par=>exact sg (x:=false) aG (h _ List.mem_cons_self) rm.1 rm.2
 |node k par cnt kids=>
  have g:=GB (par:=par) (cnt:=cnt) (kids:=kids)
  have:=sg (b:=b) (m:=m) (u:=u) (ab:=ab.map au) (x:=true) aG (h _ List.mem_cons_self) (fun k ag v e=>by(rw [show bg.hd _=dW par cnt (.inr (kids.map af.num)) from rfl] at e;replace e:=(g.1 k ag)▸e);cases e) g.2.1
  have aR:er (bg.hd ⟨k,par,cnt,.inr (kids.map af.num),ab⟩)=[]:=zc g
  replace this:=aR▸this
  exact this
noncomputable def GY (t u:Nat) (sp:H) (left:Int) (kid:H) (per:List H):X:=⟨[("shelf",.U (bB t u)),("spot",.U sp),("left",.U (.int left)),("kid",.U kid)],per⟩
noncomputable def kd (t u:Nat) (sp:H) (left:Int) (kid below count:H) (per:List H):X:=⟨[("shelf",.U (bB t u)),("spot",.U sp),("left",.U (.int left)),("kid",.U kid),("below",.U below),("count",.U count)],per⟩
noncomputable def pq:List Stmt:=d4 (ce (aI 36) 0)
noncomputable abbrev qg (b:Bool) (CQ:cs) (m n:Nat):bk:=aJ b (aH b (m+4)) CQ (n+20) (bO (aI 36))
theorem oJ {x y:Int} {z:Bool} (h:decide (x<y)=z):eI .Lt (.int x) (.int y)=some z:=by
 show some (decide (x<y))=_;(refine B h ?_;rfl)
theorem Kx {z:af} {k left:Int} {hd:cD} {ab:List Int} (aB:fs=GY t u (bS k hd (ab.map au) [] false) left (au z.num) per\/∃x y,fs=kd t u (bS k hd (ab.map au) [] false) left (au z.num) x y per) (aG:per[t]? =some (.V tab)) (h:hk tab (z.ai (ab++[k]))) (hc:z.oi) (bz:ab.length<900):
  cO (qg b CQ m n) pq fs=cO (qg b CQ m n) (pq.drop 3) (kd t u (bS k hd (ab.map au) [] false) left (au z.num) (z.sv (ab++[k])) (.int z.bh.length) per):=by
 have aY:=Gb (b:=b) (m:=m) (u:=u) (ab:=ab++[k]) aG h
 replace aY:=List.map_append▸aY
 have aR:=Ff (b:=b) (m:=m+3) (per:=per) (i:=(z.bh.length:Int))
 replace aR:=(decide_eq_true (Int.natCast_nonneg _))▸aR
 have ar:(qg b CQ m n).dg ((pq[2]?).getD default) (kd t u (bS k hd (ab.map au) [] false) left (au z.num) (z.sv (ab++[k])) (.int z.bh.length) per)=some (.next,kd t u (bS k hd (ab.map au) [] false) left (au z.num) (z.sv (ab++[k])) (.int z.bh.length) per):=
  co false (iV (t:=true) (j6 (dt rfl rfl aR))) rfl
 have Bo:=ud (x:=ab.map au) (y:=[au k]) (by refine B (List.length_map _) ?_;unfold a4;simp;exact Nf bz)
 cases z with
 |leaf cY q par=>
  rcases aB with rfl|⟨x,y,rfl⟩<;>
  exact aO (dc (dt rfl (bM rfl rfl (bM rfl rfl (bM (dB rfl rfl rfl rfl Bo) rfl rfl))) aY) rfl) (aO (dc (m4 true rfl rfl) rfl) (aO ar rfl))
 |node cY par cnt kids=>
  refine cl hc ?_;clear hc;intro hc _
  subst hc
  rcases aB with rfl|⟨x,y,rfl⟩<;>
  exact aO (dc (dt rfl (bM rfl rfl (bM rfl rfl (bM (dB rfl rfl rfl rfl Bo) rfl rfl))) aY) rfl) (aO (dc (m4 false rfl (dZ rfl rfl rfl rfl rfl (kJ (m:=m+2) aG (v:=.int (af.fV kids).length) (by cases par<;>rfl) (.hr rfl)))) rfl) (aO ar rfl))
theorem K2 {sp kid below:H} {left c:Int} (h:left<c):cO (qg b CQ m n) (pq.drop 3) (kd t u sp left kid below (.int c) per)=some (.ret (.U (.aF [below,.int left])),kd t u sp left kid below (.int c) per)\/iH below=false:=by
 cases ah:iH below with
 |false=>exact .inr rfl
 |true=>exact .inl (cu (co true (cS rfl rfl rfl rfl (oJ (decide_eq_true h)) rfl) (cu (dC rfl rfl))))
theorem Ie {sp kid below:H} {left c:Int} (h:¬left<c):cO (qg b CQ m n) (pq.drop 3) (kd t u sp left kid below (.int c) per)=some (.next,kd t u sp (left-c) kid below (.int c) per):=
 aO (co false (cS rfl rfl rfl rfl (oJ (decide_eq_false h)) rfl) rfl) (aO (dc rfl rfl) rfl)
end
end Mine
end
section
open PySem
namespace Mine
noncomputable def EO (J:Scope) (f:Str):Bool:=decide (J.names.lookup f=some .globalImplicit)&&(!(["isinstance","min"]:List Str).contains f&&lM.contains f)
theorem Db {z:af} {ab:List Int}:∀{l:List af},z∈l->(z.ai ab).length<=(af.bD ab l).length/\∀q∈z.ai ab,q∈af.bD ab l
 |x::r,h=>by
  (rw [af.bD];refine B List.length_append ?_)
  rcases List.mem_cons.mp h with rfl|h
  ·exact⟨by exact Fx,fun q aA=>List.mem_append_left _ aA⟩
  ·have:=Db (ab:=ab) h
   exact⟨by omega,fun q aA=>List.mem_append_right _ (this.2 q aA)⟩
theorem Ai {z:af}:∀{l:List af},af.qa l->z∈l->z.oi
 |x::r,h,hz=>by
  rcases List.mem_cons.mp hz with rfl|hz
  ·exact h.1
  ·exact Ai h.2 hz
section
variable{b:Bool} {C CQ:cs} {n:Nat} {J aX:Scope} {fs fs₁ fs₂ fs₃ hh fs':X} {R:bk} {o:Option (bE×X)} {p:Pos} {m:Nat} {t u:Nat} {per:List H} {tab bJ:List (al×H)}
theorem e9 {f:Str} {e:Expr} {q:Pos} {r r':aU} {v:H} (h:EO J f=true) (aW:(aJ b C CQ n J).a9 e fs=some (r,fs₁)) (hd:fs₁.cF r=some v) (aC:gH f v=some r'):(aJ b C CQ (n+1) J).a9 (.Call (.Name f p) [e] [] q) fs=some (r',fs₁):=by
 unfold EO at h
 simp only [Bool.and_eq_true,decide_eq_true_eq,Bool.not_eq_true'] at h
 refine ef h ?_;clear h;intro aL M O
 have iP:∀g∈(["isinstance","min"]:List Str),f≠g:=fun g bi e=>by
  subst e
  have:=List.contains_iff_mem.mpr bi
  replace this:=M▸this;cases this
 exact kE aL (iP _ (by simp)) (iP _ (by simp)) O aW hd aC
noncomputable def Si (t u:Nat) (sp:H) (left:Int) (per:List H):X:=⟨[("shelf",.U (bB t u)),("spot",.U sp),("left",.U (.int left))],per⟩
theorem QB {z:af} {ab:List Int}:iH (z.sv ab)=true:=by cases z<;>rfl
theorem Dh {k:Int} {hd:cD} {ab:List Int} (aG:per[t]? =some (.V tab)) (bz:ab.length<900):∀{l:List af} {left:Nat} {fs:X},(fs=Si t u (bS k hd (ab.map au) [] false) left per\/∃x y z,fs=kd t u (bS k hd (ab.map au) [] false) left x y z per)->
  hk tab (af.bD (ab++[k]) l)->af.qa l->left<(af.fV l).length->
  ∃z iI fs',f1 (qg b CQ m n) (bO (aI 36)) "kid" pq (l.map fun z=>au z.num) fs=some (.ret (.U (.aF [z.sv (ab++[k]),.int (iI:Nat)])),fs')/\fs'.per=per/\z∈l/\iI<z.bh.length/\z.bh[iI]? =(af.fV l)[left]?
 |[],left,fs,_,_,_,aq=>by cases aq
 |z::l,left,fs,aB,aR,hc,aq=>by
  have XN:hk tab (z.ai (ab++[k])):=fun q aA=>aR q (List.mem_append_left _ aA)
  have qG:hk tab (af.bD (ab++[k]) l):=fun q aA=>aR q (List.mem_append_right _ aA)
  have d5:∃fs₁,eL (bO (aI 36)) "kid" (.U (au z.num)) fs=some fs₁/\(fs₁=GY t u (bS k hd (ab.map au) [] false) left (au z.num) per\/∃x y,fs₁=kd t u (bS k hd (ab.map au) [] false) left (au z.num) x y per):=by
   rcases aB with rfl|⟨x,y,w,rfl⟩
   ·exact⟨_,rfl,.inl rfl⟩
   ·exact⟨_,rfl,.inr ⟨y,w,rfl⟩⟩
  refine bb d5 ?_;clear d5;intro fs₁ ak ar
  have bP:=Kx (b:=b) (CQ:=CQ) (n:=n) (m:=m) ar aG XN hc.1 bz
  rw [af.fV] at aq|-
  by_cases h:left<z.bh.length
  ·have cW:=(K2 (b:=b) (CQ:=CQ) (n:=n) (m:=m) (t:=t) (u:=u) (per:=per) (sp:=bS k hd (ab.map au) [] false) (kid:=au z.num) (below:=z.sv (ab++[k])) (left:=left) (c:=z.bh.length) (by exact vh h)).resolve_right (by refine B QB ?_;decide)
   exact⟨z,left,_,ws ak (bP.trans cW),rfl,List.mem_cons_self,h,by(refine B (List.getElem?_append_left h) ?_;rfl)⟩
  ·have cW:=Ie (b:=b) (CQ:=CQ) (n:=n) (m:=m) (t:=t) (u:=u) (per:=per) (sp:=bS k hd (ab.map au) [] false) (kid:=au z.num) (below:=z.sv (ab++[k])) (left:=left) (c:=z.bh.length) (by exact wG h)
   replace aq:=List.length_append▸aq
   refine uV (Dh aG bz (l:=l) (left:=left-z.bh.length) (fs:=kd t u (bS k hd (ab.map au) [] false) ((left:Int)-z.bh.length) (au z.num) (z.sv (ab++[k])) (.int z.bh.length) per) (.inr ⟨_,_,_,by(refine B (Int.ofNat_sub (by exact vr h)) ?_;rfl)⟩) qG hc.2 (by exact QY h aq)) ?_;intro SJ iI fs' bH b7 c7 fl hE
   exact⟨SJ,iI,fs',fG ak (bP.trans cW) bH,b7,List.mem_cons_of_mem _ c7,fl,by(refine B hE ?_;refine B (List.getElem?_append_right (by exact vr h)) ?_;rfl)⟩
theorem N1 {k:Int} {par cnt:Option Int} {kids:List af} {ab:List Int} {left:Nat} (aG:per[t]? =some (.V tab)) (bz:ab.length<900) (aR:hk tab (af.bD (ab++[k]) kids)) (hc:af.qa kids) (aq:left<(af.fV kids).length):
  ∃z iI,aH b (m+5) "kid_with" [bB t u,af.sv ab (.node k par cnt kids),.int left] per=some (.ret (.U (.aF [z.sv (ab++[k]),.int (iI:Nat)])),per)/\z∈kids/\iI<z.bh.length/\z.bh[iI]? =(af.fV kids)[left]? :=by
 refine dz (Dh (b:=b) (CQ:=aH false (m+4)) (m:=m) (n:=19) (u:=u) (hd:=dW par cnt (.inr (kids.map af.num))) aG bz (.inl rfl) aR hc aq) ?_;intro z iI fs' bH b7 c7
 refine⟨z,iI,c6 LV ?_,c7⟩
 have ag:=pr (b:=b) (m:=m+1) (u:=u) (hd:=dW par cnt (.inr (kids.map af.num))) (v:=.am ((kids.map af.num).map au)) (l:=(kids.map af.num).map au) aG rfl (.hr rfl)
 replace ag:=List.map_map▸ag
 apply dr rfl
 ·exact cu (g7 (hl rfl (ds (dt rfl rfl ag) rfl)) bH)
 ·exact b7
noncomputable def tT (t u:Nat) (a:Int) (sp:H) (left:Int) (per:List H):X:=⟨[("shelf",.U (bB t u)),("at",.U (.int a)),("spot",.U sp),("left",.U (.int left))],per⟩
theorem Ta {l:List H} (h:l.length<=a4):gH "len" (.aF l)=some (.U (.int l.length)):=w1 rfl h
theorem TP {l:cD} (h:l.length<=a4):gH "len" (.V l)=some (.U (.int l.length)):=w1 rfl h
theorem t7 {x y:Int} {z:Bool} (h:decide (y<x)=z):eI .Gt (.int x) (.int y)=some z:=by
 show some (decide (y<x))=_;(refine B h ?_;rfl)
theorem XW (aG:per[t]? =some (.V tab)) (xo:tab.length<900) {a:Int}:(∀x:af,∀ab (left fuel:Nat),hk tab (x.ai ab)->x.oi->left<x.bh.length->ab.length+(x.ai ab).length<=tab.length->(x.ai ab).length<=fuel->
  ∃k q par ab' c8,gK (aJ b (aH b (m+5)) CQ (n+20) (bO (aI 35))) (mq (ce (aI 35) 3)) (d4 (ce (aI 35) 3)) fuel (tT t u a (x.sv ab) left per)=some (.next,tT t u a (af.sv ab' (.leaf k q par)) c8 per)/\x.bh[left]? =some (k,q,par))/\
  ∀l:List af,∀x∈l,∀ab (left fuel:Nat),hk tab (x.ai ab)->x.oi->left<x.bh.length->ab.length+(x.ai ab).length<=tab.length->(x.ai ab).length<=fuel->
  ∃k q par ab' c8,gK (aJ b (aH b (m+5)) CQ (n+20) (bO (aI 35))) (mq (ce (aI 35) 3)) (d4 (ce (aI 35) 3)) fuel (tT t u a (x.sv ab) left per)=some (.next,tT t u a (af.sv ab' (.leaf k q par)) c8 per)/\x.bh[left]? =some (k,q,par):=by
 apply af.all
 ·intro k q par ab left fuel aR hc aq hd aB
  rw [af.ai] at aB
  obtain⟨f,rfl⟩:∃f,fuel=f+1:=⟨fuel-1,by simp at aB;exact R9 aB⟩
  rw [af.bh] at aq|-
  have:left=0:=by simpa using aq
  subst this
  exact⟨k,q,par,ab,_,w_end rfl,rfl⟩
 ·intro k par cnt kids ih ab left fuel aR hc aq hd aB
  rw [af.ai] at aB hd aR
  simp only [List.length_cons] at aB hd
  obtain⟨f,rfl⟩:∃f,fuel=f+1:=⟨fuel-1,by exact T2 aB⟩
  rw [af.bh] at aq|-
  have qG:hk tab (af.bD (ab++[k]) kids):=fun q aA=>aR q (List.mem_cons_of_mem _ aA)
  refine gr (N1 (b:=b) (m:=m) (u:=u) (par:=par) (cnt:=cnt) aG (by exact IY xo hd) qG hc.2 aq) ?_;intro z iI ak ar bP cW
  have hz:=Db (ab:=ab++[k]) ar
  have nU:hk tab (z.ai (ab++[k])):=fun q aA=>qG q (hz.2 q aA)
  have LZ:=Ai hc.2 ar
  have mO:=hz.1
  refine xE (ih z ar (ab++[k]) iI f nU LZ bP (by simp;exact WJ hd mO) (by exact NE aB mO)) ?_;intro cY cL zd ab' c8 bH b7
  refine⟨cY,cL,zd,ab',c8,pc (iV (t:=false) rfl) ?_ bH,by(refine bu cW ?_;refine B b7 ?_;rfl)⟩
  refine aO (co false (cS (e9 rfl rfl rfl (Ta (l:=ab.map au) (by refine B (List.length_map _) ?_;unfold a4;exact Vt xo hd))) (e9 rfl rfl aG (TP (by unfold a4;exact j9 xo))) rfl rfl (t7 (decide_eq_false (by refine B (List.length_map _) ?_;exact Ub hd))) rfl) rfl) ?_
  exact aO (lq (vs:=[z.sv (ab++[k]),.int (iI:Nat)]) rfl (dt rfl rfl ak) (Nat.le_of_ble_eq_true rfl) rfl) rfl
 ·intro x ae;cases ae
 ·intro x r M O y aQ
  rcases List.mem_cons.mp aQ with rfl|aQ
  ·exact M
  ·exact O y aQ
end
end Mine
end
section
open PySem
namespace Mine
noncomputable def under:List bg->Int->Nat
 |[],_=>0
 |q::r,k=>(if q.pg then q.ab.count k else 0)+under r k
theorem vq {k:Int}:∀{A ap:List bg},under (A++ap) k=under A k+under ap k
 |[],ap=>by show under ap k=0+under ap k;exact RQ
 |q::A,ap=>by
  show _+under (A++ap) k=_+under A k+under ap k
  refine B vq ?_;exact K6
theorem p5 {A ap:List bg}:cz (A++ap)=cz A++cz ap:=List.map_append
theorem ye {k:Int}:(∀x:af,∀ab,k∉cz (x.ai ab)->under (x.ai ab) k=x.bh.length*ab.count k)/\∀l:List af,∀ab,k∉cz (af.bD ab l)->under (af.bD ab l) k=(af.fV l).length*ab.count k:=by
 apply af.all
 ·intro j p par ab h
  show ab.count k+0=1*_
  exact N6
 ·intro j par cnt kids ih ab h
  rw [af.ai] at h|-
  refine cl (not_or.mp (fun q=>h (List.mem_cons.mpr q))) ?_;intro M O
  show 0+under (af.bD (ab++[j]) kids) k=_
  (refine B (ih _ O) ?_;refine B List.count_append ?_;refine B List.count_singleton ?_;rw [af.bh])
  rw [if_neg (by simpa using fun e=>M e.symm),Nat.add_zero,Nat.zero_add]
 ·intro ab h;show 0=0*_;exact R5
 ·intro x r M O ab h
  (rw [af.bD] at h;replace h:=p5▸h)
  refine cl (not_or.mp (fun q=>h (List.mem_append.mpr q))) ?_;intro bH b7
  (rw [af.bD];refine B vq ?_;refine B (M _ bH) ?_;refine B (O _ b7) ?_;rw [af.fV];refine B List.length_append ?_;refine B (Nat.add_mul _ _ _) ?_;rfl)
theorem TK:(∀x:af,∀ab,(cz (x.ai ab)).Nodup->(∀j∈cz (x.ai ab),j∉ab)->(∀q∈x.ai ab,q.pg=false->q.cnt=some (under (x.ai ab) q.k:Int))->x.oi)/\
  ∀l:List af,∀ab,(cz (af.bD ab l)).Nodup->(∀j∈cz (af.bD ab l),j∉ab)->(∀q∈af.bD ab l,q.pg=false->q.cnt=some (under (af.bD ab l) q.k:Int))->af.qa l:=by
 apply af.all
 ·intros;trivial
 ·intro k par cnt kids ih ab M O Y
  rw [af.ai] at M O Y
  refine cl (List.nodup_cons.mp M) ?_;intro bH b7
  have e:∀j,under ((⟨k,par,cnt,.inr (kids.map af.num),ab⟩:bg)::af.bD (ab++[k]) kids) j=under (af.bD (ab++[k]) kids) j:=fun j=>by
   show 0+_=_;exact Bd
  refine⟨?_,ih (ab++[k]) b7 (fun j bF q=> ?_) fun q aA an=>by(refine B (Y q (List.mem_cons_of_mem _ aA) an) ?_;refine B (e _) ?_;rfl)⟩
  ·have aC:cnt=_:=Y _ List.mem_cons_self rfl
   dsimp only at aC
   (refine B aC ?_;refine B (e _) ?_;refine B (ye.2 kids _ bH) ?_;refine B List.count_append ?_;refine B List.count_singleton ?_;refine B (List.count_eq_zero.mpr (O k List.mem_cons_self)) ?_)
   simp
  ·rcases List.mem_append.mp q with q|q
   ·exact O j (List.mem_cons_of_mem _ bF) q
   ·rw [List.mem_singleton] at q
    subst q
    exact bH bF
 ·intros;trivial
 ·intro x r M O ab bH b7 c7
  rw [af.bD] at bH b7 c7
  rw [p5] at bH b7
  refine ef (List.nodup_append.mp bH) ?_;intro ho js g8
  have z:∀{L:List bg} {q:bg},q∈L->q.k∈cz L:=fun aA=>List.mem_map_of_mem aA
  refine⟨M ab ho (fun j bF=>b7 j (List.mem_append_left _ bF)) fun q aA an=> ?_,O ab js (fun j bF=>b7 j (List.mem_append_right _ bF)) fun q aA an=> ?_⟩
  ·(refine B (c7 q (List.mem_append_left _ aA) an) ?_;refine B vq ?_;refine B (ye.2 r ab (fun h=>g8 _ (z aA) _ h rfl)) ?_;refine B (List.count_eq_zero.mpr (b7 _ (List.mem_append_left _ (z aA)))) ?_)
   simp
  ·(refine B (c7 q (List.mem_append_right _ aA) an) ?_;refine B vq ?_;refine B (ye.1 x ab (fun h=>g8 _ h _ (z aA) rfl)) ?_;refine B (List.count_eq_zero.mpr (b7 _ (List.mem_append_right _ (z aA)))) ?_)
   simp
theorem GM {k:Int}:∀{ab:List Int} {d:cD} {c:Int},ba (.int k) d=some (.int c)->ba (.int k) (ab.foldl gC d)=some (.int (c+(ab.count k:Nat)))
 |[],d,c,h=>by simpa using h
 |j::ab,d,c,h=>by
  (refine B List.foldl_cons ?_;refine B List.count_cons ?_)
  have e:ba (.int k) (gC d j)=some (.int (if j=k then c+1 else c)):=by
   unfold gC
   by_cases bF:j=k
   ·subst bF;refine B h ?_;dsimp only [kA,la,lf,kX,kN,kM,kV,lb];(refine B hg ?_;refine B (if_pos rfl) ?_;refine B (if_pos rfl) ?_;rfl)
   ·refine B (if_neg bF) ?_
    split
    ·(refine B hg ?_;refine B (if_neg (fun e=>bF (by injection e with e;exact e.symm))) ?_;refine B h ?_;rfl)
    ·exact h
  refine B (GM e) ?_
  by_cases bF:j=k
  ·subst bF;simp;exact RK
  ·have:(j==k)=false:=by simpa using bF
   (refine B (if_neg bF) ?_;refine B this ?_);simp
theorem w4 {k:Int}:∀{L:List bg} {d:cD} {c:Int},ba (.int k) d=some (.int c)->ba (.int k) ((L.map bg.sp).foldl i3 d)=some (.int (c+(under L k:Nat)))
 |[],d,c,h=>by show _=some (H.int (c+((0:Nat):Int)));simpa using h
 |q::L,d,c,h=>by
  (refine B List.map_cons ?_;refine B List.foldl_cons ?_)
  have e:ba (.int k) (i3 d q.sp)=some (.int (c+(if q.pg then q.ab.count k else 0:Nat))):=by
   unfold i3
   show ba _ (if q.pg then q.ab.foldl gC d else d)=_
   cases q.pg
   ·simpa using h
   ·exact GM h
  refine B (w4 e) ?_
  show _=some (H.int (c+((_+under L k:Nat):Int)))
  congr 2
  push_cast
  exact KT
theorem Ex:∀{L:List bg} {d:cD} {j:Int},j∉cz L->ba (.int j) ((L.map bg.sp).foldl g9 d)=ba (.int j) d
 |[],d,j,_=>rfl
 |q::L,d,j,h=>by
  refine cl (not_or.mp (fun z=>h (List.mem_cons.mpr z))) ?_;intro M O
  (refine B List.map_cons ?_;refine B List.foldl_cons ?_;refine B (Ex O) ?_)
  unfold g9
  (refine B hg ?_;refine B (if_neg (fun e=>M (by injection e))) ?_;rfl)
theorem tF {L:List bg}:∀{d:cD},(cz L).Nodup->∀q∈L,ba (.int q.k) ((L.map bg.sp).foldl g9 d)=some (.int (if q.pg then 1 else 0)):=by
 induction L with
 |nil=>intro d _ q aA;exact(List.not_mem_nil aA).elim
 |cons cL L ih=>
  intro d aE q aA
  refine cl (List.nodup_cons.mp aE) ?_;intro M O
  (refine B List.map_cons ?_;refine B List.foldl_cons ?_)
  rcases List.mem_cons.mp aA with rfl|aA
  ·refine B (Ex M) ?_
   unfold g9
   refine B hg ?_
   exact if_pos rfl
  ·exact ih O q aA
end Mine
end
section
open PySem
namespace Mine
noncomputable def bg.g4 (g:Int->Int) (q:bg):bg:=⟨q.k,q.ab.getLast?,if q.pg then none else some (g q.k),q.c,q.ab⟩
mutual
noncomputable def af.g4 (g:Int->Int) (par:Option Int):af->af
 |.leaf k p _=>.leaf k p par
 |.node k _ _ kids=>.node k par (some (g k)) (af.p7 g (some k) kids)
noncomputable def af.p7 (g:Int->Int) (par:Option Int):List af->List af
 |[]=>[]
 |x::r=>x.g4 g par::af.p7 g par r
end
theorem EA {g:Int->Int} {par:Option Int} {x:af}:(x.g4 g par).num=x.num:=by cases x<;>rfl
theorem G8 {g:Int->Int} {par:Option Int}:∀{l:List af},(af.p7 g par l).map af.num=l.map af.num
 |[]=>rfl
 |x::r=>by(rw [af.p7];refine B List.map_cons ?_;refine B List.map_cons ?_;refine B G8 ?_;refine B EA ?_;rfl)
theorem Tg {g:Int->Int}:(∀x:af,∀ab,(x.g4 g ab.getLast?).ai ab=(x.ai ab).map (bg.g4 g))/\∀l:List af,∀ab,af.bD ab (af.p7 g ab.getLast? l)=(af.bD ab l).map (bg.g4 g):=by
 apply af.all
 ·intro k p par ab;rfl
 ·intro k par cnt kids ih ab
  have:=ih (ab++[k])
  replace this:=List.getLast?_concat▸this
  (rw [af.g4,af.ai];refine B this ?_;refine B G8 ?_);rfl
 ·intro ab;rfl
 ·intro x r M O ab
  (rw [af.p7,af.bD];refine B (M _) ?_;refine B (O _) ?_;rw [af.bD];refine B List.map_append ?_;rfl)
noncomputable def yf (L:List bg):Prop:=∀q∈L,q.par=q.ab.getLast? \/(q.par=none/\q.cnt=none)
theorem Hm {s:cR} {x:Option Int} {c:Int}:hT s x c=(if x=s.ab.getLast? then([]:cD) else [(.str "Parent",(s.ab.getLast?.map au).getD .none)])++(if l9 s c then [] else [(.str "Count",.int c)]):=by
 unfold hT kt
 cases s.ab.getLast? with
 |none=>by_cases h:x=none<;>simp [h]
 |some j=>by_cases h:x=some j<;>simp [h]
theorem L5:(∀x:af,∀ab,∀q∈x.ai ab,q.pg=true->q.cnt=none)/\∀l:List af,∀ab,∀q∈af.bD ab l,q.pg=true->q.cnt=none:=by
 apply af.all
 ·intro k p par ab q aA _
  rw [af.ai,List.mem_singleton] at aA
  subst aA;rfl
 ·intro k par cnt kids ih ab q aA an
  rw [af.ai] at aA
  rcases List.mem_cons.mp aA with rfl|aA
  ·cases an
  ·exact ih _ q aA an
 ·intro ab q aA;cases aA
 ·intro x r M O ab q aA
  rcases List.mem_append.mp aA with aA|aA
  ·exact M _ q aA
  ·exact O _ q aA
theorem UR {par cnt y:Option Int} {e:da⊕List Int} {z:Bool} {c:Int} (h:par=y\/(par=none/\cnt=none)) (hc:e.isLeft=true->cnt=none) (hz:z=match e,cnt with|.inl _,_=>true|.inr _,some d=>d==c|.inr _,none=>false):
  hR (dW par cnt e) ((if par=y then([]:cD) else [(.str "Parent",(y.map au).getD .none)])++(if z then [] else [(.str "Count",.int c)]))=dW y (if e.isLeft then none else some c) e:=by
 subst hz
 cases e with
 |inl p=>
  have hc:cnt=none:=hc rfl
  subst hc
  obtain⟨n,w,kq⟩:=p
  dsimp only [kA,la,lf,kX,kN,kM,kV,lb]
  (refine B (if_pos rfl) ?_;refine B (List.append_nil _) ?_)
  by_cases an:par=y
  ·(refine B (if_pos an) ?_;refine B an ?_);rfl
  ·refine B (if_neg an) ?_
   refine cl (h.resolve_left an) ?_;intro u;subst u;intro _
   cases y with
   |none=>exact absurd rfl an
   |some j=>cases kq<;>rfl
 |inr l=>
  by_cases an:par=y
  ·refine B (if_pos an) ?_
   subst an
   cases cnt with
   |none=>cases par<;>rfl
   |some d=>
    dsimp only [kA,la,lf,kX,kN,kM,kV,lb]
    by_cases hd:d=c
    ·(refine B (if_pos (by simpa using hd)) ?_;refine B hd ?_);rfl
    ·refine B (if_neg (by simpa using hd)) ?_;cases par<;>rfl
  ·refine B (if_neg an) ?_
   refine cl (h.resolve_left an) ?_;intro u;subst u;intro u;subst u
   cases y with
   |none=>exact absurd rfl an
   |some j=>rfl
theorem VL {q:bg} {g:Int->Int} {c:Int} (h:q.par=q.ab.getLast? \/(q.par=none/\q.cnt=none)) (hc:q.pg=true->q.cnt=none) (bi:q.pg=false->c=g q.k):hR q.hd (hT q.sp q.par c)=(q.g4 g).hd:=by
 obtain⟨k,par,cnt,e,ab⟩:=q
 refine B Hm ?_
 refine(UR h hc ?_).trans ?_
 ·cases e with
  |inl p=>rfl
  |inr l=>cases par<;>cases cnt<;>rfl
 ·cases e with
  |inl p=>rfl
  |inr l=>
   have bi:c=g k:=bi rfl
   subst bi;rfl
theorem wF {k:al} {v:H}:∀{l:cD},(ba k l).isSome=true->(cU k v l).map (·.1)=l.map (·.1)
 |[],h=>by cases h
 |(y,w)::r,h=>by
  unfold ba at h
  unfold cU
  by_cases e:k=y
  ·refine B (if_pos e) ?_;rfl
  ·rw [if_neg e] at h|-
   (refine B List.map_cons ?_;refine B (wF h) ?_);rfl
theorem QT {tab:cD} {s:cR} {x:Option Int} {c j:Int} (h:ba (.int s.k) tab=some (.aF [.int 0,.V s.hd])):ba (.int j) (ji tab s x c)=(if j=s.k then some (.aF [.int 0,.V (hR s.hd (hT s x c))]) else ba (.int j) tab)/\(ji tab s x c).map (·.1)=tab.map (·.1):=by
 unfold ji
 cases hc:hT s x c with
 |nil=>
  (refine B List.isEmpty_nil ?_;refine B (if_pos rfl) ?_)
  refine⟨?_,rfl⟩
  by_cases e:j=s.k
  ·(refine B (if_pos e) ?_;refine B e ?_;refine B h ?_);rfl
  ·(refine B (if_neg e) ?_;rfl)
 |cons a l=>
  (refine B List.isEmpty_cons ?_;refine B (if_neg (by decide)) ?_;refine B hg ?_)
  refine⟨?_,wF (by refine B h ?_;rfl)⟩
  by_cases e:j=s.k
  ·(refine B (if_pos (by rw [e])) ?_;refine B (if_pos e) ?_;rfl)
  ·(refine B (if_neg (fun q=>e (by injection q))) ?_;refine B (if_neg e) ?_;rfl)
theorem EU {c:bg->Int} {g:Int->Int}:∀{L:List bg} {tab:cD},(cz L).Nodup->hk tab L->(∀q∈L,hR q.hd (hT q.sp q.par (c q))=(q.g4 g).hd)->
  hk (pA tab (L.map fun q=>(q.sp,q.par,c q))) (L.map (bg.g4 g))/\(∀j,j∉cz L->ba (.int j) (pA tab (L.map fun q=>(q.sp,q.par,c q)))=ba (.int j) tab)/\(pA tab (L.map fun q=>(q.sp,q.par,c q))).map (·.1)=tab.map (·.1)
 |[],tab,_,_,_=>⟨fun q (aA:q∈[])=>(List.not_mem_nil aA).elim,fun _ _=>rfl,rfl⟩
 |q::L,tab,aE,aR,aG=>by
  refine cl (List.nodup_cons.mp aE) ?_;intro ho js
  have aA:=aR q List.mem_cons_self
  have e:=fun j=>QT (x:=q.par) (c:=c q) (j:=j) (s:=q.sp) aA
  have qG:hk (ji tab q.sp q.par (c q)) L:=fun r aP=>by
   (refine B ((e r.k).1) ?_;refine B (if_neg (fun z=>ho (by have:r.k=q.k:=z;rw [<-this];exact List.mem_map_of_mem aP))) ?_)
   exact aR r (List.mem_cons_of_mem _ aP)
  refine ef (EU (c:=c) (g:=g) js qG fun r aP=>aG r (List.mem_cons_of_mem _ aP)) ?_;intro bH b7 c7
  refine⟨fun r aP=> ?_,fun j bF=> ?_,c7.trans (e 0).2⟩
  ·rcases List.mem_cons.mp aP with rfl|aP
   ·refine(b7 q.k ho).trans ?_
    refine((e q.k).1.trans (if_pos rfl)).trans ?_
    show some (H.aF [.int 0,.V (hR q.hd (hT q.sp q.par (c q)))])=_
    (refine B (aG q List.mem_cons_self) ?_;rfl)
   ·exact bH r aP
  ·refine cl (not_or.mp (fun z=>bF (List.mem_cons.mpr z))) ?_;intro M O
   exact(b7 j O).trans ((e j).1.trans (if_neg M))
end Mine
end
section
open PySem
namespace Mine
noncomputable def ci (L:List bg):List (Int×da):=L.filterMap fun q=>match q.c with
 |.inl p=>some (q.k,p)
 |.inr _=>none
theorem Jc {g:Int->Int} {L:List bg}:ci (L.map (bg.g4 g))=ci L:=by unfold ci;refine B List.filterMap_map ?_;rfl
theorem wo {g:Int->Int} {L:List bg}:cz (L.map (bg.g4 g))=cz L:=by unfold cz;refine B List.map_map ?_;rfl
theorem Ek {g:Int->Int} {k:Int}:∀{L:List bg},under (L.map (bg.g4 g)) k=under L k
 |[]=>rfl
 |q::L=>by
  show _+under (L.map (bg.g4 g)) k=_+under L k
  refine B Ek ?_;rfl
theorem pC:(∀x:af,∀ab,(x.bh.map fun e=>(e.1,e.2.1))=ci (x.ai ab))/\∀l:List af,∀ab,((af.fV l).map fun e=>(e.1,e.2.1))=ci (af.bD ab l):=by
 apply af.all
 ·intros;rfl
 ·intro k par cnt kids ih ab
  exact ih (ab++[k])
 ·intros;rfl
 ·intro x r M O ab
  (rw [af.fV,af.bD];refine B List.map_append ?_;refine B (M ab) ?_;refine B (O ab) ?_);unfold ci;(refine B List.filterMap_append ?_;rfl)
noncomputable def cA (L:List bg):Prop:=∀q∈L,q.par=q.ab.getLast? /\(q.pg=false->q.cnt=some (under L q.k:Int))
theorem D7:∀{N:Nat} {l:List Int},l.Nodup->(∀x∈l,1<=x/\x<=N)->l.length<=N
 |0,[],_,_=>Nat.le_refl _
 |0,x::l,_,h=>by have:=h x List.mem_cons_self;exact VA this
 |N+1,l,aE,h=>by
  have M:=D7 (N:=N) (aE.erase ((N:Int)+1)) fun x ae=>by
   have O:=h x (List.mem_of_mem_erase ae)
   have Y:x≠(N:Int)+1:=fun e=>by
    subst e
    exact(List.Nodup.mem_erase_iff aE).mp ae|>.1 rfl
   exact K5 O Y
  have:=List.length_erase (a:=(N:Int)+1) (l:=l)
  replace M:=this▸M
  split at M<;>omega
theorem fZ.at {tab:cD} {N:Nat} {j:Int} (h:fZ tab N) (bi:(ba (.int j) tab).isSome=true):1<=j/\j<=N:=by
 have:al.int j∈tab.map (·.1):=Classical.byContradiction fun q=>by replace bi:=(y3 q)▸bi;cases bi
 (replace this:=h▸this;rw [List.mem_map] at this)
 refine bb this ?_;clear this;intro i M O
 have M:=List.mem_range.mp M
 injection O with O
 exact JL M O
structure ed (tab bJ:cD) (N:Nat) (a6:Int) (x:af):Prop where
 fS:fZ tab N
 fu:N<300
 ins:hk tab (x.ai [])
 ex:(cz (x.ai [])).Nodup
 node:∃k par cnt kids,x=.node k par cnt kids
 bJ:bJ=[(.str "Root",au a6)]
 jE:ba (.int a6) tab=some (.aF [.int 0,.V [(.str "Type",gz "Catalog"),(.str "Pages",au x.num)]])
 out:a6∉cz (x.ai [])
section
variable{tab bJ:cD} {N:Nat} {a6:Int} {x:af}
theorem ed.at (h:ed tab bJ N a6 x) {j:Int} (bF:j∈cz (x.ai [])):1<=j/\j<=N:=by
 refine bb (List.mem_map.mp bF) ?_;intro q aA u;subst u
 exact h.fS.at (by refine B (h.ins q aA) ?_;rfl)
theorem ed.len (h:ed tab bJ N a6 x):(x.ai []).length<=N:=by
 have:=D7 h.ex fun j bF=>h.at bF
 unfold cz at this
 rwa [List.length_map] at this
theorem ed.i6 (h:ed tab bJ N a6 x):kO tab bJ x.h8:=by
 refine⟨⟨a6,_,by refine B h.bJ ?_;rfl,h.jE,by refine B E2 ?_;rfl⟩,?_,SC.1 x [] h.ins,?_,?_⟩
 ·refine jn h.node ?_;intro k par cnt kids u;subst u
  exact⟨_,_,_,rfl⟩
 ·refine B (Cb.1 x []) ?_;exact h.ex
 ·refine B (Cb.1 x []) ?_
  have M:=h.len
  have O:=h.fu
  unfold cz
  refine B (List.length_map _) ?_;exact RU M O
theorem Df {q:bg} (h:q.par=q.ab.getLast? \/(q.par=none/\q.cnt=none)) (aq:q.ab.length<500) (bx:q.hd.length<500):m6 q.sp q.par:=by
 obtain⟨k,par,cnt,e,ab⟩:=q
 refine⟨?_,fun z=> ?_,fun z=> ?_,bx,aq⟩
 ·cases e with
  |inl p=>obtain⟨n,w,kq⟩:=p;cases kq<;>cases par<;>rfl
  |inr l=>cases par<;>cases cnt<;>rfl
 ·have z:ab=[]:=z
  subst z
  rcases h with h|h
  ·exact h
  ·exact h.1
 ·cases e with
  |inl p=>cases z
  |inr l=>
   cases cnt with
   |none=>exact .inl (by cases par<;>rfl)
   |some d=>exact .inr ⟨d,by cases par<;>rfl⟩
theorem sW {q:bg}:q.hd.length<10:=by
 obtain⟨k,par,cnt,e,ab⟩:=q
 cases e with
 |inl p=>obtain⟨n,w,kq⟩:=p;cases kq<;>cases par<;>exact Nat.le_of_ble_eq_true rfl
 |inr l=>cases par<;>cases cnt<;>exact Nat.le_of_ble_eq_true rfl
theorem CG (h:ed tab bJ N a6 x) (d9:yf (x.ai [])):∃c5 df,(∀{b m t u} {per:List H},per[t]? =some (.V tab)->per[u]? =some (.V bJ)->aH b (m+6) "settle" [bB t u] per=some (.ret (.U .none),per.set t (.V c5)))/\
  ed c5 bJ N a6 df/\cA (df.ai [])/\ci (df.ai [])=ci (x.ai [])/\cz (df.ai [])=cz (x.ai []):=by
 have bC:=h.len
 have fp:=h.fu
 have pm:(x.g4 (fun k=>(under (x.ai []) k:Int)) none).ai []=_:=Tg.1 x []
 have HQ:∀q∈x.ai [],∀c,(q.pg=false->c=(under (x.ai []) q.k:Int))->hR q.hd (hT q.sp q.par c)=(q.g4 fun k=>(under (x.ai []) k:Int)).hd:=fun q aA c hc=>VL (d9 q aA) (L5.1 x [] q aA) hc
 refine ef (EU (c:=fun q=>(if q.pg then 1 else 0)+(under (x.ai []) q.k:Int)) (g:=fun k=>(under (x.ai []) k:Int)) h.ex h.ins fun q aA=>HQ q aA _ fun z=>by refine B z ?_;simp) ?_;intro d5 dX fF
 refine⟨_,x.g4 (fun k=>(under (x.ai []) k:Int)) none,fun{b m t u per} aG b2=> ?_,⟨?_,fp,by refine B pm ?_;exact d5,by(refine B pm ?_;refine B wo ?_);exact h.ex,?_,h.bJ,?_,by(refine B pm ?_;refine B wo ?_);exact h.out⟩,?_,by(refine B pm ?_;refine B Jc ?_;rfl),by(refine B pm ?_;refine B wo ?_;rfl)⟩
 ·refine Ln aG b2 h.i6 ?_ ?_ ?_ ?_ ?_
  ·(refine B (t6.1 x []) ?_;refine B List.map_map ?_);rfl
  ·refine B (List.length_map _) ?_;exact Cs bC fp
  ·intro y aQ k ag
   rw [t6.1 x []] at aQ|-
   refine bb (List.mem_map.mp aQ) ?_;intro q aA u;subst u
   refine et (ua.1 x [] q aA) ?_;intro dR ak _ ar
   have ag:k∈q.ab:=ag
   (replace ag:=ak▸ag;replace ag:=(List.nil_append _)▸ag)
   refine bb (List.mem_map.mp (ar k ag)) ?_;intro cL mM u;subst u
   exact⟨_,tF h.ex cL mM⟩
  ·intro y aQ
   refine bb (List.mem_map.mp aQ) ?_;intro q aA u;subst u
   refine et (ua.1 x [] q aA) ?_;intro dR ak bP _
   have aq:=sW (q:=q)
   refine⟨Df (d9 q aA) (by(refine B ak ?_;refine B (List.nil_append _) ?_);exact Dv bC fp bP) (by exact CB aq),?_⟩
   refine B (t6.1 x []) ?_
   exact w4 (tF h.ex q aA)
  ·(refine B (List.length_map _) ?_;refine B h.fS.len ?_);unfold a4;exact Xd bC fp
 ·unfold fZ;refine B fF ?_;exact h.fS
 ·refine jn h.node ?_;intro k par cnt kids u;subst u
  exact⟨_,_,_,_,rfl⟩
 ·(refine B (dX a6 h.out) ?_;refine B EA ?_);exact h.jE
 ·refine B pm ?_
  intro q aA
  refine bb (List.mem_map.mp aA) ?_;intro cL mM u;subst u
  refine⟨rfl,fun z=> ?_⟩
  have z:cL.pg=false:=z
  refine B Ek ?_
  show(if cL.pg then none else some _)=_
  refine B z ?_;rfl
end
end Mine
end
section
open PySem
namespace Mine
theorem i9 {ab:List Int} {A ap:List af}:af.bD ab (A++ap)=af.bD ab A++af.bD ab ap:=by(refine B vF ?_;refine B vF ?_;refine B vF ?_;refine B List.flatMap_append ?_;rfl)
theorem J2 {x:af} {ab:List Int}:∃l,cz (x.ai ab)=x.num::l:=by cases x<;>exact⟨_,rfl⟩
theorem AJ {ab:List Int} (l:List af):(l.map af.num).Sublist (cz (af.bD ab l)):=by
 induction l with
 |nil=>exact .slnil
 |cons x r ih=>
  refine bT (J2 (x:=x) (ab:=ab)) ?_;intro l e
  (rw [af.bD];refine B p5 ?_;refine B e ?_)
  exact(ih.trans (List.sublist_append_right _ _)).cons_cons _
theorem yE:(∀x:af,∀ab,∀q∈x.ai ab,∀ks,q.c=.inr ks->ks.Sublist (cz (x.ai ab)))/\∀l:List af,∀ab,∀q∈af.bD ab l,∀ks,q.c=.inr ks->ks.Sublist (cz (af.bD ab l)):=by
 apply af.all
 ·intro k p par ab q aA ks h
  rw [af.ai,List.mem_singleton] at aA
  subst aA;cases h
 ·intro k par cnt kids ih ab q aA ks h
  rw [af.ai] at aA|-
  rcases List.mem_cons.mp aA with rfl|aA
  ·cases h
   exact(AJ kids).cons _
  ·exact(ih _ q aA ks h).cons _
 ·intro ab q aA;cases aA
 ·intro x r M O ab q aA ks h
  rw [af.bD] at aA|-
  refine B p5 ?_
  rcases List.mem_append.mp aA with aA|aA
  ·exact(M _ q aA ks h).trans (List.sublist_append_left _ _)
  ·exact(O _ q aA ks h).trans (List.sublist_append_right _ _)
theorem TA {r:Int} (l:List Int):∀{j:Nat},l.Nodup->l[j]? =some r->oP r l=some j:=by
 induction l with
 |nil=>intro j _ h;cases h
 |cons k l ih=>
  intro j aE h
  refine cl (List.nodup_cons.mp aE) ?_;intro M O
  unfold oP
  cases j with
  |zero=>(refine B (if_pos (by injection h)) ?_;rfl)
  |succ j=>
   have h:l[j]? =some r:=h
   (refine B (if_neg (fun e=>M (by rw [e];exact List.mem_of_getElem? h))) ?_;refine B (ih O h) ?_);rfl
theorem jK {A ap:List bg}:ci (A++ap)=ci A++ci ap:=List.filterMap_append
theorem v1 {A:List bg}:(A.filter bg.pg).length=(ci A).length:=by
 induction A with
 |nil=>rfl
 |cons q A ih=>
  obtain⟨k,par,cnt,e,ab⟩:=q
  cases e with
  |inl p=>exact congrArg (· +1) ih
  |inr l=>exact ih
theorem qT {l:List af} {ab:List Int}:(ci (af.bD ab l)).length=(af.fV l).length:=by(refine bu (pC.2 l ab) ?_;refine B (List.length_map _) ?_;rfl)
theorem V5 (l:List af):∀{i:Nat},i<(af.fV l).length->∃pre z post nb,l=pre++z::post/\i=(af.fV pre).length+nb/\nb<z.bh.length:=by
 induction l with
 |nil=>intro i h;cases h
 |cons x r ih=>
  intro i h
  (rw [af.fV] at h;replace h:=List.length_append▸h)
  by_cases ae:i<x.bh.length
  ·exact⟨[],x,r,i,rfl,(Nat.zero_add _).symm,ae⟩
  ·refine sH (ih (i:=i-x.bh.length) (by exact NQ h ae)) ?_;intro pre z post nb M O Y
   exact⟨x::pre,z,post,nb,by refine B M ?_;rfl,by(rw [af.fV];refine B List.length_append ?_);exact RN ae O,Y⟩
noncomputable def nT (L A ap C:List bg) (nq:bg) (ks:List Int) (j:Nat) (n:Int) (ab:List Int):Prop:=
 L=A++nq::(ap++C)/\∀nk p,∃df,df.num=n/\(∃k par cnt kids,df=af.node k par cnt kids)/\df.ai ab=A++{nq with c:=.inr (ks.take j++nk::ks.drop j)}::(ap++⟨nk,none,none,.inl p,nq.ab++[nq.k]⟩::C)
theorem yb {k:Int} {par cnt:Option Int} {pre post:List af} {ab:List Int}:nT (af.ai ab (.node k par cnt (pre++post))) [] (af.bD (ab++[k]) pre) (af.bD (ab++[k]) post) ⟨k,par,cnt,.inr ((pre++post).map af.num),ab⟩ ((pre++post).map af.num) pre.length k ab:=by
 refine⟨by(rw [af.ai];refine B i9 ?_);rfl,fun nk p=>⟨.node k par cnt (pre++.leaf nk p none::post),rfl,⟨_,_,_,_,rfl⟩,?_⟩⟩
 (rw [af.ai];refine B i9 ?_;refine bu List.map_take ?_;refine bu List.map_drop ?_;refine B List.take_left ?_;refine B List.drop_left ?_;refine B List.map_append ?_);rfl
theorem nT.up {z:af} {k:Int} {par cnt:Option Int} {pre post:List af} {ab:List Int} {A ap C:List bg} {nq:bg} {ks:List Int} {j:Nat} (h:nT (z.ai (ab++[k])) A ap C nq ks j z.num (ab++[k])):
  nT (af.ai ab (.node k par cnt (pre++z::post))) (⟨k,par,cnt,.inr ((pre++z::post).map af.num),ab⟩::(af.bD (ab++[k]) pre++A)) ap (C++af.bD (ab++[k]) post) nq ks j k ab:=by
 refine⟨?_,fun nk p=> ?_⟩
 ·(rw [af.ai];refine B i9 ?_;rw [af.bD];refine B h.1 ?_);simp
 ·refine et (h.2 nk p) ?_;intro df ho js g8
  refine⟨.node k par cnt (pre++df::post),rfl,⟨_,_,_,_,rfl⟩,?_⟩
  (rw [af.ai];refine B i9 ?_;rw [af.bD];refine B g8 ?_;refine B List.map_append ?_;refine B List.map_append ?_;refine B List.map_cons ?_;refine B List.map_cons ?_;refine B ho ?_);simp
theorem Ad {pre:List af} {ab:List Int} {A ap:List bg} {h:bg} (an:h.pg=false):(ci (h::(af.bD ab pre++A)++ap)).length=(af.fV pre).length+(ci (A++ap)).length:=by
 have:ci (h::(af.bD ab pre++A)++ap)=ci (af.bD ab pre++(A++ap)):=by
  obtain⟨_,_,_,e,_⟩:=h
  cases e with
  |inl p=>cases an
  |inr l=>(refine B List.cons_append ?_;refine B (List.append_assoc _ _ _) ?_);rfl
 (refine B this ?_;refine B jK ?_;refine B List.length_append ?_;refine B qT ?_;rfl)
structure oV (x:af) (ab:List Int) (i:Nat) (A:List bg) (nq:bg) (ks:List Int) (j:Nat) (q:bg):Prop where
 c:nq.c=.inr ks
 k:ks[j]? =some q.k
 up:q.ab=nq.ab++[nq.k]
 pg:q.pg=true
 gy:((x.ai ab).filter bg.pg)[i]? =some q
 cZ:∃ap C,(ci (A++ap)).length=i/\nT (x.ai ab) A ap C nq ks j x.num ab
 aR:∃ap C,(ci (A++ap)).length=i+1/\nT (x.ai ab) A ap C nq ks (j+1) x.num ab
noncomputable def S4 (x:af):Prop:=∃k par cnt kids,x=.node k par cnt kids
noncomputable def Bq (x:af):Prop:=∀ab i,i<x.bh.length->S4 x->∃A nq ks j q,oV x ab i A nq ks j q
theorem FX {k:Int} {par cnt:Option Int} {pre post:List af} {z:af} {ab:List Int} {i:Nat}:((af.ai ab (.node k par cnt (pre++z::post))).filter bg.pg)[(af.fV pre).length+i]? =((z.ai (ab++[k])++af.bD (ab++[k]) post).filter bg.pg)[i]? :=by
 show(List.filter bg.pg (af.bD (ab++[k]) (pre++z::post)))[_]? =_
 (refine B i9 ?_;refine B (List.filter_append _ _) ?_;refine B (List.getElem?_append_right (by rw [v1,qT];exact Nat.le_add_right _ _)) ?_;refine B v1 ?_;refine B qT ?_;refine B (Nat.add_sub_cancel_left _ _) ?_);rfl
theorem oV.No {k:Int} {par cnt:Option Int} {pre post:List af} {z:af} {ab:List Int} {i:Nat} {A:List bg} {nq q:bg} {ks:List Int} {j:Nat} (h:oV z (ab++[k]) i A nq ks j q):
  oV (.node k par cnt (pre++z::post)) ab ((af.fV pre).length+i) (⟨k,par,cnt,.inr ((pre++z::post).map af.num),ab⟩::(af.bD (ab++[k]) pre++A)) nq ks j q where
 c:=h.c
 k:=h.k
 up:=h.up
 pg:=h.pg
 gy:=by(refine B FX ?_;refine B (List.filter_append _ _) ?_;refine B (List.getElem?_append_left (List.getElem?_eq_some_iff.mp h.gy).1) ?_);exact h.gy
 cZ:=hw h.cZ fun ap C e f=>⟨ap,_,by(refine B (Ad rfl) ?_;refine B e ?_;rfl),f.up⟩
 aR:=hw h.aR fun ap C e f=>⟨ap,_,by(refine B (Ad rfl) ?_;refine B e ?_);rfl,f.up⟩
theorem oV.leaf {k mA:Int} {par cnt nc:Option Int} {lU:da} {pre post:List af} {ab:List Int}:oV (.node k par cnt (pre++.leaf mA lU nc::post)) ab ((af.fV pre).length+0) [] ⟨k,par,cnt,.inr ((pre++.leaf mA lU nc::post).map af.num),ab⟩ ((pre++.leaf mA lU nc::post).map af.num) pre.length ⟨mA,nc,none,.inl lU,ab++[k]⟩ where
 c:=rfl
 k:=by(refine B List.map_append ?_;refine B (List.getElem?_append_right (by simp)) ?_);simp;rfl
 up:=rfl
 pg:=rfl
 gy:=by refine B FX ?_;rfl
 cZ:=⟨_,_,qT,yb⟩
 aR:=by
  have e:pre++af.leaf mA lU nc::post=(pre++[.leaf mA lU nc])++post:=by simp
  have:=yb (k:=k) (par:=par) (cnt:=cnt) (pre:=pre++[.leaf mA lU nc]) (post:=post) (ab:=ab)
  (replace this:=(Eq.symm e)▸this;replace this:=List.length_append▸this)
  refine⟨_,_,?_,this⟩
  (refine B (List.nil_append _) ?_;refine B i9 ?_;refine B jK ?_;refine B List.length_append ?_;refine B qT ?_);rfl
theorem QN:(∀x:af,Bq x)/\∀l:List af,∀x∈l,Bq x:=by
 apply af.all
 ·intro k p par ab i _ h
  refine jn h ?_;intro _ _ _ _ h;cases h
 ·intro k par cnt kids ih ab i aR _
  refine sH (V5 kids aR) ?_;intro pre z post nb u;subst u;intro u;subst u;intro Y
  cases z with
  |node cY zd Pr Y8=>exact sJ (ih _ (List.mem_append_right _ List.mem_cons_self) (ab++[k]) nb Y ⟨_,_,_,_,rfl⟩) fun A nq ks j q h=>⟨_,_,_,_,_,h.No⟩
  |leaf mA lU nc=>
   refine B (show nb=0 from Nat.lt_one_iff.mp Y) ?_
   exact⟨_,_,_,_,_,oV.leaf⟩
 ·intro x ae;cases ae
 ·intro x r M O y aQ
  rcases List.mem_cons.mp aQ with rfl|aQ
  ·exact M
  ·exact O y aQ
end Mine
end
section
open PySem
namespace Mine
section
variable{tab bJ:cD} {N:Nat} {a6:Int} {x:af}
theorem we:dQ [] x.h8=(x.ai []).map fun q=>q.sp.v:=by
 have:=x8 (x:=x.h8) (ab:=[])
 (replace this:=(t6.1 x [])▸this;replace this:=List.map_map▸this)
 exact this
theorem tb:eo x.h8=((x.ai []).filter bg.pg).map fun q=>q.sp.v:=by
 unfold eo
 (refine B we ?_;refine B List.filter_map ?_);rfl
theorem ze:(eo x.h8).length=(ci (x.ai [])).length:=by(refine B tb ?_;refine B (List.length_map _) ?_;refine B v1 ?_;rfl)
structure Nh (tab bJ:cD) (x:af) (a:Nat) (A ap C:List bg) (nq:bg) (ks:List Int) (j:Nat):Prop where
 c:nq.c=.inr ks
 le:j<=ks.length
 len:(ci (A++ap)).length=a
 ins:nT (x.ai []) A ap C nq ks j x.num []
 call:∀{b m t u} {per:List H},per[t]? =some (.V tab)->per[u]? =some (.V bJ)->aH b (m+6) "place_of" [bB t u,.int a] per=some (.ret (.U (.aF [nq.sp.v,.int j])),per)
theorem Ee (h:ed tab bJ N a6 x) {a:Nat} (bz:a<=(ci (x.ai [])).length):∃A ap C nq ks j,Nh tab bJ x a A ap C nq ks j:=by
 have bC:=h.len
 have fp:=h.fu
 by_cases aL:(ci (x.ai [])).length=0
 ·have TX:a=0:=by exact X8 bz aL
  subst TX
  refine jn h.node ?_;intro k par cnt kids u;subst u
  have ag:kids.length<=(af.bD ([]++[k]) kids).length:=by
   have:=(AJ (ab:=[]++[k]) kids).length_le
   unfold cz at this
   rwa [List.length_map,List.length_map] at this
  have aR:=yb (k:=k) (par:=par) (cnt:=cnt) (pre:=kids) (post:=[]) (ab:=[])
  replace aR:=(List.append_nil _)▸aR
  refine⟨_,_,_,_,_,_,rfl,by simp,aL,aR,fun{b m t u per} aG b2=> ?_⟩
  have:=S7 (b:=b) (m:=m) aG b2 h.i6 (List.eq_nil_of_length_eq_zero (by refine bu aL ?_;exact ze (x:=.node k par cnt kids))) (by(refine B vx ?_;refine B (List.length_map _) ?_);(rw [af.ai] at bC;replace bC:=List.length_cons▸bC);exact T7 fp ag bC)
  (replace this:=vx▸this;replace this:=(List.length_map _)▸this)
  exact this
 ·obtain⟨i,s,aR,hs⟩:∃i s,i+s=a/\i<(ci (x.ai [])).length/\((s=0/\a<(ci (x.ai [])).length)\/(s=1/\a=(ci (x.ai [])).length)):=by
   by_cases e:a=(ci (x.ai [])).length
   ·exact⟨a-1,1,by exact M2 aL e,by exact VO aL e,.inr ⟨rfl,e⟩⟩
   ·exact⟨a,0,rfl,by exact AR bz e,.inl ⟨rfl,by exact AR bz e⟩⟩
  have aq:i<x.bh.length:=by(refine bu (List.length_map (f:=fun e:Int×da×Option Int=>(e.1,e.2.1))) ?_;refine B (pC.1 x []) ?_);exact hs.1
  refine sJ (QN.1 x [] i aq h.node) ?_;intro A nq ks j q G
  have bH:=G.c;have b7:=G.k;have c7:=G.up;have fl:=G.pg;have hE:=G.gy
  refine hw G.cZ ?_;intro lJ nW _ dO
  have dO:=dO.1
  have qv:nq∈x.ai []:=by refine B dO ?_;simp
  have ke:=yE.1 x [] nq qv ks bH
  have tR:=ke.length_le
  unfold cz at tR
  replace tR:=(List.length_map _)▸tR
  have bF:=(List.getElem?_eq_some_iff.mp b7).1
  have key:∀{b m t u} {per:List H},per[t]? =some (.V tab)->per[u]? =some (.V bJ)->aH b (m+6) "place_of" [bB t u,.int a] per=some (.ret (.U (.aF [nq.sp.v,.int ((j:Int)+(s:Nat))])),per):=fun{b m t u per} aG b2=>by
   have an:=ze (x:=x)
   have a9:nq.sp.v=bS nq.k nq.hd (nq.ab.map au) (er nq.hd) false:=by
    show bS _ _ _ _ nq.pg=_
    unfold bg.pg;refine B bH ?_;rfl
   have:=WG (b:=b) (m:=m) (t:=t) (u:=u) (per:=per) (x:=x.h8) (a:=a) (r:=q.k) (nk:=nq.k) (i:=i) (j:=j) (rhd:=q.hd) (rinh:=er q.hd) (nhd:=nq.hd) (ninh:=er nq.hd) (ab:=nq.ab.map au) (nab:=nq.ab.map au)
    (rest:=((lJ++nW).map fun q=>q.sp.v).filter fun v=>decide (tt v=nq.k)) (ks:=ks) aG b2 h.i6 (by exact xa) (by refine B an ?_;exact Og hs) ?_ ?_ ?_ ?_ ?_ (by exact A4 bC fp tR) (TA ks (ke.nodup h.ex) b7)
   ·(refine B a9 ?_;refine B this ?_;refine B an ?_)
    congr 9
    rcases hs.2 with⟨rfl,e⟩|⟨rfl,e⟩
    ·refine B (if_neg (by exact MT hs)) ?_;rfl
    ·refine B (if_pos (by exact Q7 hs)) ?_;rfl
   ·(refine B tb ?_;refine B List.getElem?_map ?_;refine B hE ?_)
    show some (bS q.k q.hd (q.ab.map au) (er q.hd) q.pg)=_
    (refine B c7 ?_;refine B fl ?_;refine B List.map_append ?_);rfl
   ·refine B an ?_
    rcases hs.2 with⟨rfl,e⟩|⟨rfl,e⟩
    ·refine B (if_neg (by exact Ue hs)) ?_;exact WL aR
    ·refine B (if_pos (by exact RY hs)) ?_;exact U8 aR hs
   ·have aE:=h.ex
    (replace aE:=dO▸aE;replace aE:=p5▸aE)
    refine ef (List.nodup_append.mp aE) ?_;intro _ _ g8
    (refine B we ?_;refine B dO ?_;refine B List.map_append ?_;refine B (List.filter_append _ _) ?_;rw [List.filter_eq_nil_iff.mpr];refine B (List.nil_append _) ?_;refine B List.map_cons ?_;refine B (List.filter_cons_of_pos (by exact decide_eq_true rfl)) ?_;refine B a9 ?_;rfl)
    intro v ay
    refine bb (List.mem_map.mp ay) ?_;intro cL mM u;subst u
    have:=g8 _ (List.mem_map_of_mem (f:=bg.k) mM) nq.k (List.mem_cons_self)
    exact fun z=>this (of_decide_eq_true z)
   ·unfold bg.hd;refine B bH ?_;rfl
   ·intro r aP
    refine bb (List.mem_map.mp (ke.subset aP)) ?_;intro cL mM u;subst u
    exact⟨_,h.ins cL mM,rfl⟩
  rcases hs.2 with⟨rfl,e⟩|⟨rfl,e⟩
  ·refine hw G.cZ ?_;intro ap C ea fH
   exact⟨A,ap,C,nq,ks,j,bH,by exact Eu bF,by exact R0 aR ea,fH,key⟩
  ·refine hw G.aR ?_;intro ap C ea fH
   exact⟨A,ap,C,nq,ks,j+1,bH,by exact zk bF,by exact Wb aR ea,fH,key⟩
end
end Mine
end
section
open PySem
namespace Mine
theorem A9 {b:Bool} {m:Nat} {per:List H} {p:da}:aH b (m+4) "copied" [.V p.d] per=some (.ret (.own (.V p.d)),per):=by obtain⟨n,w,r⟩:=p;cases r<;>kernel_rfl
noncomputable def j7 (N:Nat) (a6:Int) (x:af):Prop:=∀j:Int,1<=j->j<=N->j=a6\/j∈cz (x.ai [])
section
variable{tab bJ:cD} {N:Nat} {a6:Int} {x:af}
theorem tx {t u:Nat} {v:H} {per:List H} (h:t≠u):(per.set t v)[u]? =per[u]? :=List.getElem?_set_ne h
theorem ed.new (h:ed tab bJ N a6 x) (dm:N<250) {v:H}:ed (cU (.int ((N:Int)+1)) v tab) bJ (N+1) a6 x:=by
 have ag:=h.fS.add (v:=v)
 have bi:∀{j:Int},1<=j/\j<=N->ba (.int j) (cU (.int ((N:Int)+1)) v tab)=ba (.int j) tab:=fun{j} bF=>by
  (refine B hg ?_;refine B (if_neg (fun e=>by injection e with e;exact Gs bF e)) ?_;rfl)
 refine⟨by refine B ag.1 ?_;exact ag.2,by exact wL dm,fun q aA=> ?_,h.ex,h.node,h.bJ,?_,h.out⟩
 ·refine B (bi (h.at (List.mem_map_of_mem aA))) ?_;exact h.ins q aA
 ·refine B (bi (h.fS.at (by rw [h.jE];rfl))) ?_;exact h.jE
theorem Wy {q:bg} {ks FT:List Int} (h:q.c=.inr ks):hR q.hd [(.str "Kids",.am (FT.map au))]=dW q.par q.cnt (.inr FT):=by
 unfold bg.hd;refine B h ?_;rfl
theorem zG {q:bg} {ks:List Int} {L:List bg} (h:q.c=.inr ks):ci (q::L)=ci L:=by
 unfold ci;(refine B List.filterMap_cons ?_;refine B h ?_;rfl)
theorem C9 {L A ap C:List bg} {nq:bg} (g:L=A++nq::(ap++C)) (aE:(cz L).Nodup) {q:bg} (aA:q∈A\/q∈ap\/q∈C):q∈L/\q.k≠nq.k:=by
 subst g
 replace aE:=p5▸aE
 refine ef (List.nodup_append.mp aE) ?_;intro _ x3 wS
 have tN:=(List.nodup_cons.mp x3).1
 rcases aA with h|h|h
 ·exact⟨List.mem_append_left _ h,wS _ (List.mem_map_of_mem (f:=bg.k) h) _ List.mem_cons_self⟩
 ·exact⟨List.mem_append_right _ (List.mem_cons_of_mem _ (List.mem_append_left _ h)),fun e=>tN (by refine bu e ?_;exact List.mem_map_of_mem (List.mem_append_left _ h))⟩
 ·exact⟨List.mem_append_right _ (List.mem_cons_of_mem _ (List.mem_append_right _ h)),fun e=>tN (by refine bu e ?_;exact List.mem_map_of_mem (List.mem_append_right _ h))⟩
theorem F6 {A ap C:List bg} {nq pn q:bg} (h:q∈A++nq::(ap++pn::C)):(q∈A\/q∈ap\/q∈C)\/q=nq\/q=pn:=by
 rcases List.mem_append.mp h with h|h
 ·exact .inl (.inl h)
 ·rcases List.mem_cons.mp h with h|h
  ·exact .inr (.inl h)
  ·rcases List.mem_append.mp h with h|h
   ·exact .inl (.inr (.inl h))
   ·rcases List.mem_cons.mp h with h|h
    ·exact .inr (.inr h)
    ·exact .inl (.inr (.inr h))
theorem Gn {A ap C:List bg} {nq nt pn:bg} (e:nt.k=nq.k):(cz (A++nt::(ap++pn::C))).Perm (pn.k::cz (A++nq::(ap++C))):=by
 have:=List.perm_middle (a:=pn.k) (l₁:=A.map bg.k++nq.k::ap.map bg.k) (l₂:=C.map bg.k)
 unfold cz;simpa [e] using this
theorem ER {A ap C:List bg} {nq nt pn:bg} (e:nt.k=nq.k) {j:Int}:j∈cz (A++nt::(ap++pn::C))↔j=pn.k\/j∈cz (A++nq::(ap++C)):=(Gn e).mem_iff.trans List.mem_cons
theorem Pb {A ap C:List bg} {nq nt pn:bg} (e:nt.k=nq.k) (aE:(cz (A++nq::(ap++C))).Nodup) (an:pn.k∉cz (A++nq::(ap++C))):(cz (A++nt::(ap++pn::C))).Nodup:=(Gn e).nodup_iff.mpr (List.nodup_cons.mpr ⟨an,aE⟩)
noncomputable def yS (tab:cD) (N:Nat) (p:da):cD:=cU (.int ((N:Int)+1)) (.aF [.int 0,.V (dW none none (.inl p))]) tab
noncomputable def vB (q:bg) (ks:List Int) (tab:cD):cD:=cU (.int q.k) (.aF [.int 0,.V (dW q.par q.cnt (.inr ks))]) tab
theorem ed.jl {df:af} {A ap C:List bg} {nq:bg} {ks:List Int} {p:da} {ab:List Int} (h:ed tab bJ N a6 x) (dm:N<250) (g:x.ai []=A++nq::(ap++C)) (ho:df.num=x.num) (js:∃k par cnt kids,df=af.node k par cnt kids)
  (g8:df.ai []=A++{nq with c:=.inr ks}::(ap++⟨(N:Int)+1,none,none,.inl p,ab⟩::C)):ed (vB nq ks (yS tab N p)) bJ (N+1) a6 df:=by
 have M:=h.new dm (v:=.aF [.int 0,.V (dW none none (.inl p))])
 have qv:nq∈x.ai []:=by refine B g ?_;exact List.mem_append_right _ List.mem_cons_self
 have gI:∀{j},j∈cz (x.ai [])->¬j=(N:Int)+1:=fun z e=>by have:=(h.at z).2;exact(UF e this).elim
 have ag:nq.k∈cz (x.ai []):=List.mem_map_of_mem qv
 refine⟨?_,by exact wL dm,fun q aA=> ?_,?_,js,h.bJ,?_,?_⟩
 ·unfold fZ vB yS;rw [wF]
  ·exact M.fS
  ·refine B (M.ins nq qv) ?_;rfl
 ·replace aA:=g8▸aA
  unfold vB
  refine B hg ?_
  rcases F6 aA with aA|rfl|rfl
  ·have aY:=C9 g h.ex aA
   exact(if_neg fun e=>aY.2 (al.int.inj e)).trans (M.ins q aY.1)
  ·exact if_pos rfl
  ·refine(if_neg fun e=>gI ag (al.int.inj e).symm).trans ?_
   unfold yS;refine B hg ?_;exact if_pos rfl
 ·refine B g8 ?_;exact Pb (nq:=nq) (by rfl) (g▸h.ex) fun z=>gI (g▸z) rfl
 ·unfold vB;(refine B hg ?_;refine B ho ?_);exact(if_neg fun e=>h.out (by injection e with e;refine B e ?_;exact ag)).trans M.jE
 ·refine B g8 ?_;intro z
  rcases(ER (nq:=nq) (by rfl)).mp z with z|z
  ·have:=h.fS.at (j:=a6) (by refine B h.jE ?_;rfl)
   have z:a6=(N:Int)+1:=z
   exact(Gs this z).elim
  ·exact h.out (g▸z)
theorem I3 {df:af} {A ap C:List bg} {nq:bg} {ks:List Int} {p:da} {ab:List Int} {n:Int} (aE:(cz (x.ai [])).Nodup) (hs:cA (x.ai [])) (g:x.ai []=A++nq::(ap++C)) (g8:df.ai []=A++{nq with c:=.inr ks}::(ap++⟨n,none,none,.inl p,ab⟩::C)):yf (df.ai []):=fun q aA=>by
 replace aA:=g8▸aA
 rcases F6 aA with aA|rfl|rfl
 ·exact .inl (hs q (C9 g aE aA).1).1
 ·exact .inl (hs nq (by refine B g ?_;exact List.mem_append_right _ List.mem_cons_self)).1
 ·exact .inr ⟨rfl,rfl⟩
theorem JU {q:bg} {ks:List Int} (h:q.c=.inr ks):q.sp.v=bS q.k q.hd (q.ab.map au) (er q.hd) false:=by
 show bS _ _ _ _ q.pg=_
 unfold bg.pg;refine B h ?_;rfl
theorem Va (h:ed tab bJ N a6 x) (hc:j7 N a6 x) (hs:cA (x.ai [])) (dm:N<250) {a:Nat} (bz:a<=(ci (x.ai [])).length) (p:da):∃c5 df,
  (∀{b m t u} {per:List H},t≠u->per[t]? =some (.V tab)->per[u]? =some (.V bJ)->aH b (m+10) "insert_page" [bB t u,.int a,.V p.d] per=some (.ret (.U (au ((N:Int)+1))),per.set t (.V c5)))/\
  ed c5 bJ (N+1) a6 df/\j7 (N+1) a6 df/\cA (df.ai [])/\ci (df.ai [])=(ci (x.ai [])).take a++((N:Int)+1,p)::(ci (x.ai [])).drop a:=by
 refine uy (Ee h bz) ?_;intro _ _ _ _ _ _ Rw
 have Wc:= @Rw.call
 have M:=h.new dm (v:=.aF [.int 0,.V (dW none none (.inl p))])
 refine uy (Ee M bz) ?_;intro A ap C nq ks j nL
 have bH:=nL.c;have b7:=nL.le;have c7:=nL.len;have fl:=nL.ins.1;have hE:=nL.ins.2;have mP:= @nL.call;clear nL
 refine et (hE ((N:Int)+1) p) ?_;intro df ho js g8
 have qv:nq∈x.ai []:=by refine B fl ?_;simp
 have jN:=(yE.1 x [] nq qv ks bH).length_le
 have bC:=h.len
 unfold cz at jN
 replace jN:=(List.length_map _)▸jN
 have O:=h.jl dm fl ho js g8
 have Bh:∀j,j∈cz (df.ai [])↔j=(N:Int)+1\/j∈cz (x.ai []):=fun j=>by(refine B g8 ?_;refine B fl ?_);exact ER (nq:=nq) (by rfl)
 refine qu (CG O (I3 h.ex hs fl g8)) ?_;intro c5 OQ d5 dX fF iR gD
 refine⟨c5,OQ,fun{b m t u per} iY aG b2=> ?_,dX,fun j tM pp=> ?_,fF,?_⟩
 ·refine KP (m:=m+7) (N:=N) (cd:=p.d) aG h.fS (by exact Jy dm) ?_ (Wc aG b2) A9 ?_
  ·obtain⟨n,w,r⟩:=p;cases r<;>exact Nat.le_of_ble_eq_true rfl
  ·have iL:hR p.d n2=dW none none (.inl p):=by obtain⟨n,w,r⟩:=p;cases r<;>rfl
   (refine B iL ?_;refine bu h.fS.add.1 ?_)
   have qV:=(tx (v:=.V (cU (.int ((N:Int)+1)) (.aF [.int 0,.V (dW none none (.inl p))]) tab)) iY).trans b2
   have y0:=mP (b:=b) (m:=m+2) (jk aG) qV
   replace y0:=(JU bH)▸y0
   have aq:=sW (q:=nq)
   have kR:tab.length=N:=h.fS.len
   refine TI (m:=m+5) (ks:=ks.map au) (jk aG) ?_ (by exact Ts aq) (by refine B (List.length_map _) ?_;exact HB dm bC jN) (by refine B (List.length_map _) ?_;exact b7) y0 (by unfold bg.hd;refine B bH ?_;rfl) ?_
   ·refine B M.fS.len ?_;unfold a4;exact Rl dm
   ·have ak:(ks.map au).take j++[au ((N:Int)+1)]++(ks.map au).drop j=(ks.take j++((N:Int)+1)::ks.drop j).map au:=by simp
    (refine B ak ?_;refine B (Wy bH) ?_;refine B lm ?_)
    have:=d5 (b:=b) (m:=m+2) (jk (w:=.V (cU (.int nq.k) (.aF [.int 0,.V (dW nq.par nq.cnt (.inr (ks.take j++((N:Int)+1)::ks.drop j)))]) (cU (.int ((N:Int)+1)) (.aF [.int 0,.V (dW none none (.inl p))]) tab))) aG) ((tx iY).trans b2)
    replace this:=lm▸this
    exact this
 ·refine B gD ?_
  by_cases e:j=(N:Int)+1
  ·exact .inr ((Bh j).mpr (.inl e))
  ·rcases hc j tM (by exact zA pp e) with z|z
   ·exact .inl z
   ·exact .inr ((Bh j).mpr (.inr z))
 ·have ak:ci (x.ai [])=(ci A++ci ap)++ci C:=by
   (refine B fl ?_;refine B jK ?_;refine B (zG bH) ?_;refine B jK ?_;refine B (List.append_assoc _ _ _) ?_;rfl)
  replace c7:=jK▸c7
  (refine B iR ?_;refine B g8 ?_;refine B jK ?_;refine B (zG rfl) ?_;refine B jK ?_;refine B ak ?_;refine B (List.take_left' c7) ?_;refine B (List.drop_left' c7) ?_;refine B (List.append_assoc _ _ _) ?_);rfl
end
end Mine
end
section
open PySem
namespace Mine
noncomputable def bg.str (q:bg):Int×Option Int×Option Int×(da⊕List Int):=(q.k,q.par,q.cnt,q.c)
theorem F0:(∀x:af,∀ab ab',(x.ai ab).map bg.str=(x.ai ab').map bg.str)/\∀l:List af,∀ab ab',(af.bD ab l).map bg.str=(af.bD ab' l).map bg.str:=by
 apply af.all
 ·intros;rfl
 ·intro k par cnt kids ih ab ab'
  (rw [af.ai,af.ai];refine B List.map_cons ?_;refine B List.map_cons ?_;refine B (ih (ab++[k]) (ab'++[k])) ?_);rfl
 ·intros;rfl
 ·intro x r M O ab ab'
  (rw [af.bD,af.bD];refine B List.map_append ?_;refine B List.map_append ?_;refine B (M ab ab') ?_;refine B (O ab ab') ?_;rfl)
theorem Ja {l:List af} {ab ab':List Int} {q:bg} (h:q∈af.bD ab l):∃cL∈af.bD ab' l,cL.str=q.str:=by
 have:q.str∈(af.bD ab' l).map bg.str:=by refine B (F0.2 l ab' ab) ?_;exact List.mem_map_of_mem h
 refine bb (List.mem_map.mp this) ?_;intro cL M O
 exact⟨cL,M,O⟩
theorem Xu {l:List af} {ab ab':List Int}:cz (af.bD ab l)=cz (af.bD ab' l):=by
 have:=congrArg (List.map Prod.fst) (F0.2 l ab ab')
 (replace this:=List.map_map▸this;replace this:=List.map_map▸this)
 exact this
theorem Rm {l:List af} {ab ab':List Int}:ci (af.bD ab l)=ci (af.bD ab' l):=by(refine bu (pC.2 l ab) ?_;refine bu (pC.2 l ab') ?_;rfl)
structure eE (tab:cD) (N:Nat) (l:List af):Prop where
 fS:fZ tab N
 ins:hk tab (af.bD [] l)
 ex:(cz (af.bD [] l)).Nodup
 Fy:∀j:Int,1<=j->j<=N->j∈cz (af.bD [] l)
 Al:∀q∈af.bD [] l,q.par=none/\q.cnt=none
theorem eE.at {tab:cD} {N:Nat} {l:List af} (h:eE tab N l) {j:Int} (bF:j∈cz (af.bD [] l)):1<=j/\j<=N:=by
 refine bb (List.mem_map.mp bF) ?_;intro q aA u;subst u
 exact h.fS.at (by refine B (h.ins q aA) ?_;rfl)
theorem eE.add {tab:cD} {N:Nat} {d g r:List af} {x:af} {v:H} (h:eE tab N (d++(g++r))) (ae:∃q,x.ai []=q::af.bD [q.k] g/\q.k=(N:Int)+1/\q.par=none/\q.cnt=none/\v=.aF [.int 0,.V q.hd]):
  eE (tab++[(.int ((N:Int)+1),v)]) (N+1) (d++x::r):=by
 refine Ea ae ?_;clear ae;intro q ak ar bP cW u;subst u
 have ag:=h.fS.add (v:=.aF [.int 0,.V q.hd])
 have lS:af.bD [] (d++x::r)=af.bD [] d++(q::af.bD [q.k] g++af.bD [] r):=by(refine B i9 ?_;rw [af.bD];refine B ak ?_;rfl)
 have Bg:af.bD [] (d++(g++r))=af.bD [] d++(af.bD [] g++af.bD [] r):=by(refine B i9 ?_;refine B i9 ?_;rfl)
 have mem:∀{cL},cL∈af.bD [] (d++x::r)->cL=q\/∃h6∈af.bD [] (d++(g++r)),h6.str=cL.str:=fun{cL} aA=>by
  replace aA:=lS▸aA
  refine B Bg ?_
  rcases List.mem_append.mp aA with aA|aA
  ·exact .inr ⟨cL,List.mem_append_left _ aA,rfl⟩
  ·rcases List.mem_cons.mp aA with rfl|aA
   ·exact .inl rfl
   ·rcases List.mem_append.mp aA with aA|aA
    ·refine bb (Ja (ab':=[]) aA) ?_;intro h6 M O
     exact .inr ⟨h6,List.mem_append_right _ (List.mem_append_left _ M),O⟩
    ·exact .inr ⟨cL,List.mem_append_right _ (List.mem_append_right _ aA),rfl⟩
 have eO:∀{cL h6:bg},h6.str=cL.str->h6.k=cL.k/\h6.hd=cL.hd/\h6.par=cL.par/\h6.cnt=cL.cnt:=fun{cL h6} hs=>by
  obtain⟨k,par,cnt,c,ab⟩:=cL
  obtain⟨cY,zd,Pr,c',ab'⟩:=h6
  cases hs
  exact⟨rfl,rfl,rfl,rfl⟩
 have an:(cz (af.bD [] (d++x::r))).Perm (((N:Int)+1)::cz (af.bD [] (d++(g++r)))):=by
  have dn:(af.bD [q.k] g).map bg.k=(af.bD [] g).map bg.k:=Xu
  (refine B lS ?_;refine B Bg ?_;refine bu ar ?_)
  unfold cz
  simp only [List.map_append,List.map_cons]
  refine B dn ?_
  exact List.perm_middle
 refine⟨ag.2,fun cL aA=> ?_,an.nodup_iff.mpr (List.nodup_cons.mpr ⟨fun z=>by have:=(h.at z).2;exact(Cp this).elim,h.ex⟩),fun j M O=> ?_,fun cL aA=> ?_⟩
 ·(refine bu ag.1 ?_;refine B hg ?_)
  rcases mem aA with rfl|⟨h6,M,O⟩
  ·(refine B ar ?_;refine B (if_pos rfl) ?_;rfl)
  ·refine ef (eO O) ?_;intro d5 dX _
   have:=(h.at (List.mem_map_of_mem M)).2
   (refine bu d5 ?_;refine bu dX ?_;refine B (if_neg (fun e=>by injection e with e;exact EE this e)) ?_)
   exact h.ins h6 M
 ·refine an.mem_iff.mpr ?_
  by_cases e:j=(N:Int)+1
  ·exact List.mem_cons.mpr (.inl e)
  ·exact List.mem_cons.mpr (.inr (h.Fy j M (by exact zA O e)))
 ·rcases mem aA with rfl|⟨h6,M,O⟩
  ·exact⟨bP,cW⟩
  ·refine oF (eO O) ?_;intro _ _ fF iR
   (refine bu fF ?_;refine bu iR ?_);exact h.Al h6 M
theorem eE.leaf {tab:cD} {N:Nat} {d:List af} (h:eE tab N d) (p:da):eE (tab++[(.int ((N:Int)+1),.aF [.int 0,.V (dW none none (.inl p))])]) (N+1) (d++[.leaf ((N:Int)+1) p none]):=by
 have h':eE tab N (d++([]++[])):=by rw [List.append_nil,List.append_nil];exact h
 exact h'.add ⟨_,rfl,rfl,rfl,rfl,rfl⟩
theorem eE.node {tab:cD} {N:Nat} {d g r:List af} (h:eE tab N (d++(g++r))):eE (tab++[(.int ((N:Int)+1),.aF [.int 0,.V (dW none none (.inr (g.map af.num)))])]) (N+1) (d++.node ((N:Int)+1) none none g::r):=
 h.add ⟨_,rfl,rfl,rfl,rfl,rfl⟩
theorem eE.ci {d g r:List af} {k:Int} {par cnt:Option Int}:Mine.ci (af.bD [] (d++.node k par cnt g::r))=Mine.ci (af.bD [] (d++(g++r))):=by
 (refine B i9 ?_;refine B i9 ?_;refine B i9 ?_;rw [af.bD,af.ai];refine B jK ?_;refine B jK ?_;refine B (zG rfl) ?_;refine B jK ?_;refine B jK ?_;refine B (Rm (l:=g) (ab:=[]++[k]) (ab':=[])) ?_;rfl)
noncomputable def hf (l:List α) (dy:Nat) (i:Nat):List α:=(l.take ((i+1)*l.length/dy)).drop (i*l.length/dy)
theorem PS {l:List α} {dy i:Nat} (h:0<dy):hf l dy i++l.drop ((i+1)*l.length/dy)=l.drop (i*l.length/dy):=by
 have aY:i*l.length/dy<=(i+1)*l.length/dy:=Nat.div_le_div_right (Nat.mul_le_mul_right _ (by exact vD))
 unfold hf
 refine B List.drop_take ?_
 have:(l.drop (i*l.length/dy)).drop ((i+1)*l.length/dy-i*l.length/dy)=l.drop ((i+1)*l.length/dy):=by refine B List.drop_drop ?_;congr 1;exact XI aY
 (refine bu this ?_;refine B (List.take_append_drop _ _) ?_;rfl)
end Mine
end
section
open PySem
namespace Mine
theorem P4:du "grouped"=some (aI 42):=by kernel_rfl
section
variable{b:Bool} {C CQ:cs} {n:Nat} {J aX:Scope} {fs fs₁ fs₂ fs₃ hh fs':X} {R:bk} {o:Option (bE×X)} {p:Pos} {m:Nat} {t u:Nat} {per:List H} {tab bJ:List (al×H)}
theorem HU {x:Nat} (h:x<1000):qE (x:Int)=true:=by
 unfold qE;exact decide_eq_true (by refine B (Int.natAbs_natCast _) ?_;exact WV h)
theorem E3 {x y:Nat} {z:Int} (h:x<1000) (hz:z=((x*y:Nat):Int)):j3 .Mult (.int (x:Int)) (.int (y:Int))=some (.U (.int z)):=by
 subst hz
 refine B (Int.natCast_mul _ _) ?_
 exact bp (cQ (by(refine B (HU h) ?_;refine B (Bool.true_or _) ?_;rfl)) rfl) rfl
theorem yM {x y:Nat} (h:0<y) (O:y<1000):j3 .FloorDiv (.int (x:Int)) (.int (y:Int))=some (.U (.int ((x/y:Nat):Int))):=by
 have e:¬(((y:Int)=0:Bool)||(1073741824<=(y:Int).natAbs:Bool))=true:=by
  refine B (Int.natAbs_natCast _) ?_;simp;exact Ll h O
 (refine B (Int.natCast_ediv _ _) ?_;refine bu (Int.fdiv_eq_ediv_of_nonneg _ (Int.natCast_nonneg _)) ?_)
 exact bp (el e rfl) rfl
theorem GN {e:Expr} {i:Int} (h:R.a9 e fs=some (.U (.int i),fs₁)):mB R (some e) fs=some (some i,fs₁):=bd h rfl
theorem uN {q w0:Pos} {a:Expr} {k:Nat} (aL:J.names.lookup ("range":Str)=some .globalImplicit) (h:d0 R a fs=some (.int (k:Int),fs₁)) (ag:k<1000000):hG R J (.Call (.Name ("range":Str) q) [a] [] w0) fs=some ((List.range k).map fun(i:Nat)=>H.int i,fs₁):=by
 have ah:((-1048576:Int)<=(k:Int)&&(k:Int)<=1048576:Bool)=true:=by simp;exact P1 ag
 exact cQ aL (cQ rfl (bd h (bp (cQ ah rfl) rfl)))
noncomputable def Eb:Expr×Scope:=(ek (ce (aI 42) 1) [0],iv (ek (ce (aI 42) 1) []))
theorem WH {l:List H} {w:Nat} (aq:0<l.length) (hN:l.length<900) (d9:2<=w) (Cn:w<100):aH b (m+1) "grouped" [.am l,.int w] per=some (.ret (.own (.am ((List.range ((l.length+w-1)/w)).map fun i=>.am (hf l ((l.length+w-1)/w) i)))),per):=by
 refine c6 P4 ?_
 have FE:0<(l.length+w-1)/w:=Nat.div_pos (by exact Jr aq) (by exact CZ d9)
 have iu:(l.length+w-1)/w<1000:=Nat.lt_of_le_of_lt (Nat.div_le_self _ _) (by exact Wa hN Cn)
 have bC:=ir (l:=l) (by unfold a4;exact j9 hN)
 have iL:((l.length:Int)+(w:Int)-1)=((l.length+w-1:Nat):Int):=by exact NL d9
 have iZ:=yM (x:=l.length+w-1) (y:=w) (by exact CZ d9) (by exact P5 Cn)
 replace iZ:=(Eq.symm iL)▸iZ
 obtain⟨cZ,e⟩:=vL (R:=aJ b (aH b m) (aH false m) 38 Eb.2) (per:=per) (elt:=Eb.1) (x:="at") (L:=[("parts",.U (.am l)),("many",.U (.int ((l.length+w-1)/w:Nat)))])
  (f:=fun v=>match v with|.int i=>.am (hf l ((l.length+w-1)/w) i.toNat)|_=>.none) (items:=(List.range ((l.length+w-1)/w)).map fun(i:Nat)=>H.int i) (fs:=⟨[("parts",.U (.am l)),("many",.U (.int ((l.length+w-1)/w:Nat)))],per⟩)
  (fun v ay=>by
   refine bb (List.mem_map.mp ay) ?_;intro i aR u;subst u
   have aR:=List.mem_range.mp aR
   have cP:∀j,j<=(l.length+w-1)/w->j*l.length/((l.length+w-1)/w)<=l.length:=fun j bF=>Nat.div_le_of_le_mul (Nat.mul_le_mul_right _ bF)
   have hs:iT l (some ((i*l.length/((l.length+w-1)/w):Nat):Int)) (some (((i+1)*l.length/((l.length+w-1)/w):Nat):Int))=hf l ((l.length+w-1)/w) i:=by
    show(l.take (jj _ _)).drop (jj _ _)=_
    (refine B (vC (cP _ (by exact Eu aR))) ?_;refine B (vC (cP _ (by exact zk aR))) ?_);rfl
   refine ds (r:=.own (.am (hf l ((l.length+w-1)/w) i))) ?_ rfl
   refine bu hs ?_
   exact nD rfl (GN (dB (dB rfl (e9 rfl rfl rfl bC) rfl rfl (E3 (by exact N8 iu aR) rfl)) rfl rfl rfl (yM FE iu))) (GN (dB (dB rfl (e9 rfl rfl rfl bC) rfl rfl (E3 (x:=i+1) (by exact TD iu aR) rfl)) rfl rfl rfl (yM FE iu))) rfl (by unfold a4;exact j9 hN)) (.inl rfl)
 replace e:=List.map_map▸e
 apply dr rfl
 ·refine aO (dc (dB (dB (dB (e9 rfl rfl rfl bC) rfl rfl rfl rfl) rfl rfl rfl rfl) rfl rfl rfl iZ) rfl) ?_
  exact cu (dC (hS (uN rfl (ds (r:=.U (.int ((l.length+w-1)/w:Nat))) rfl rfl) (by exact Fa iu)) (by(refine B (List.length_map _) ?_;refine B List.length_range ?_);unfold a4;exact mw iu) rfl e) rfl)
 ·rfl
end
end Mine
end
section
open PySem
namespace Mine
noncomputable def qk:Nat->Nat->List H
 |_,0=>[]
 |N,k+1=>au ((N:Int)+1)::qk (N+1) k
noncomputable def oA (tab:cD) (N:Nat):List H->cD
 |[]=>tab
 |v::r=>oA (tab++[(.int ((N:Int)+1),.aF [.int 0,v])]) (N+1) r
section
variable{b:Bool} {C CQ:cs} {n:Nat} {J aX:Scope} {fs fs₁ fs₂ fs₃ hh fs':X} {R:bk} {o:Option (bE×X)} {p:Pos} {m:Nat} {t u:Nat}
theorem AX {elt:Expr} {x:Str} {L:List (Str×cf)} {f:H->H} {items:List H}:∀{per:List H} {tab:cD} {N:Nat} {fs:X},
  (∀v∈items,∀per tab N,per[t]? =some (.V tab)->fZ tab N->N<900->d0 R elt ⟨bX x (.U v) L,per⟩=some (au ((N:Int)+1),⟨bX x (.U v) L,per.set t (.V (tab++[(.int ((N:Int)+1),.aF [.int 0,f v])]))⟩))->
  per[t]? =some (.V tab)->fZ tab N->N+items.length<900->(fs=⟨L,per⟩\/∃w,fs=⟨bX x w L,per⟩)->∃l,ga R x [] elt items fs=some (qk N items.length,⟨l,per.set t (.V (oA tab N (items.map f)))⟩):=by
 induction items with
 |nil=>
  intro per tab N fs _ aG _ _ aB
  have e:per.set t (.V (oA tab N ([].map f)))=per:=vJ aG
  refine B e ?_;exact rY aB
 |cons v r ih=>
  intro per tab N fs h aG ag aq aB
  replace aq:=List.length_cons▸aq
  refine bT (ih (fun y aQ=>h y (List.mem_cons_of_mem _ aQ)) (jk aG (w:=.V (tab++[(.int ((N:Int)+1),.aF [.int 0,f v])]))) ag.add.2 (by exact Ep aq) (.inr ⟨.U v,rfl⟩)) ?_;intro l ar
  replace ar:=lm▸ar
  exact⟨l,vW ((congrArg (d0 R elt) (qR v aB)).trans (h v List.mem_cons_self per tab N aG ag (by exact XM aq))) ar⟩
end
noncomputable def nj (N:Nat):List (List af)->List af
 |[]=>[]
 |g::r=>.node ((N:Int)+1) none none g::nj (N+1) r
noncomputable def lu (N:Nat):List da->List af
 |[]=>[]
 |p::r=>.leaf ((N:Int)+1) p none::lu (N+1) r
noncomputable def g3 (l:List af):List H:=(l.map af.num).map au
noncomputable def FL (g:List af):H:=.V (dW none none (.inr (g.map af.num)))
noncomputable def xB (p:da):H:=.V (dW none none (.inl p))
theorem Mh {eA:List (List af)}:∀{N:Nat},qk N eA.length=g3 (nj N eA):=by
 induction eA with
 |nil=>intro N;rfl
 |cons g r ih=>intro N;show _::qk (N+1) r.length=_;refine B ih ?_;rfl
theorem Xl {ps:List da}:∀{N:Nat},qk N ps.length=g3 (lu N ps):=by
 induction ps with
 |nil=>intro N;rfl
 |cons g r ih=>intro N;show _::qk (N+1) r.length=_;refine B ih ?_;rfl
theorem RD {eA:List (List af)}:∀{N:Nat},(nj N eA).length=eA.length:=by
 induction eA with
 |nil=>intro N;rfl
 |cons g r ih=>intro N;exact congrArg (· +1) ih
theorem X1 {ps:List da}:∀{N:Nat},(lu N ps).length=ps.length:=by
 induction ps with
 |nil=>intro N;rfl
 |cons g r ih=>intro N;exact congrArg (· +1) ih
theorem eE.IB (eA:List (List af)):∀{tab:cD} {N:Nat} {d:List af},eE tab N (d++eA.flatten)->eE (oA tab N (eA.map FL)) (N+eA.length) (d++nj N eA)/\Mine.ci (af.bD [] (d++nj N eA))=Mine.ci (af.bD [] (d++eA.flatten)):=by
 induction eA with
 |nil=>intro tab N d h;exact⟨h,rfl⟩
 |cons g r ih=>
  intro tab N d h
  rw [List.flatten_cons] at h|-
  have M:=h.node
  have e:d++af.node ((N:Int)+1) none none g::r.flatten=(d++[.node ((N:Int)+1) none none g])++r.flatten:=by simp
  replace M:=e▸M
  refine cl (ih M) ?_;intro bH b7
  have ar:(d++[af.node ((N:Int)+1) none none g])++nj (N+1) r=d++nj N (g::r):=by simp [nj]
  rw [ar] at bH b7
  have bP:N+1+r.length=N+(g::r).length:=by refine B List.length_cons ?_;exact ta
  replace bH:=bP▸bH
  exact⟨bH,by(refine B b7 ?_;refine bu e ?_);exact eE.ci⟩
theorem eE.lV (ps:List da):∀{tab:cD} {N:Nat} {d:List af},eE tab N d->eE (oA tab N (ps.map xB)) (N+ps.length) (d++lu N ps)/\(Mine.ci (af.bD [] (d++lu N ps))).map Prod.snd=(Mine.ci (af.bD [] d)).map Prod.snd++ps:=by
 induction ps with
 |nil=>intro tab N d h;(rw [lu];refine B (List.append_nil _) ?_;refine B (List.append_nil _) ?_);exact⟨h,rfl⟩
 |cons p r ih=>
  intro tab N d h
  refine cl (ih (h.leaf p)) ?_;intro bH b7
  have ar:(d++[af.leaf ((N:Int)+1) p none])++lu (N+1) r=d++lu N (p::r):=by simp [lu]
  rw [ar] at bH b7
  have bP:N+1+r.length=N+(p::r).length:=by refine B List.length_cons ?_;exact ta
  replace bH:=bP▸bH
  refine⟨bH,?_⟩
  (refine B b7 ?_;refine B i9 ?_;refine B jK ?_;refine B List.map_append ?_;refine B (List.append_assoc _ _ _) ?_);rfl
noncomputable def mD (l:List α) (dy:Nat):List (List α):=(List.range dy).map (hf l dy)
theorem Mc {l:List α} {dy:Nat} (h:0<dy):(mD l dy).flatten=l:=by
 have:∀k i,i+k=dy->((List.range' i k).map (hf l dy)).flatten=l.drop (i*l.length/dy):=by
  intro k
  induction k with
  |zero=>
   intro i aR
   have:i=dy:=by exact LG aR
   subst this
   (refine B (Nat.mul_div_cancel_left _ h) ?_;refine B List.drop_length ?_);rfl
  |succ k ih=>
   intro i aR
   (refine B List.range'_succ ?_;refine B List.map_cons ?_;refine B List.flatten_cons ?_;refine B (ih (i+1) (by exact PZ aR)) ?_)
   exact PS h
 have:=this dy 0 (by exact Bd)
 (replace this:=(Nat.zero_mul _)▸this;replace this:=(Nat.zero_div _)▸this;replace this:=List.drop_zero▸this;replace this:=(Eq.symm List.range_eq_range')▸this)
 exact this
theorem AZ {f:α->d6} {l:List α} {dy i:Nat}:hf (l.map f) dy i=(hf l dy i).map f:=by
 unfold hf;(refine B (List.length_map _) ?_;refine B List.map_drop ?_;refine B List.map_take ?_;rfl)
end Mine
end
section
open PySem
namespace Mine
theorem P8:du "build_pages"=some (aI 43):=by kernel_rfl
section
variable{b:Bool} {C CQ:cs} {n:Nat} {J aX:Scope} {fs fs₁ fs₂ fs₃ hh fs':X} {R:bk} {o:Option (bE×X)} {p:Pos} {m:Nat} {t u:Nat} {per:List H} {tab bJ:cD}
noncomputable def G1 (t u:Nat) (pd:H) (w:Nat) (Kz:List H) (per:List H):X:=⟨[("shelf",.U (bB t u)),("page_dicts",.U pd),("width",.U (.int w)),("home",.U .none),("level",.aD (.am Kz))],per⟩
noncomputable def vv:Expr×Scope:=(ek (ce (aI 43) 2) [0],iv (ek (ce (aI 43) 2) []))
noncomputable def uZ:Expr×Scope:=(ek (iE (d4 (ce (aI 43) 3)) 0) [0],iv (ek (iE (d4 (ce (aI 43) 3)) 0) []))
noncomputable def yz:H->H
 |.V d=>.V (hR d n2)
 |v=>v
noncomputable def oN (v:H):H:=.V [(.str "Type",gz "Pages"),(.str "Kids",v)]
theorem Rf {p:da} {N:Nat} (aG:per[t]? =some (.V tab)) (ag:fZ tab N) (dm:N<900):d0 (aJ b (aH b (m+5)) CQ 38 vv.2) vv.1 ⟨bX "one" (.U (.V p.d)) [("shelf",.U (bB t u))],per⟩=
  some (au ((N:Int)+1),⟨bX "one" (.U (.V p.d)) [("shelf",.U (bB t u))],per.set t (.V (tab++[(.int ((N:Int)+1),.aF [.int 0,yz (.V p.d)])]))⟩):=by
 have iY:=qN (b:=b) (m:=m+4) (per:=per) (hd:=p.d) ED (by obtain⟨n,w,r⟩:=p;cases r<;>exact Nat.le_of_ble_eq_true rfl)
 exact ds (dZ rfl rfl rfl rfl (bM (dt rfl (bM (dt rfl rfl (A9 (m:=m+1))) rfl (bM (pG (v:=gz "Page") (w:=.none) rfl rfl (by decide+kernel)) rfl rfl)) iY) rfl rfl) (rq (m:=m+4) aG ag (by exact AV dm))) rfl
theorem JE {v:H} {N:Nat} (ay:iH v=true) (aG:per[t]? =some (.V tab)) (ag:fZ tab N) (dm:N<900):d0 (aJ b (aH b (m+5)) CQ 37 uZ.2) uZ.1 ⟨bX "group" (.U v) [("shelf",.U (bB t u))],per⟩=
  some (au ((N:Int)+1),⟨bX "group" (.U v) [("shelf",.U (bB t u))],per.set t (.V (tab++[(.int ((N:Int)+1),.aF [.int 0,oN v])]))⟩):=
 ds (dZ rfl rfl rfl rfl (bM (pG (v:=gz "Pages") (w:=v) rfl rfl (by decide+kernel)) rfl rfl) (rq (m:=m+4) aG ag (by exact AV dm))) rfl
theorem DT {x y:Nat} {z:Bool} (h:decide (y<x)=z):eI .Gt (.int (x:Int)) (.int (y:Int))=some z:=by
 refine t7 ?_
 refine bu h ?_
 by_cases e:y<x
 ·(refine B (decide_eq_true e) ?_;refine B (decide_eq_true (by exact vh e)) ?_;rfl)
 ·(refine B (decide_eq_false e) ?_;refine B (decide_eq_false (by exact wG e)) ?_;rfl)
theorem VD {pd:H} {w:Nat} (d9:w=2\/w=3\/w=4):∀(k:Nat) {l:List af} {N:Nat} {tab:cD} {per:List H} {fuel:Nat},l.length=k->eE tab N l->per[t]? =some (.V tab)->N+2*k<800->k<fuel->
  ∃c8 gd c5,gK (aJ b (aH b (m+5)) CQ 39 (bO (aI 43))) (mq (ce (aI 43) 3)) (d4 (ce (aI 43) 3)) fuel (G1 t u pd w (g3 l) per)=some (.next,G1 t u pd w (g3 c8) (per.set t (.V c5)))/\eE c5 gd c8/\c8.length<=4/\ci (af.bD [] c8)=ci (af.bD [] l)/\gd+2*c8.length<=N+2*k:=by
 intro k
 induction k using Nat.strongRecOn with
 |_ k ih=>
  intro l N tab per fuel ag bA aG ah aB
  obtain⟨fuel,rfl⟩:∃f,fuel=f+1:=⟨fuel-1,by exact Gx aB⟩
  have rf:(g3 l).length=k:=by unfold g3;(refine B (List.length_map _) ?_;refine B (List.length_map _) ?_;refine B ag ?_;rfl)
  have bC:=ir (l:=g3 l) (by refine B rf ?_;unfold a4;exact PT ah)
  by_cases uU:w<k
  ·have bi:=WH (b:=b) (m:=m+4) (l:=g3 l) (w:=w) (per:=per) (by exact Sy rf uU) (by exact Ov ah rf) (by exact JN d9) (by exact U7 d9)
   rw [rf] at bi bC
   obtain⟨dy,aY⟩:∃dy,dy=(k+w-1)/w:=⟨_,rfl⟩
   replace bi:=(Eq.symm aY)▸bi
   have iu:0<dy/\3*dy<=2*k/\dy<k:=by
    rcases d9 with rfl|rfl|rfl<;>omega
   have Hw:(List.range dy).map (fun i=>H.am (hf (g3 l) dy i))=(mD l dy).map fun g=>H.am (g3 g):=by
    unfold mD
    refine B List.map_map ?_
    apply List.map_congr_left
    intro i _
    show H.am (hf ((l.map af.num).map au) dy i)=.am (((hf l dy i).map af.num).map au)
    (refine B AZ ?_;refine B AZ ?_;rfl)
   replace bi:=Hw▸bi
   have u5:(mD l dy).length=dy:=by unfold mD;(refine B (List.length_map _) ?_;refine B List.length_range ?_;rfl)
   obtain⟨cZ,e⟩:=AX (t:=t) (R:=aJ b (aH b (m+5)) CQ 37 uZ.2) (elt:=uZ.1) (x:="group") (L:=[("shelf",.U (bB t u))]) (f:=oN) (items:=(mD l dy).map fun g=>H.am (g3 g)) (per:=per) (tab:=tab) (N:=N) (fs:=⟨[("shelf",.U (bB t u))],per⟩)
    (fun v ay per tab N M O Y=>JE (by obtain⟨g,_,rfl⟩:=List.mem_map.mp ay;rfl) M O Y) aG bA.fS (by(refine B (List.length_map _) ?_;refine B u5 ?_);exact TO ah iu) (.inl rfl)
   rewrite [List.length_map,Mh,List.map_map] at e
   have lS:=Mc (l:=l) iu.1
   refine cl (eE.IB (mD l dy) (tab:=tab) (N:=N) (d:=[]) (by(refine B (List.nil_append _) ?_;refine B lS ?_);exact bA)) ?_;intro lQ lW
   rw [List.nil_append] at lQ lW
   (replace lW:=(List.nil_append _)▸lW;replace lW:=lS▸lW)
   replace lQ:=u5▸lQ
   refine uV (ih dy iu.2.2 (fuel:=fuel) (by(refine B RD ?_;refine B u5 ?_;rfl)) lQ (jk aG (w:=.V (oA tab N ((mD l dy).map FL)))) (by exact W6 ah iu) (by exact Tl aB iu)) ?_;intro c8 gd c5 bH b7 c7 fl hE
   replace bH:=lm▸bH
   refine⟨c8,gd,c5,?_,b7,c7,fl.trans lW,by exact O7 iu hE⟩
   refine pc (cS (e9 rfl rfl rfl bC) rfl rfl rfl (DT (decide_eq_true uU)) rfl) ?_ bH
   exact aO (fC (hS (hl rfl (ds (dt rfl rfl bi) rfl)) (by(refine B (List.length_map _) ?_;refine B u5 ?_);unfold a4;exact OB ah iu) rfl e) rfl) rfl
  ·replace bC:=rf▸bC
   refine⟨l,N,tab,?_,bA,by exact XY d9 ag uU,rfl,by exact QH ag⟩
   refine B (vJ aG) ?_
   exact w_end (cS (e9 rfl rfl rfl bC) rfl rfl rfl (DT (decide_eq_false uU)) rfl)
end
end Mine
end
section
open PySem
namespace Mine
section
variable{b:Bool} {m:Nat} {t u:Nat} {per:List H} {tab bJ:cD}
noncomputable def lx (k:Int):cD:=[(.str "Type",gz "Catalog"),(.str "Pages",au k)]
theorem eE.K9 {N:Nat} {x:af} (h:eE tab N [x]) (ae:∃k par cnt kids,x=.node k par cnt kids) (dm:N<250):ed (tab++[(.int ((N:Int)+1),.aF [.int 0,.V (lx x.num)])]) [(.str "Root",au ((N:Int)+1))] (N+1) ((N:Int)+1) x/\j7 (N+1) ((N:Int)+1) x/\yf (x.ai []):=by
 have ag:=h.fS.add (v:=.aF [.int 0,.V (lx x.num)])
 have e:af.bD [] [x]=x.ai []:=List.append_nil _
 have fw:=fun j bF=>h.at (j:=j) bF
 have uR:=h.ins
 have iF:=h.ex
 have Fn:=h.Fy
 have Hi:=h.Al
 rw [e] at fw uR iF Fn Hi
 refine⟨⟨ag.2,by exact wL dm,fun q aA=> ?_,iF,ae,rfl,?_,fun z=> ?_⟩,fun j M O=> ?_,fun q aA=>.inr (Hi q aA)⟩
 ·have:=(fw _ (List.mem_map_of_mem aA)).2
  (refine bu ag.1 ?_;refine B hg ?_;refine B (if_neg (fun e=>by injection e with e;exact EE this e)) ?_)
  exact uR q aA
 ·(refine bu ag.1 ?_;refine B hg ?_;refine B (if_pos rfl) ?_);rfl
 ·have:=(fw _ z).2;exact(Cp this).elim
 ·by_cases e:j=(N:Int)+1
  ·exact .inl e
  ·exact .inr (Fn j M (by exact zA O e))
theorem F3 {v w:H} (h:t≠u):((per.set t v).set u w)=(per.set u w).set t v:=List.set_comm v w h
theorem K8 {x y z:H} (h:t≠u):((per.set t x).set u y).set t z=(per.set u y).set t z:=by(refine B (F3 h) ?_;refine B lm ?_;rfl)
theorem GS {ps:List da} {w:Nat} (d9:w=2\/w=3\/w=4) (an:ps.length<=20) (iY:t≠u) (aG:per[t]? =some (.V [])) (b2:per[u]? =some (.V [])):
  ∃tab a6 N x i6,aH b (m+8) "build_pages" [bB t u,.am (ps.map fun p:da=>H.V p.d),.int w] per=some (.ret (.U i6),(per.set u (.V [(.str "Root",au a6)])).set t (.V tab))/\
   ed tab [(.str "Root",au a6)] N a6 x/\j7 N a6 x/\cA (x.ai [])/\(ci (x.ai [])).map Prod.snd=ps/\N<=3*ps.length+6:=by
 have KE:eE [] 0 []:=⟨rfl,fun q aA=>(List.not_mem_nil aA).elim,List.nodup_nil,fun j M O=>by exact(Kv M O).elim,fun q aA=>(List.not_mem_nil aA).elim⟩
 refine cl (eE.lV ps KE) ?_;intro lQ GO
 rw [List.nil_append] at lQ GO
 replace lQ:=(Nat.zero_add _)▸lQ
 obtain⟨cZ,ak⟩:=AX (t:=t) (R:=aJ b (aH b (m+7)) (aH false (m+7)) 38 vv.2) (elt:=vv.1) (x:="one") (L:=[("shelf",.U (bB t u))]) (f:=yz) (items:=ps.map fun p:da=>H.V p.d) (per:=per) (tab:=[]) (N:=0) (fs:=⟨[("shelf",.U (bB t u))],per⟩)
  (fun v ay per tab N M O Y=>by obtain⟨p,_,rfl⟩:=List.mem_map.mp ay;exact Rf (m:=m+2) M O Y) aG rfl (by refine B (List.length_map _) ?_;exact MZ an) (.inl rfl)
 have Uw:(ps.map fun p:da=>H.V p.d).map yz=ps.map xB:=by
  refine B List.map_map ?_
  apply List.map_congr_left
  rintro ⟨n,w,r⟩ _
  cases r<;>rfl
 (replace ak:=Uw▸ak;replace ak:=(List.length_map _)▸ak;replace ak:=Xl▸ak)
 refine uV (VD (b:=b) (CQ:=aH false (m+7)) (m:=m+2) (t:=t) (u:=u) (pd:=.am (ps.map fun p:da=>H.V p.d)) d9 ps.length (X1 (N:=0)) lQ (jk aG (w:=.V (oA [] 0 (ps.map xB)))) (fuel:=ml) (by exact RA an) (by unfold ml;exact WX an)) ?_;intro c8 gd c5 ar lW Yv VC vg
 replace ar:=lm▸ar
 have wH:=eE.node (d:=[]) (g:=c8) (r:=[]) (by(refine B (List.nil_append _) ?_;refine B (List.append_nil _) ?_);exact lW)
 have hM:=eE.ci (d:=[]) (g:=c8) (r:=[]) (k:=(gd:Int)+1) (par:=none) (cnt:=none)
 rw [List.nil_append] at wH hM
 (replace hM:=(List.nil_append _)▸hM;replace hM:=(List.append_nil _)▸hM)
 have e:af.bD [] [af.node ((gd:Int)+1) none none c8]=(af.node ((gd:Int)+1) none none c8).ai []:=List.append_nil _
 replace hM:=e▸hM
 refine ef (wH.K9 ⟨_,_,_,_,rfl⟩ (by exact Mj an vg)) ?_;intro fT Lz TF
 refine qu (CG fT TF) ?_;intro JK x d5 dX fF iR gD
 refine⟨JK,_,gd+1+1,x,au ((gd:Int)+1),?_,dX,fun j M O=> ?_,fF,?_,by exact JF vg⟩
 ·refine c6 P8 ?_
  have qV:∀{v},(per.set t v)[u]? =some (.V []):=(tx iY).trans b2
  have bV:=rq (b:=b) (m:=m+6) (u:=u) (v:=oN (.am (g3 c8))) (jk aG (w:=.V c5)) lW.fS (by exact TE an vg)
  replace bV:=lm▸bV
  have cE:=rq (b:=b) (m:=m+6) (u:=u) (v:=.V (lx ((gd:Int)+1))) (jk aG (w:=.V (c5++[(.int ((gd:Int)+1),.aF [.int 0,oN (.am (g3 c8))])]))) wH.fS (by exact HJ an vg)
  replace cE:=lm▸cE
  have PM:=El (b:=b) (m:=m+4) aG b2
  have aP:=El (b:=b) (m:=m+4) (u:=u) (jk aG (w:=.V (c5++[(.int ((gd:Int)+1),.aF [.int 0,oN (.am (g3 c8))])]))) qV
  have LO:=qN (b:=b) (m:=m+6) (per:=per.set t (.V (c5++[(.int ((gd:Int)+1),.aF [.int 0,oN (.am (g3 c8))])]))) (hd:=[]) (ch:=lx ((gd:Int)+1)) ⟨fun q aA=>by
   unfold lx at aA
   rcases List.mem_cons.mp aA with rfl|aA
   ·exact⟨_,rfl,rfl⟩
   ·rw [List.mem_singleton] at aA;subst aA;exact⟨_,rfl,rfl⟩,by unfold lx;simp [tv]⟩ (Nat.le_of_ble_eq_true rfl)
  have zh:=d5 (b:=b) (m:=m+1) (t:=t) (u:=u) (per:=(per.set t (.V (c5++[(.int ((gd:Int)+1),.aF [.int 0,oN (.am (g3 c8))])]++[(.int ((gd+1:Nat)+1:Int),.aF [.int 0,.V (lx ((gd:Int)+1))])]))).set u (.V [(.str "Root",au ((gd+1:Nat)+1:Int))]))
   (by refine B (F3 iY) ?_;exact jk ((tx (Ne.symm iY)).trans aG)) (jk qV)
  replace zh:=(K8 iY)▸zh
  apply dr rfl
  ·refine aO (co false (cS rfl rfl rfl rfl (oJ (x:=(w:Int)) (y:=2) (decide_eq_false (by exact W2 d9))) rfl) rfl) ?_
   refine aO (fs₁:=⟨[("shelf",.U (bB t u)),("page_dicts",.U (.am (ps.map fun p:da=>H.V p.d))),("width",.U (.int w)),("home",.U .none)],per⟩) (dc (m4 true (cS (dZ rfl rfl rfl rfl rfl PM) rfl rfl rfl rfl rfl) rfl) rfl) ?_
   refine aO (fC (hS (hl rfl (ds (r:=.U (.am (ps.map fun p:da=>H.V p.d))) rfl rfl)) (by refine B (List.length_map _) ?_;unfold a4;exact Ob an) rfl ak) rfl) ?_
   refine aO (qQ ar) ?_
   refine aO (dc (dZ rfl rfl rfl rfl (bM (pG (v:=gz "Pages") (w:=.am (g3 c8)) rfl rfl (by decide+kernel)) rfl rfl) bV) rfl) ?_
   refine aO (fC (dt rfl (bM (dZ rfl rfl rfl rfl rfl aP) rfl (bM (pG (v:=gz "Catalog") (w:=au ((gd:Int)+1)) rfl rfl (by decide+kernel)) rfl rfl)) LO) rfl) ?_
   refine aO (co true rfl (aO (gG (k:=.str "Root") (r:=.U (.per u)) (ds (dZ rfl rfl rfl rfl rfl cE) rfl) rfl rfl (xU (l:=[]) qV rfl (Nat.zero_le _))) rfl)) ?_
   refine aO (nv (by decide+kernel) rfl zh) ?_
   exact cu (dC rfl rfl)
  ·rfl
 ·refine B gD ?_;exact Lz j M O
 ·(refine B iR ?_;refine B hM ?_;refine B VC ?_;refine B GO ?_);rfl
end
end Mine
end
section
open PySem
namespace Mine
theorem N7:du "page_faults"=some (aI 39):=by kernel_rfl
section
variable{b:Bool} {C CQ:cs} {n:Nat} {J aX:Scope} {fs fs₁ fs₂ fs₃ hh fs':X} {R:bk} {o:Option (bE×X)} {p:Pos} {m:Nat} {t u:Nat} {per:List H} {tab bJ:cD} {N:Nat} {a6:Int} {x:af}
theorem z6 {c:Int}:eI .NotEq (.int c) (.int c)=some false:=by
 show some (!(c==c))=_;simp
theorem ed.cnt (h:ed tab bJ N a6 x) (hs:cA (x.ai [])):x.oi:=TK.1 x [] h.ex (fun _ _=>List.not_mem_nil) fun q aA an=>(hs q aA).2 an
theorem FP:x.bh.length=(ci (x.ai [])).length:=by(refine bu (pC.1 x []) ?_;refine B (List.length_map _) ?_;rfl)
theorem Fq (h:ed tab bJ N a6 x) (hs:cA (x.ai [])) (aG:per[t]? =some (.V tab)) (b2:per[u]? =some (.V bJ)):aH b (m+5) "page_count" [bB t u] per=some (.ret (.U (.int (ci (x.ai [])).length)),per):=by
 have hc:=h.cnt hs
 refine jn h.node ?_;intro k par cnt kids u;subst u
 refine cl hc ?_;clear hc;intro u;subst u;intro _
 refine bu FP ?_
 exact Kd aG b2 h.i6 (by cases par<;>rfl) (Int.natCast_nonneg _)
theorem GG (h:ed tab bJ N a6 x) (hs:cA (x.ai [])) (aG:per[t]? =some (.V tab)) (b2:per[u]? =some (.V bJ)) {a:Nat} {k:Int} {q:da} (bz:(ci (x.ai []))[a]? =some (k,q)):∃par,aH b (m+6) "page_at" [bB t u,.int a] per=some (.ret (.U (mT k (dW par none (.inl q)))),per):=by
 have hc:=h.cnt hs
 have aq:=h.len
 have fp:=h.fu
 have ln:a<(ci (x.ai [])).length:=(List.getElem?_eq_some_iff.mp bz).1
 refine xE ((XW (b:=b) (CQ:=aH false (m+5)) (n:=19) (m:=m) (t:=t) (u:=u) (per:=per) aG (by refine B h.fS.len ?_;exact Wi fp) (a:=(a:Int))).1 x [] a ml h.ins hc (by refine B FP ?_;exact ln) (by(refine B h.fS.len ?_;refine B List.length_nil ?_);exact It aq) (by unfold ml;exact Wo aq fp)) ?_;intro cY cL par ab' c8 ak ar
 have bP:=congrArg (fun l=>l[a]?) (pC.1 x [])
 (replace bP:=List.getElem?_map▸bP;replace bP:=ar▸bP;replace bP:=bz▸bP)
 cases bP
 refine⟨par,c6 OI ?_⟩
 have r9:=Fq (b:=b) (m:=m) h hs aG b2
 have TQ:=wX (b:=b) (m:=m+2) aG b2 (v:=au a6) (by refine B h.bJ ?_;rfl) (.r6 h.jE rfl)
 have aY:=Gb (b:=b) (m:=m+1) (u:=u) (ab:=[]) aG h.ins
 have aB:=GD (b:=b) (m:=m+2) (u:=u) (k0:=cY) (ab:=ab'.map au) (pg:=true) aG (rm (par:=par) (cnt:=none) (p:=cL)).1 (Nat.le_trans (Nat.le_of_lt (sW (q:=⟨cY,par,none,.inl cL,[]⟩))) (by unfold a4;exact BZ))
 apply dr rfl
 ·refine aO (fs₁:=⟨[("shelf",.U (bB t u)),("at",.U (.int a)),("spot",.U (x.sv []))],per⟩) (dc (dt rfl (bM rfl rfl (bM (gb rfl (dZ rfl rfl rfl rfl rfl TQ) (nh (kk:=.str "Pages") (l:=lx x.num) (x:=au x.num) rfl rfl rfl rfl rfl)) rfl rfl)) aY) rfl) ?_
  refine aO (dc rfl rfl) ?_
  refine aO (co false (iV (vG (z:=true) (c:=.int a) (c':=.U (.int (ci (x.ai [])).length)) rfl rfl rfl rfl (pu (Int.natCast_nonneg _)) (dt rfl rfl r9) rfl rfl (oJ (decide_eq_true (by exact vh ln))))) rfl) ?_
  refine aO (qQ ak) ?_
  exact cu (dC (yo rfl (by decide+kernel) (by decide+kernel) (by decide+kernel) (by decide+kernel) rfl (bM rfl rfl (bM (dt rfl rfl aB) rfl rfl)) rfl) rfl)
 ·rfl
noncomputable def z3 (t u:Nat) (found:List H) (cts:cD) (per:List H):X:=⟨[("shelf",.U (bB t u)),("found",.U (.am found)),("counts",.aD (.V cts)),("faults",.aD (.am []))],per⟩
noncomputable def uQ (t u:Nat) (found:List H) (cts:cD) (s k:H) (per:List H):X:=⟨[("shelf",.U (bB t u)),("found",.U (.am found)),("counts",.aD (.V cts)),("faults",.aD (.am [])),("spot",.U s),("number",.U k)],per⟩
theorem Dd {found:List H} {cts:cD} (aG:per[t]? =some (.V tab)):∀{L:List bg} {fs:X},(fs=z3 t u found cts per\/∃s k,fs=uQ t u found cts s k per)->(∀q∈L,q.par=q.ab.getLast? /\q.ab.length<500/\(q.pg=false->∃c,q.cnt=some c/\ba (.int q.k) cts=some (.int c)))->
  ∃fs',f1 (aJ b (aH b (m+2)) CQ (n+20) (bO (aI 39))) (bO (aI 39)) "spot" (d4 (ce (aI 39) 3)) (L.map fun q=>q.sp.v) fs=some (.next,fs')/\(fs'=z3 t u found cts per\/∃s k,fs'=uQ t u found cts s k per)
 |[],fs,aB,_=>⟨fs,rfl,aB⟩
 |q::L,fs,aB,h=>by
  refine ef (h q List.mem_cons_self) ?_;intro M O Y
  refine bb (Dd (L:=L) (fs:=uQ t u found cts q.sp.v (.int q.k) per) aG (.inr ⟨_,_,rfl⟩) fun r aP=>h r (List.mem_cons_of_mem _ aP)) ?_;intro fs' ak ar
  refine⟨fs',?_,ar⟩
  have an:=BG (b:=b) (m:=m) (per:=per) (Df (q:=q) (.inl M) O (by have:=sW (q:=q);exact CB this))
  have K0:kt q.sp q.par=true:=by unfold kt;exact decide_eq_true M
  replace an:=K0▸an
  have ma:∃fs₁,eL (bO (aI 39)) "spot" (.U q.sp.v) fs=some fs₁/\(aJ b (aH b (m+2)) CQ (n+20) (bO (aI 39))).dg (((d4 (ce (aI 39) 3))[0]?).getD default) fs₁=some (.next,uQ t u found cts q.sp.v (.int q.k) per):=by
   rcases aB with rfl|⟨s,k,rfl⟩<;>exact⟨_,rfl,dc rfl rfl⟩
  refine bb ma ?_;clear ma;intro fs₁ bV cE
  refine fG bV ?_ ak
  refine aO (r:=(d4 (ce (aI 39) 3)).drop 1) cE (aO (co false (iV (t:=true) (j6 (dt rfl rfl an))) rfl) ?_)
  obtain⟨k,par,cnt,e,ab⟩:=q
  cases e with
  |inl p=>
   have aR:ba (.str "MediaBox") (er (dW par cnt (.inl p)))=some (.am [.int 0,.int 0,.int p.w,.int 9]):=(yG (by simp [fY])).trans (by obtain⟨n,w,r⟩:=p;cases r<;>rfl)
   exact aO (co false (n8 rfl) rfl) (aO (co false (kG rfl (cS rfl rfl rfl rfl (Sg (kk:=.str "MediaBox") rfl (by show(!(ba (.str "MediaBox") (er (dW par cnt (.inl p)))).isSome)=false;refine B aR ?_;rfl)) rfl)) rfl) rfl)
  |inr l=>
   refine bb (Y rfl) ?_;intro c eC ez
   have eC:cnt=some c:=eC
   subst eC
   exact aO (co false (kG rfl (cS (dZ rfl rfl rfl rfl rfl (kJ aG (v:=.int c) (by cases par<;>rfl) (.hr rfl))) (f3 rfl rfl rfl rfl (qi (kk:=.int k) rfl ez)) rfl rfl z6 rfl)) rfl) (aO (co false (n8 rfl) rfl) rfl)
end
end Mine
end
section
open PySem
namespace Mine
theorem FS:du "told"=some (aI 15):=by kernel_rfl
theorem Ux:du "Shelf.told"=some (cG 19 5):=by kernel_rfl
section
variable{b:Bool} {C CQ:cs} {n:Nat} {J aX:Scope} {fs fs₁ fs₂ fs₃ hh fs':X} {R:bk} {o:Option (bE×X)} {p:Pos} {m:Nat} {t u:Nat} {per:List H} {tab bJ:cD} {N:Nat} {a6:Int} {x:af}
theorem UU (h:ed tab bJ N a6 x) (hs:cA (x.ai [])) (aG:per[t]? =some (.V tab)) (b2:per[u]? =some (.V bJ)):aH b (m+6) "page_faults" [bB t u] per=some (.ret (.own (.am [])),per):=by
 have aq:=h.len
 have fp:=h.fu
 have ak:=ub (b:=b) (m:=m) aG b2 h.i6
 replace ak:=we▸ak
 have ar:aH b (m+5) "counts_of" [.am ((x.ai []).map fun q=>q.sp.v)] per=some (.ret (.own (.V (mR ((x.ai []).map bg.sp)))),per):=by
  have bx:∀y∈(x.ai []).map bg.sp,∀k∈y.ab,gu (((x.ai []).map bg.sp).foldl g9 []) k:=by
   intro y aQ k ag
   refine bb (List.mem_map.mp aQ) ?_;intro q aA u;subst u
   refine et (ua.1 x [] q aA) ?_;intro dR ak _ ar
   have ag:k∈q.ab:=ag
   (replace ag:=ak▸ag;replace ag:=(List.nil_append _)▸ag)
   refine bb (List.mem_map.mp (ar k ag)) ?_;intro cL mM u;subst u
   exact⟨_,tF h.ex cL mM⟩
  have ay:((x.ai []).map fun q=>q.sp.v)=((x.ai []).map bg.sp).map cR.v:=by refine B List.map_map ?_;rfl
  have jb:((x.ai []).map bg.sp).length<900:=by refine B (List.length_map _) ?_;exact Cs aq fp
  have b1:∃s r,(x.ai []).map bg.sp=s::r:=by
   refine jn h.node ?_;intro k par cnt kids u;subst u
   exact⟨_,_,rfl⟩
  refine jf b1 ?_;clear b1;intro s r tL
  refine B ay ?_
  rw [tL] at bx jb|-
  exact D2 (m:=m+4) jb bx
 obtain⟨fs',bP,cW⟩:=Dd (b:=b) (CQ:=aH false (m+5)) (n:=19) (m:=m+3) (u:=u) (found:=(x.ai []).map fun q=>q.sp.v) (cts:=mR ((x.ai []).map bg.sp)) aG (L:=x.ai []) (.inl rfl) fun q aA=>by
  refine et (ua.1 x [] q aA) ?_;intro dR bH b7 _
  refine⟨(hs q aA).1,by(refine B bH ?_;refine B (List.nil_append _) ?_);exact Dv aq fp b7,fun an=>⟨_,(hs q aA).2 an,?_⟩⟩
  have:=w4 (L:=x.ai []) (tF (d:=[]) h.ex q aA)
  replace this:=an▸this
  refine this.trans ?_
  simp
 refine c6 N7 ?_
 have mz:getL "faults" fs'.loc=some (.aD (.am []))/\fs'.per=per:=by
  rcases cW with rfl|⟨s,k,rfl⟩<;>exact⟨rfl,rfl⟩
 apply dr rfl
 ·refine aO (fC (dt rfl (bM rfl rfl rfl) ak) rfl) ?_
  refine aO (fC (dt rfl (bM rfl rfl rfl) ar) rfl) ?_
  refine aO (fC rfl rfl) ?_
  refine aO (g7 (hl rfl (ds (r:=.U (.am ((x.ai []).map fun q:bg=>q.sp.v))) rfl rfl)) bP) ?_
  exact cu (q6 rfl (by decide+kernel) mz.1)
 ·exact mz.2
theorem r3 {v:List H}:aH b (m+1) "told_objects" v per=aH b (m+1) "told" v per:=by kernel_rfl
theorem FD {i:Int}:aH b (m+2) "told" [au i] per=some (.ret (.U (.aF [.str "ref",.int i,.int 0])),per):=by kernel_rfl
theorem Ck {s:Str}:aH b (m+2) "told" [gz s] per=some (.ret (.U (.aF [.str "name",.str s])),per):=by kernel_rfl
theorem E5 {i:Int}:aH b (m+2) "told" [.int i] per=some (.ret (.U (.aF [.str "int",.int i])),per):=by kernel_rfl
theorem SZ {l:List H}:aH b (m+1) "kind_of" [.am l] per=some (.ret (.U (.str "array")),per):=by kernel_rfl
theorem Ri {l:cD}:aH b (m+1) "kind_of" [.V l] per=some (.ret (.U (.str "dict")),per):=by kernel_rfl
theorem vf {elt:Expr} {x:Str} {L:List (Str×cf)} {l:List (H×H)}:∀{fs:X},(∀e∈l,d0 R elt ⟨bX x (.U e.1) L,per⟩=some (e.2,⟨bX x (.U e.1) L,per⟩))->(fs=⟨L,per⟩\/∃w,fs=⟨bX x w L,per⟩)->∃cZ,ga R x [] elt (l.map Prod.fst) fs=some (l.map Prod.snd,⟨cZ,per⟩):=by
 induction l with
 |nil=>exact fun _ aB=>rY aB
 |cons v r ih=>exact fun h aB=>(ih (fun y aQ=>h y (List.mem_cons_of_mem _ aQ)) (.inr ⟨.U v.1,rfl⟩)).elim fun l e=>⟨l,vW ((congrArg (d0 R elt) (qR v.1 aB)).trans (h v List.mem_cons_self)) e⟩
theorem NU {elt c:Expr} {x:Str} {L:List (Str×cf)} {l:List (H×H)}:∀{fs:X},(∀e∈l,R.dH c ⟨bX x (.U e.1) L,per⟩=some (true,⟨bX x (.U e.1) L,per⟩)/\d0 R elt ⟨bX x (.U e.1) L,per⟩=some (e.2,⟨bX x (.U e.1) L,per⟩))->(fs=⟨L,per⟩\/∃w,fs=⟨bX x w L,per⟩)->∃cZ,ga R x [c] elt (l.map Prod.fst) fs=some (l.map Prod.snd,⟨cZ,per⟩):=by
 induction l with
 |nil=>exact fun _ aB=>rY aB
 |cons v r ih=>exact fun h aB=>(ih (fun y aQ=>h y (List.mem_cons_of_mem _ aQ)) (.inr ⟨.U v.1,rfl⟩)).elim fun l e=>⟨l,bd ((congrArg (R.dH c) (qR v.1 aB)).trans (h v List.mem_cons_self).1) (bd (h v List.mem_cons_self).2 (bd e rfl))⟩
noncomputable def qX (i:Nat):Expr×List Expr×Scope:=(ek (iE (d4 (ce (aI 15) i)) 0) [1,1,0],[ek (iE (d4 (ce (aI 15) i)) 0) [1,1,2]],iv (ek (iE (d4 (ce (aI 15) i)) 0) [1,1]))
theorem Xj {l:List (H×H)} (h:∀e∈l,aH b (m+1) "told" [e.1] per=some (.ret (.U e.2),per)) (aE:∀e∈l,iH e.1=true) (aq:l.length<900):aH b (m+2) "told" [.am (l.map Prod.fst)] per=some (.ret (.U (.aF (.str "array"::l.map Prod.snd))),per):=by
 refine c6 FS ?_
 obtain⟨cZ,e⟩:=vf (R:=aJ b (aH b (m+1)) (aH false (m+1)) 35 (qX 1).2.2) (per:=per) (elt:=(qX 1).1) (x:="part") (L:=[]) (l:=l) (fs:=⟨[],per⟩)
  (fun e aW=>ds (dt rfl (bM rfl rfl rfl) (r3.trans (h e aW))) rfl) (.inl rfl)
 have M:gH "tuple" (.am (l.map Prod.snd))=some (.U (.aF (l.map Prod.snd))):=wQ (by refine B (List.length_map _) ?_;unfold a4;exact j9 aq)
 apply dr rfl
 ·refine aO (dc (dt rfl rfl SZ) rfl) ?_
  exact cu (co true rfl (cu (dC (dB rfl (e9 rfl (hS (hl rfl (ds (r:=.U (.am (l.map Prod.fst))) rfl rfl)) (by refine B (List.length_map _) ?_;unfold a4;exact j9 aq) rfl e) rfl M) rfl rfl (ud (x:=[.str "array"]) (y:=l.map Prod.snd) (by refine B (List.length_map _) ?_;unfold a4;simp;exact Fj aq))) rfl)))
 ·rfl
end
end Mine
end
section
open PySem
namespace Mine
noncomputable def gM:Nat->H->Bool
 |0,_=>false
 |_+1,.int _=>true
 |_+1,.str _=>true
 |n+1,.aF l=>l.all (gM n)
 |_,_=>false
theorem Dq {f:H->H->Option Bool} (l:List H) (h:∀x∈l,f x x=some true):l1 f l l=some true:=by
 induction l with
 |nil=>rfl
 |cons x r ih=>
  exact i8 (h x List.mem_cons_self) (ih fun y aQ=>h y (List.mem_cons_of_mem _ aQ)) rfl
theorem xx (n:Nat):∀{v:H},gM n v=true->eR n v v=some true:=by
 induction n with
 |zero=>intro v h;cases h
 |succ n ih=>
  intro v h
  cases v with
  |int i=>show some (i==i)=_;(refine B (beq_self_eq_true _) ?_;rfl)
  |str s=>show some (s==s)=_;(refine B (beq_self_eq_true _) ?_;rfl)
  |aF l=>exact Dq l fun x ae=>ih (List.all_eq_true.mp h x ae)
  |_=>cases h
theorem eq_self {l:List H} (h:gM eF (.aF l)=true):eI .Eq (.aF l) (.aF l)=some true:=xx _ h
theorem VR {l:List H} (h:gM eF (.aF l)=true):eI .NotEq (.aF l) (.aF l)=some false:=by
 show(eR eF (.aF l) (.aF l)).map (!·)=_
 refine B (xx _ h) ?_;rfl
noncomputable def lp (i:Int):H:=.aF [.str "int",.int i]
noncomputable def hO (i:Int):H:=.aF [.str "ref",.int i,.int 0]
noncomputable def kl (s:Str):H:=.aF [.str "name",.str s]
noncomputable def UC (w:Int):H:=.aF [.str "array",lp 0,lp 0,lp w,lp 9]
section
variable{b:Bool} {C CQ:cs} {n:Nat} {J aX:Scope} {fs fs₁ fs₂ fs₃ hh fs':X} {R:bk} {o:Option (bE×X)} {p:Pos} {m:Nat} {t u:Nat} {per:List H} {tab bJ:cD} {N:Nat} {a6:Int} {x:af}
theorem G3 {d:cD} {l:List (Str×H)} (M:gH "sorted" (.V d)=some (.own (.am (l.map fun e=>.str e.1)))) (h:∀e∈l,∃v,ba (.str e.1) d=some v/\fE v=false/\iH v=true/\aH b (m+1) "told" [v] per=some (.ret (.U e.2),per)) (aq:l.length<900):
  aH b (m+2) "told" [.V d] per=some (.ret (.U (.aF (.str "dict"::l.map fun e=>.aF [.str e.1,e.2]))),per):=by
 refine c6 FS ?_
 obtain⟨cZ,e⟩:=NU (R:=aJ b (aH b (m+1)) (aH false (m+1)) 35 (qX 2).2.2) (per:=per) (elt:=(qX 2).1) (c:=(qX 2).2.1.headD default) (x:="key") (L:=[("value",.U (.V d))]) (l:=l.map fun e=>(.str e.1,.aF [.str e.1,e.2])) (fs:=⟨[("value",.U (.V d))],per⟩)
  (fun e aW=>by
   obtain⟨⟨k,w⟩,hv,rfl⟩:=List.mem_map.mp aW
   refine gn (h _ hv) ?_;intro v bH b7 c7 fl
   exact⟨cS (f3 rfl rfl rfl rfl (qi (kk:=.str k) rfl bH)) rfl (uh c7) rfl (x:=true) (by show some (!fE v)=_;refine B b7 ?_;rfl) rfl,
    ds (kx (bM rfl rfl (bM (dt rfl (bM (f3 rfl rfl rfl rfl (qi (kk:=.str k) rfl bH)) rfl rfl) (r3.trans fl)) rfl rfl)) (Nat.le_of_ble_eq_true rfl)) rfl⟩) (.inl rfl)
 (replace e:=List.map_map▸e;replace e:=List.map_map▸e)
 have O:gH "tuple" (.am (l.map (Prod.snd∘fun e:Str×H=>(H.str e.1,H.aF [.str e.1,e.2]))))=some (.U (.aF (l.map fun e=>.aF [.str e.1,e.2]))):=wQ (by refine B (List.length_map _) ?_;unfold a4;exact j9 aq)
 apply dr rfl
 ·refine aO (dc (dt rfl rfl Ri) rfl) ?_
  refine aO (co false rfl rfl) ?_
  exact cu (co true rfl (cu (dC (dB rfl (e9 rfl (hS (hl rfl (ds (e9 rfl (fs₁:=⟨[("value",.U (.V d)),("kind",.U (.str "dict"))],per⟩) (r:=.U (.V d)) rfl rfl M) rfl)) (by refine B (List.length_map _) ?_;unfold a4;exact j9 aq) rfl e) rfl O) rfl rfl (ud (x:=[.str "dict"]) (y:=l.map fun e=>.aF [.str e.1,e.2]) (by refine B (List.length_map _) ?_;unfold a4;simp;exact Fj aq))) rfl)))
 ·rfl
noncomputable def gm (p:da) (wr:List H) (par:Option Int):H:=.aF (.str "dict"::.aF [.str "MediaBox",UC p.w]::.aF [.str "N",lp p.n]::((par.map fun j=>H.aF [.str "Parent",hO j]).toList++((if p.kq then [.aF [.str "Rotate",lp 90]] else [])++wr)))
theorem Yh {p:da} {par:Option Int}:aH b (m+5) "told" [.V (dW par none (.inl p))] per=some (.ret (.U (gm p [.aF [.str "Type",kl "Page"]] par)),per):=by
 obtain⟨n,w,r⟩:=p
 cases r<;>cases par<;>kernel_rfl
theorem WC {p:da}:aH b (m+5) "told" [.V p.d] per=some (.ret (.U (gm p [] none)),per):=by
 obtain⟨n,w,r⟩:=p
 cases r<;>kernel_rfl
noncomputable def BE (par:Option Int) (c:Int) (l:List Int):H:=.aF (.str "dict"::.aF [.str "Count",lp c]::.aF [.str "Kids",.aF (.str "array"::l.map hO)]::((par.map fun j=>H.aF [.str "Parent",hO j]).toList++[.aF [.str "Type",kl "Pages"]]))
theorem PF {par:Option Int} {c:Int} {l:List Int} (aq:l.length<900):aH b (m+5) "told" [.V (dW par (some c) (.inr l))] per=some (.ret (.U (BE par c l)),per):=by
 have ag:=Xj (b:=b) (m:=m+2) (per:=per) (l:=l.map fun i=>(au i,hO i)) (fun e aW=>by obtain⟨i,_,rfl⟩:=List.mem_map.mp aW;exact FD (m:=m+1)) (fun e aW=>by obtain⟨i,_,rfl⟩:=List.mem_map.mp aW;rfl) (by refine B (List.length_map _) ?_;exact aq)
 (replace ag:=List.map_map▸ag;replace ag:=List.map_map▸ag)
 cases par with
 |none=>
  refine G3 (m:=m+3) (l:=[("Count",lp c),("Kids",.aF (.str "array"::l.map hO)),("Type",kl "Pages")]) (by kernel_rfl) (fun e aW=> ?_) (Nat.le_of_ble_eq_true rfl)
  simp only [List.mem_cons,List.not_mem_nil,or_false] at aW
  rcases aW with rfl|rfl|rfl
  ·exact⟨_,rfl,rfl,rfl,E5 (m:=m+2)⟩
  ·exact⟨_,rfl,rfl,rfl,ag⟩
  ·exact⟨_,rfl,rfl,rfl,Ck (m:=m+2)⟩
 |some j=>
  refine G3 (m:=m+3) (l:=[("Count",lp c),("Kids",.aF (.str "array"::l.map hO)),("Parent",hO j),("Type",kl "Pages")]) (by kernel_rfl) (fun e aW=> ?_) (Nat.le_of_ble_eq_true rfl)
  simp only [List.mem_cons,List.not_mem_nil,or_false] at aW
  rcases aW with rfl|rfl|rfl|rfl
  ·exact⟨_,rfl,rfl,rfl,E5 (m:=m+2)⟩
  ·exact⟨_,rfl,rfl,rfl,ag⟩
  ·exact⟨_,rfl,rfl,rfl,FD (m:=m+2)⟩
  ·exact⟨_,rfl,rfl,rfl,Ck (m:=m+2)⟩
theorem Ir {k:Int}:aH b (m+5) "told" [.V (lx k)] per=some (.ret (.U (.aF [.str "dict",.aF [.str "Pages",hO k],.aF [.str "Type",kl "Catalog"]])),per):=by kernel_rfl
theorem x1 {p:da} {s:Str} {k:Nat} {par:Option Int}:gM (k+8) (gm p [.aF [.str "Type",kl s]] par)=true/\gM (k+8) (gm p [] par)=true:=by
 obtain⟨n,w,r⟩:=p
 cases r<;>cases par<;>exact⟨rfl,rfl⟩
theorem Mg {k:Nat} {par:Option Int} {c:Int} {l:List Int}:gM (k+8) (BE par c l)=true:=by
 have h:(l.map hO).all (gM (k+5))=true:=by
  refine B List.all_map ?_
  exact List.all_eq_true.mpr fun _ _=>rfl
 have O:gM (k+6) (.aF (.str "array"::l.map hO))=true:=by
  show(true&&(l.map hO).all (gM (k+5)))=true
  refine B h ?_;rfl
 cases par
 ·show(true&&(true&&((true&&(gM (k+6) (.aF (.str "array"::l.map hO))&&true))&&true)))=true
  refine B O ?_;rfl
 ·show(true&&(true&&((true&&(gM (k+6) (.aF (.str "array"::l.map hO))&&true))&&true)))=true
  refine B O ?_;rfl
end
end Mine
end
section
open PySem
namespace Mine
theorem TC {a:Int} (l:List Int) (h:∀b∈l,¬a<b):jM a l=l++[a]:=by
 induction l with
 |nil=>rfl
 |cons b r ih=>
  unfold jM
  (refine B (if_neg (h b List.mem_cons_self)) ?_;refine B (ih fun c hc=>h c (List.mem_cons_of_mem _ hc)) ?_);rfl
noncomputable def hZ (N:Nat):List Int:=(List.range N).map fun(i:Nat)=>(i:Int)+1
theorem Tq {N:Nat}:hZ (N+1)=hZ N++[(N:Int)+1]:=by unfold hZ;(refine B List.range_succ ?_;refine B List.map_append ?_);rfl
theorem G0 {N:Nat} {j:Int} (h:j∈hZ N):1<=j/\j<=N:=by
 refine bb (List.mem_map.mp h) ?_;intro i M u;subst u
 have:=List.mem_range.mp M
 exact HE this
theorem SX (N:Nat):qx (hZ N)=hZ N:=by
 induction N with
 |zero=>rfl
 |succ N ih=>
  unfold qx at ih|-
  (refine B Tq ?_;refine B List.foldl_append ?_;refine B ih ?_)
  exact TC _ fun b ah=>by have:=G0 ah;exact Ss this
theorem Tp {l:cD}:∀{ns:List Int},l.map (·.1)=ns.map al.int->oB l=some ns:=by
 induction l with
 |nil=>intro ns h;cases ns<;>first|rfl|cases h
 |cons a r ih=>
  intro ns h
  cases ns with
  |nil=>cases h
  |cons i t=>exact i8 (congrArg Eg (List.cons.inj h).1) (ih (List.cons.inj h).2) rfl
theorem Ia {α:Type} {P:α->H->Prop} (L:List α) (h:∀a∈L,∃w,P a w):∃l:List (α×H),l.map Prod.fst=L/\∀e∈l,P e.1 e.2:=by
 induction L with
 |nil=>exact⟨[],rfl,fun e aW=>(List.not_mem_nil aW).elim⟩
 |cons a r ih=>
  refine bT (h a List.mem_cons_self) ?_;intro w d9
  refine bb (ih fun b ah=>h b (List.mem_cons_of_mem _ ah)) ?_;intro l M O
  refine⟨(a,w)::l,by(refine B List.map_cons ?_;refine B M ?_;rfl),fun e aW=> ?_⟩
  rcases List.mem_cons.mp aW with rfl|aW
  ·exact d9
  ·exact O e aW
section
variable{b:Bool} {C CQ:cs} {n:Nat} {J aX:Scope} {fs fs₁ fs₂ fs₃ hh fs':X} {R:bk} {o:Option (bE×X)} {p:Pos} {m:Nat} {t u:Nat} {per:List H} {tab bJ:cD} {N:Nat} {a6:Int} {x:af}
theorem QA (aG:per[t]? =some (.V tab)) (ag:fZ tab N) (aL:0<N) (dm:N<64):aH b (m+1) "Shelf.numbers" [bB t u] per=some (.ret (.own (.am ((hZ N).map .int))),per):=by
 refine c6 Us ?_
 have M:gH "sorted" (.V tab)=some (.own (.am ((hZ N).map .int))):=by
  have sF:tab.map (·.1)=(hZ N).map al.int:=by refine B ag ?_;unfold hZ;refine B List.map_map ?_;rfl
  (refine B (Lx (by rw [ag.len];exact dm) (Tp sF)) ?_;refine B (SX _) ?_;rfl)
 apply dr rfl
 ·exact cu (dC (e9 rfl rfl aG M) rfl)
 ·rfl
theorem LQ (h:ed tab bJ N a6 x) (hc:j7 N a6 x) (hs:cA (x.ai [])) {j:Int} (bF:j∈hZ N):∃v w,ba (.int j) tab=some (.aF [.int 0,v])/\iH v=true/\(∀b m per,aH b (m+5) "told" [v] per=some (.ret (.U w),per))/\∀k,gM (k+8) w=true:=by
 refine cl (G0 bF) ?_;intro M O
 rcases hc j M O with rfl|aY
 ·exact⟨_,_,h.jE,rfl,fun _ _ _=>Ir,fun k=>rfl⟩
 ·refine bb (List.mem_map.mp aY) ?_;intro q aA u;subst u
  have bi:=h.ins q aA
  have eO:=hs q aA
  have ke:=yE.1 x [] q aA
  have aq:=h.len
  have fp:=h.fu
  obtain⟨k,par,cnt,e,ab⟩:=q
  cases e with
  |inl p=>exact⟨_,_,bi,rfl,fun _ _ _=>Yh,fun k=>x1.1⟩
  |inr l=>
   obtain⟨c,hc⟩:∃c,cnt=some c:=⟨_,eO.2 rfl⟩
   have jb:=(ke l rfl).length_le
   unfold cz at jb
   replace jb:=(List.length_map _)▸jb
   subst hc
   exact⟨_,_,bi,rfl,fun _ _ _=>PF (by exact A4 aq fp jb),fun k=>Mg⟩
noncomputable def wc:Expr×Scope:=(ek (ce (cG 19 5) 0) [1,0],iv (ek (ce (cG 19 5) 0) [1]))
noncomputable def c3 (pn:H) (tab:cD) (a6:Int) (rest:List H):List H:=pn::.V tab::.V [(.str "Root",au a6)]::rest
theorem PW {pn:H} {rest:List H}:aH b (m+5) "told" [.per 2] (c3 pn tab a6 rest)=some (.ret (.U (.aF [.str "dict",.aF [.str "Root",hO a6]])),c3 pn tab a6 rest):=by kernel_rfl
theorem Kq {pn:H} {rest:List H} (h:ed tab [(.str "Root",au a6)] N a6 x) (hc:j7 N a6 x) (hs:cA (x.ai [])) (dm:N<64):∃l,(∀b m,aH b (m+6) "Shelf.told" [bB 1 2] (c3 pn tab a6 rest)=some (.ret (.U (.aF l)),c3 pn tab a6 rest))/\gM eF (.aF l)=true:=by
 have aL:0<N:=by have:=h.fS.at (j:=a6) (by refine B h.jE ?_;rfl);exact SD this
 obtain⟨l,h0,jA⟩:=Ia (P:=fun j w=>∃v,ba (.int j) tab=some (.aF [.int 0,v])/\iH v=true/\(∀b m per,aH b (m+5) "told" [v] per=some (.ret (.U w),per))/\∀k,gM (k+8) w=true) (hZ N) fun j bF=>by
  refine jf (LQ h hc hs bF) ?_;intro v w e
  exact⟨w,v,e⟩
 have jb:l.length=N:=by(refine bu (List.length_map (f:=Prod.fst)) ?_;refine B h0 ?_);unfold hZ;(refine B (List.length_map _) ?_;refine B List.length_range ?_;rfl)
 have O:gH "tuple" (.am (l.map (Prod.snd∘fun e:Int×H=>(H.int e.1,H.aF [.int e.1,.int 0,e.2]))))=some (.U (.aF (l.map (Prod.snd∘fun e:Int×H=>(H.int e.1,H.aF [.int e.1,.int 0,e.2]))))):=wQ (by refine B (List.length_map _) ?_;unfold a4;exact MH dm jb)
 refine⟨[.aF (l.map (Prod.snd∘fun e:Int×H=>(H.int e.1,H.aF [.int e.1,.int 0,e.2]))),.aF [.str "dict",.aF [.str "Root",hO a6]]],fun b m=>c6 Ux ?_,?_⟩
 ·have aE:=QA (b:=b) (m:=m+4) (u:=2) (per:=c3 pn tab a6 rest) (t:=1) rfl h.fS aL dm
  obtain⟨cZ,e⟩:=vf (R:=aJ b (aH b (m+5)) (aH false (m+5)) 37 wc.2) (per:=c3 pn tab a6 rest) (elt:=wc.1) (x:="number") (L:=[("self",.U (bB 1 2))]) (l:=l.map fun e=>(.int e.1,.aF [.int e.1,.int 0,e.2])) (fs:=⟨[("self",.U (bB 1 2))],c3 pn tab a6 rest⟩)
   (fun e aW=>by
    obtain⟨⟨j,w⟩,hv,rfl⟩:=List.mem_map.mp aW
    refine gn (jA _ hv) ?_;intro v bH b7 c7 _
    have FY:∀{n gU hB iN jU fs},fs=(⟨bX "number" (.U (.int j)) [("self",.U (bB 1 2))],c3 pn tab a6 rest⟩:X)->(aJ b (aH b (m+5)) (aH false (m+5)) (n+3) wc.2).a9 (.Subscript (.Attribute (.Name "self" gU) "table" hB) (.Name "number" iN) jU) fs=some (.U (.aF [.int 0,v]),fs):=fun{n gU hB iN jU fs} e=>by
     subst e
     exact f3 rfl (r:=.U (.per 1)) (v:=.V tab) rfl rfl rfl (qi (kk:=.int j) rfl bH)
    exact ds (kx (bM rfl rfl (bM (f3 rfl (r:=.U (.aF [.int 0,v])) (k:=.int 0) (v:=.aF [.int 0,v]) (FY rfl) rfl rfl rfl) rfl (bM (dt rfl (bM (f3 rfl (r:=.U (.aF [.int 0,v])) (k:=.int 1) (v:=.aF [.int 0,v]) (FY rfl) rfl rfl rfl) rfl rfl) (r3.trans (c7 _ _ _))) rfl rfl))) (Nat.le_of_ble_eq_true rfl)) rfl) (.inl rfl)
  (replace e:=List.map_map▸e;replace e:=List.map_map▸e)
  have aR:l.map (Prod.fst∘fun e:Int×H=>(H.int e.1,H.aF [.int e.1,.int 0,e.2]))=(hZ N).map .int:=by(refine bu h0 ?_;refine B List.map_map ?_);rfl
  replace e:=aR▸e
  apply dr rfl
  ·refine aO (dc (e9 rfl (hS (hl rfl (ds (dZ rfl rfl rfl rfl rfl aE) rfl)) (by refine B (List.length_map _) ?_;unfold hZ;(refine B (List.length_map _) ?_;refine B List.length_range ?_);unfold a4;exact O4 dm) rfl e) rfl O) rfl) ?_
   exact cu (dC (kx (bM rfl rfl (bM (dt rfl rfl (r3.trans PW)) rfl rfl)) (Nat.le_of_ble_eq_true rfl)) rfl)
  ·rfl
 ·show((l.map _).all (gM 30)&&true)=true
  (refine B (Bool.and_true _) ?_;refine B List.all_map ?_)
  refine List.all_eq_true.mpr fun e aW=> ?_
  refine gn (jA e aW) ?_;intro _ _ _ _ an
  show(true&&(true&&(gM 29 e.2&&true)))=true
  refine B (an 21) ?_;rfl
end
end Mine
end
section
open PySem
namespace Mine
theorem NN:du "_law_refused"=some (aI 54):=by kernel_rfl
theorem Xn:du "_law_seen"=some (aI 53):=by kernel_rfl
section
variable{b:Bool} {C CQ:cs} {n:Nat} {J aX:Scope} {fs fs₁ fs₂ fs₃ hh fs':X} {R:bk} {o:Option (bE×X)} {p:Pos} {m:Nat} {t u:Nat} {per:List H} {tab bJ:cD} {N:Nat} {a6:Int} {x:af}
theorem S8 {body h:List Stmt} {iU:Stmt} {c:Str} {q bn:Pos} {r:aU} (hc:(c=("TreeFault":Str)&&J.names.lookup c==some .globalImplicit&&J.names.all (fun p=>p.2 !=.free))=true) (ah:cO (aJ true C CQ n J) body fs=some (.dA,fs₁)) (bx:cO (aJ false CQ CQ n J) (iU::h) fs₁=some (.ret r,fs₂)):
  (aJ true C CQ (n+1) J).dg (.Try body [.ExceptHandler (some (.Name c q)) none (iU::h) bn] [] [] p) fs=some (.ret r,fs₂):=by
 simp only [Bool.and_eq_true] at hc
 exact bp rfl (bd rfl (cQ (by simp only [Bool.and_eq_true];exact⟨hc.1.1,hc.1.2,hc.2,rfl⟩) (bd ah (bd bx (bp rfl rfl)))))
theorem A5 {pn:H} {rest:List H} (h:ed tab [(.str "Root",au a6)] N a6 x) (hc:j7 N a6 x) (hs:cA (x.ai [])) (dm:N<64) {a:Int} (bz:a<0\/((ci (x.ai [])).length:Int)<a):
  aH true (m+8) "_law_refused" [bB 1 2,.int a] (c3 pn tab a6 rest)=some (.ret (.U (.bool true)),c3 pn tab a6 rest):=by
 refine c6 NN ?_
 refine bb (Kq (pn:=pn) (rest:=rest) h hc hs dm) ?_;intro l ak ar
 have ae:=Oc (m:=m+6) (pd:=.V [(.str "N",.int 1)]) rfl (Kp (m:=m) (t:=1) (u:=2) (per:=c3 pn tab a6 rest) rfl rfl h.i6 (by refine B ze ?_;exact bz))
 apply dr rfl
 ·refine aO (dc (dZ rfl rfl rfl rfl rfl (ak _ (m+1))) rfl) ?_
  exact cu (S8 rfl (qf (Eo (by decide+kernel) (bM rfl rfl (bM rfl rfl (bM (CA rfl) rfl rfl))) ae)) (cu (dC (vT (dZ rfl rfl rfl rfl rfl (ak _ (m+1))) rfl rfl rfl (eq_self ar)) rfl)))
 ·rfl
end
end Mine
end
section
open PySem
namespace Mine
section
variable{b:Bool} {C CQ:cs} {n:Nat} {J aX:Scope} {fs fs₁ fs₂ fs₃ hh fs':X} {R:bk} {o:Option (bE×X)} {p:Pos} {m:Nat} {t u:Nat} {per:List H} {tab bJ:cD} {N:Nat} {a6:Int} {x:af}
noncomputable def L7 (t u:Nat) (found:List H) (per:List H):X:=⟨[("shelf",.U (bB t u)),("found",.aD (.am found))],per⟩
noncomputable def rC (t u:Nat) (found:List H) (pg:H) (per:List H):X:=⟨[("shelf",.U (bB t u)),("found",.aD (.am found)),("page",.U pg)],per⟩
noncomputable def Hy:Expr:=ek (iE (d4 (ce (aI 53) 1)) 0) [1]
theorem P0 {found:List H} {k:Int} {p:da} {par:Option Int}:(aJ b (aH b (m+6)) CQ 37 (bO (aI 53))).a9 Hy (rC t u found (mT k (dW par none (.inl p))) per)=some (.U (gm p [.aF [.str "Type",kl "Page"]] none),rC t u found (mT k (dW par none (.inl p))) per):=by
 obtain⟨n,w,r⟩:=p
 cases r<;>cases par<;>kernel_rfl
theorem BB:∀{l:List (Int×da×Option Int)} {found:List H} {fs:X},(fs=L7 t u found per\/∃pg,fs=rC t u found pg per)->found.length+l.length<900->
  ∃fs',f1 (aJ b (aH b (m+6)) CQ 39 (bO (aI 53))) (bO (aI 53)) "page" (d4 (ce (aI 53) 1)) (l.map fun e=>mT e.1 (dW e.2.2 none (.inl e.2.1))) fs=some (.next,fs')/\getL "found" fs'.loc=some (.aD (.am (found++l.map fun e=>gm e.2.1 [.aF [.str "Type",kl "Page"]] none)))/\fs'.per=per
 |[],found,fs,aB,_=>by
  refine⟨fs,rfl,?_⟩
  (refine B List.map_nil ?_;refine B (List.append_nil _) ?_)
  rcases aB with rfl|⟨pg,rfl⟩<;>exact⟨rfl,rfl⟩
 |(k,p,par)::l,found,fs,aB,aq=>by
  simp only [List.length_cons] at aq
  refine et (BB (l:=l) (found:=found++[gm p [.aF [.str "Type",kl "Page"]] none]) (fs:=rC t u (found++[gm p [.aF [.str "Type",kl "Page"]] none]) (mT k (dW par none (.inl p))) per) (.inr ⟨_,rfl⟩) (by simp;exact Ep aq)) ?_;intro fs' ak ar bP
  rw [List.append_assoc] at ar
  refine⟨fs',?_,ar,bP⟩
  have ma:eL (bO (aI 53)) "page" (.U (mT k (dW par none (.inl p)))) fs=some (rC t u found (mT k (dW par none (.inl p))) per):=by
   rcases aB with rfl|⟨pg,rfl⟩<;>rfl
  exact fG ma (aO (nz (gb rfl rfl (rd (l:=found) rfl (bM P0 rfl rfl) rfl (by unfold a4;exact Ge aq)))) rfl) ak
noncomputable def s6 (q:bg):Option (Int×da×Option Int):=match q.c with
 |.inl p=>some (q.k,p,q.par)
 |.inr _=>none
theorem Bl (h:ed tab bJ N a6 x) (aG:per[t]? =some (.V tab)) (b2:per[u]? =some (.V bJ)):aH b (m+8) "_law_seen" [bB t u] per=some (.ret (.own (.am (((ci (x.ai [])).map Prod.snd).map fun p=>gm p [.aF [.str "Type",kl "Page"]] none))),per):=by
 have aq:=h.len
 have fp:=h.fu
 have key:∀L:List bg,((L.filter bg.pg).map fun q=>q.sp.v).map zR=(L.filterMap s6).map (fun e=>mT e.1 (dW e.2.2 none (.inl e.2.1)))/\(ci L).map Prod.snd=(L.filterMap s6).map fun e=>e.2.1:=by
  intro L
  induction L with
  |nil=>exact⟨rfl,rfl⟩
  |cons q L ih=>
   obtain⟨k,par,cnt,e,ab⟩:=q
   cases e with
   |inl p=>exact⟨congrArg (List.cons _) ih.1,congrArg (List.cons _) ih.2⟩
   |inr l=>exact ih
 refine cl (key (x.ai [])) ?_;intro k1 k2
 have an:=Lr (b:=b) (m:=m) aG b2 h.i6 (by
  refine B tb ?_
  intro v ay
  refine bb (List.mem_map.mp ay) ?_;intro q aA u;subst u
  refine cl (List.mem_filter.mp aA) ?_;intro Yr UV
  refine⟨_,_,_,_,rfl,?_,Nat.le_trans (Nat.le_of_lt (sW (q:=q))) (by unfold a4;exact BZ)⟩
  obtain⟨k,par,cnt,e,ab⟩:=q
  cases e with
  |inl p=>exact(rm (cnt:=cnt)).1
  |inr l=>cases UV)
 (replace an:=tb▸an;replace an:=k1▸an)
 refine et (BB (b:=b) (CQ:=aH false (m+7)) (m:=m+1) (t:=t) (u:=u) (per:=per) (l:=(x.ai []).filterMap s6) (found:=[]) (.inl rfl) (by have:=List.length_filterMap_le s6 (x.ai []);simp only [List.length_nil];exact V7 aq fp this)) ?_;intro fs' ak ar bP
 (refine B k2 ?_;refine B List.map_map ?_)
 refine c6 Xn ?_
 apply dr rfl
 ·refine aO (fC rfl rfl) ?_
  refine aO (g7 (hl rfl (ds (dt rfl rfl an) rfl)) ak) ?_
  exact cu (q6 rfl (by decide+kernel) ar)
 ·exact bP
end
end Mine
end
section
open PySem
namespace Mine
theorem F2:du "_law_draw"=some (aI 50):=by kernel_rfl
theorem Om:du "_law_pen"=some (aI 49):=by kernel_rfl
noncomputable def cw (cells:List Int) (s:Nat) (d:Int):H:=.am [.am (cells.map .int),.int s,.int d]
theorem qr (x:Int) {y:Int} (h:0<y):0<=x.fmod y/\x.fmod y<y:=by
 refine B (Int.fmod_eq_emod_of_nonneg _ (by exact Ti h)) ?_
 exact⟨Int.emod_nonneg _ (by exact Uh h),Int.emod_lt_of_pos _ h⟩
section
variable{b:Bool} {C CQ:cs} {n:Nat} {J aX:Scope} {fs fs₁ fs₂ fs₃ hh fs':X} {R:bk} {o:Option (bE×X)} {p:Pos} {m:Nat} {t u:Nat} {per:List H} {cells:List Int} {s k:Nat} {d:Int} {rest:List H}
theorem p6 {x y:Int} (h:0<y):j3 .Mod (.int x) (.int y)=some (.U (.int (x.fmod y))):=by
 exact bp (el (by exact Wl h) rfl) rfl
theorem Ey {x y:Int} (h:0<y) (O:y<1000):j3 .FloorDiv (.int x) (.int y)=some (.U (.int (x.fdiv y))):=by
 have e:¬((y=0:Bool)||(1073741824<=y.natAbs:Bool))=true:=by simp;exact UD h O
 exact bp (el e rfl) rfl
set_option exponentiation.threshold 2000 in
theorem G2 {x y:Int} (h:0<=y) (O:y<64) (ae:x.natAbs<2^64):j3 .Pow (.int x) (.int y)=some (.U (.int (x^y.toNat))):=by
 have e:(((0<=y:Bool)&&(y<64:Bool))&&(x.natAbs<2^1024:Bool))=true:=by
  (refine B (decide_eq_true h) ?_;refine B (decide_eq_true O) ?_;refine B (decide_eq_true (Nat.lt_trans ae (Nat.pow_lt_pow_right (by decide) (by decide)))) ?_);rfl
 exact bp (cQ e rfl) rfl
theorem BK {x y:Int} (h:y.natAbs<1000000):j3 .Mult (.int x) (.int y)=some (.U (.int (x*y))):=by
 have e:qE y=true:=by unfold qE;exact decide_eq_true (by exact Rq h)
 exact bp (cQ (by(refine B e ?_;refine B (Bool.or_true _) ?_;rfl)) rfl) rfl
noncomputable def U6 (k s:Nat) (per:List H):X:=⟨[("pen",.U (.per 0)),("many",.U (.int k)),("spot",.U (.int s))],per⟩
noncomputable def rb (k s:Nat) (c:Int) (per:List H):X:=⟨[("pen",.U (.per 0)),("many",.U (.int k)),("spot",.U (.int s)),("cell",.U (.int c))],per⟩
noncomputable abbrev tH (C CQ:cs) (b:Bool):bk:=aJ b C CQ 40 (bO (aI 50))
noncomputable def z9:List Stmt:=g5 (aI 50)
theorem NH (hc:cells.length<=40):∃c,∀r,cO (tH C CQ b) (ce (aI 50) 3::ce (aI 50) 4::r) (U6 k s (cw cells (s+1) d::rest))=cO (tH C CQ b) r (rb k s c (cw cells (s+1) d::rest)):=by
 have aq:(cells.map H.int).length<=a4:=by refine B (List.length_map _) ?_;unfold a4;exact Di hc
 cases cells with
 |nil=>exact⟨_,fun r=>aO (dc rfl rfl) (aO (co false rfl rfl) rfl)⟩
 |cons hP fM=>
  have bC:=ir aq
  replace bC:=(List.length_map _)▸bC
  have aE:((hP::fM).length:Int)>0:=by refine B List.length_cons ?_;exact H7
  refine cl (qr (s:Int) aE) ?_;intro bH b7
  refine bT (Int.eq_ofNat_of_zero_le bH) ?_;intro j bF
  have pp:j<(hP::fM).length:=by exact Ng b7 bF
  have bi:((hP::fM).map H.int)[j]? =some (.int (hP::fM)[j]):=by(refine B List.getElem?_map ?_;refine B (List.getElem?_eq_getElem pp) ?_);rfl
  refine⟨(hP::fM)[j],fun r=>aO (fs₁:=rb k s (20947*s+3571+(([hP]:List Int).sum).fmod 1000003) (cw (hP::fM) (s+1) d::rest)) (dc (dB rfl (dB (e9 rfl (e9 rfl (nD (l:=(hP::fM).map .int) rfl rfl rfl rfl aq) rfl (r':=.U (.int ([hP]:List Int).sum)) ?_) rfl rfl) rfl rfl rfl rfl) rfl rfl rfl) rfl) (aO (co true (cS rfl rfl rfl rfl rfl rfl) (aO (dc (f3 rfl rfl (dB (e9 rfl rfl rfl rfl) (e9 rfl rfl rfl bC) rfl rfl (p6 aE)) rfl ?_) rfl) rfl)) rfl)⟩
  ·refine B (show iT ((hP::fM).map H.int) none (some 1)=[.int hP] from zU (j:=1) (by simp)) ?_;rfl
  ·refine B bF ?_;exact wm bi (by omega)
end
end Mine
end
section
open PySem
set_option exponentiation.threshold 2000
namespace Mine
section
variable{b:Bool} {C CQ:cs} {n:Nat} {J aX:Scope} {fs fs₁ fs₂ fs₃ hh fs':X} {R:bk} {o:Option (bE×X)} {p:Pos} {m:Nat} {t u:Nat} {per:List H} {cells:List Int} {s k:Nat} {d:Int} {rest:List H}
theorem FF {x y:Int} {z:Bool} (h:decide (y<=x)=z):eI .GtE (.int x) (.int y)=some z:=by
 show some (decide (y<=x))=_;(refine B h ?_;rfl)
theorem ofNat_lt {x:Int} {k:Nat} (h:0<=x/\x<(k:Int)):∃r:Nat,r<k/\x=r:=⟨x.toNat,by exact Sw h,by exact Nv h⟩
theorem MX {c:Int} (hc:cells.length<=40) (hs:s<900) (ag:0<k) (lH:k<900):∃(r:Nat) (gZ:Int) (fs:X),r<k/\cO (tH C CQ b) (z9.drop 5) (rb k s c (cw cells (s+1) d::rest))=some (.ret (.U (.int r)),fs)/\fs.per=cw cells (s+1) gZ::rest:=by
 have bC:=ir (l:=cells.map H.int) (by refine B (List.length_map _) ?_;unfold a4;exact Di hc)
 replace bC:=(List.length_map _)▸bC
 have jW:(0:Int)<k:=by exact B7 ag
 by_cases h:s<cells.length/\(10:Int)^18<=(if c<0 then-c else c)
 ·refine bb (ofNat_lt (qr (2*((if c<0 then-c else c)-(10:Int)^18)+(if decide (c<0) then 1 else 0)) jW)) ?_;intro r M O
  refine⟨r,(2*((if c<0 then-c else c)-(10:Int)^18)+(if decide (c<0) then 1 else 0)).fdiv k,⟨[("pen",.U (.per 0)),("many",.U (.int k)),("spot",.U (.int s)),("cell",.U (.int c)),("great",.U (.int (2*((if c<0 then-c else c)-(10:Int)^18)+(if decide (c<0) then 1 else 0))))],_⟩,M,?_,rfl⟩
  refine bu O ?_
  refine cu (co true (kG (cS rfl (e9 rfl rfl rfl bC) rfl rfl (oJ (decide_eq_true (by exact NA h))) rfl) (cS rfl rfl rfl rfl (FF (decide_eq_true h.2)) rfl)) ?_)
  refine aO (dc rfl rfl) ?_
  refine aO (gG (k:=.int 2) (r:=.U (.per 0)) (ds (dB rfl rfl rfl rfl (Ey jW (by exact BQ lH))) rfl) rfl rfl rfl) ?_
  exact cu (dC (dB rfl rfl rfl rfl (p6 jW)) rfl)
 ·have gD:(tH C CQ b).dg (ce (aI 50) 5) (rb k s c (cw cells (s+1) d::rest))=some (.next,rb k s c (cw cells (s+1) d::rest)):=by
   by_cases M:s<cells.length
   ·have O:¬(10:Int)^18<=(if c<0 then-c else c):=fun e=>h ⟨M,e⟩
    exact co false (kG (cS rfl (e9 rfl rfl rfl bC) rfl rfl (oJ (decide_eq_true (by exact vh M))) rfl) (cS rfl rfl rfl rfl (FF (decide_eq_false O)) rfl)) rfl
   ·exact co false (n8 (cS rfl (e9 rfl rfl rfl bC) rfl rfl (oJ (decide_eq_false (by exact wG M))) rfl)) rfl
  refine cl (qr c (y:=2147483587) (by exact Jb)) ?_;intro eC ez
  obtain⟨ao,eO⟩:∃ao,ao=((c.fmod 2147483587+20947*s+3571)^5).fmod 2147483629:=⟨_,rfl⟩
  refine cl (qr ((c.fmod 2147483587+20947*s+3571)^5) (y:=2147483629) (by exact B9)) ?_;intro d1 eT
  rw [<-eO] at d1 eT
  have JT:ao*(2*s+7207)<=2147483629*10000:=Int.mul_le_mul (by exact QL eT) (by exact NF hs) (by exact Eh) (by exact Tv)
  have x3:0<=ao*(2*s+7207):=Int.mul_nonneg d1 (by exact Eh)
  have wS:(20947*s:Int)*s<=20947000*1000:=Int.mul_le_mul (by exact VM hs) (by exact Xy hs) (by exact xa) (by exact M9)
  have tN:0<=(20947*s:Int)*s:=Int.mul_nonneg (by exact Sf) (by exact xa)
  refine bb (ofNat_lt (qr (Int.fdiv (((ao*(2*s+7207)+20947*s*s+31)^3).fmod 2147483579) 32) jW)) ?_;intro r M O
  refine⟨r,d,⟨[("pen",.U (.per 0)),("many",.U (.int k)),("spot",.U (.int s)),("cell",.U (.int c)),("stirred",.U (.int (((ao*(2*s+7207)+20947*s*s+31)^3).fmod 2147483579)))],_⟩,M,?_,rfl⟩
  refine bu O ?_
  refine aO (r:=(z9.drop 5).drop 1) gD ?_
  refine aO (dc (v:=.int ao) (dB (e9 rfl (dB (v:=.int (c.fmod 2147483587+20947*s+3571)) rfl rfl rfl rfl (G2 (y:=5) (by exact Vk) (by exact Hx) (by exact Xm hs eC ez))) rfl rfl) rfl rfl rfl (by refine B eO ?_;exact p6 (by exact B9))) rfl) ?_
  refine aO (dc (dB (e9 rfl (dB (dB (dB (dB rfl rfl rfl rfl (BK (y:=2*s+7207) (by exact Sb hs))) (dB rfl rfl rfl rfl (BK (x:=20947*s) (y:=s) (by exact HO hs))) rfl rfl rfl) rfl rfl rfl rfl) rfl rfl rfl (G2 (y:=3) (by exact Jf) (by exact XT) (by exact SK JT x3 wS tN))) rfl rfl) rfl rfl rfl (p6 (by exact Re))) rfl) ?_
  exact cu (dC (dB (e9 rfl rfl rfl rfl) rfl rfl rfl (p6 jW)) rfl)
noncomputable def A8:Expr×Scope:=(ek (ce (aI 49) 0) [0,0],iv (ek (ce (aI 49) 0) [0]))
theorem nl (b:Bool) (m:Nat) (d:Int) (rest:List H) (hc:cells.length<=40) (hs:s<900) (ag:0<k) (lH:k<900):∃(r az:Nat) (gZ:Int),r<k/\az<=s+1/\aH b (m+1) "_law_draw" [.per 0,.int k] (cw cells s d::rest)=some (.ret (.U (.int r)),cw cells az gZ::rest):=by
 have jW:(0:Int)<k:=by exact B7 ag
 by_cases hd:0<d
 ·refine bb (ofNat_lt (qr d jW)) ?_;intro r M O
  refine⟨r,s,d.fdiv k,M,by exact vD,c6 F2 ?_⟩
  refine dr (fs:=⟨[("pen",.U (.per 0)),("many",.U (.int k)),("digit",.U (.int r))],cw cells s (d.fdiv k)::rest⟩) rfl ?_ rfl
  ·refine cu (co true (cS rfl rfl rfl rfl (t7 (decide_eq_true hd)) rfl) ?_)
   refine aO (dc (dB rfl rfl rfl rfl (p6 jW)) rfl) ?_
   refine aO (gG (k:=.int 2) (r:=.U (.per 0)) (ds (dB rfl rfl rfl rfl (Ey jW (by exact BQ lH))) rfl) rfl rfl rfl) ?_
   refine B O ?_
   exact cu (dC rfl rfl)
 ·refine bT (NH (b:=b) (C:=aH b m) (CQ:=aH false m) (k:=k) (s:=s) (d:=d) (rest:=rest) hc) ?_;intro c vi
  refine dz (MX (b:=b) (C:=aH b m) (CQ:=aH false m) (d:=d) (rest:=rest) (c:=c) hc hs ag lH) ?_;intro r gZ fs M O Y
  refine⟨r,s+1,gZ,M,Nat.le_refl _,c6 F2 ?_⟩
  apply dr rfl
  ·refine aO (co false (cS rfl rfl rfl rfl (t7 (decide_eq_false hd)) rfl) rfl) ?_
   refine aO (dc rfl rfl) ?_
   refine aO (gG (k:=.int 1) (r:=.U (.per 0)) rfl rfl rfl rfl) ?_
   exact(vi _).trans O
  ·exact Y
theorem Ko {ns:List Int} (h:ns.length<100):aH b (m+1) "_law_pen" [.am (ns.map .int)] per=some (.ret (.own (cw (ns.take 40) 0 0)),per):=by
 have hs:iT (ns.map H.int) none (some 40)=(ns.take 40).map H.int:=by
  show((ns.map H.int).take (jj 40 (ns.map H.int).length)).drop 0=_
  (refine B List.drop_zero ?_;refine B List.map_take ?_)
  unfold jj
  refine B (if_neg (by decide)) ?_
  show(ns.map H.int).take (min 40 (ns.map H.int).length)=_
  (refine bu List.take_eq_take_min ?_;rfl)
 obtain⟨cZ,e⟩:=vL (R:=aJ b (aH b m) (aH false m) 37 A8.2) (per:=per) (elt:=A8.1) (x:="cell") (L:=[]) (f:=fun v=>v) (items:=iT (ns.map H.int) none (some 40)) (fs:=⟨[],per⟩)
  (fun v ay=>by replace ay:=hs▸ay;obtain⟨i,_,rfl⟩:=List.mem_map.mp ay;rfl) (.inl rfl)
 replace e:=(List.map_id' _)▸e
 have aq:(ns.map H.int).length<=a4:=by refine B (List.length_map _) ?_;unfold a4;exact wg h
 unfold cw
 refine bu hs ?_
 refine c6 Om ?_
 apply dr rfl
 ·exact cu (dC (zm (bM (hS (hl rfl (ds (nD rfl rfl rfl rfl aq) rfl)) (by(refine B hs ?_;refine B (List.length_map _) ?_;refine B List.length_take ?_);unfold a4;exact Jh) rfl e) rfl (bM rfl rfl (bM rfl rfl rfl))) (Nat.le_of_ble_eq_true rfl)) rfl)
 ·rfl
end
end Mine
end
section
open PySem
namespace Mine
theorem Yn:du "_law_page"=some (aI 52):=by kernel_rfl
section
variable{b:Bool} {C CQ:cs} {n:Nat} {J aX:Scope} {fs fs₁ fs₂ fs₃ hh fs':X} {R:bk} {o:Option (bE×X)} {p:Pos} {m:Nat} {t u:Nat} {per:List H} {cells:List Int} {s k:Nat} {d:Int} {rest:List H}
theorem Cd (b:Bool) (m:Nat) (d:Int) (rest:List H) (a:Int) (hc:cells.length<=40) (hs:s<800):∃(q:da) (az:Nat) (gZ:Int),q.n=a/\az<=s+2/\aH b (m+2) "_law_page" [.per 0,.int a] (cw cells s d::rest)=some (.ret (.own (.V q.d)),cw cells az gZ::rest):=by
 refine dz (nl (cells:=cells) (s:=s) (k:=9) b m d rest hc (by exact T1 hs) (by exact HI) (by exact Mw)) ?_;intro eU d5 d1 bH b7 c7
 refine dz (nl (cells:=cells) (s:=d5) (k:=3) b m d1 rest hc (by exact R3 hs b7) (by exact x9) (by exact xG)) ?_;intro jX dX eT M O Y
 refine⟨⟨a,1+eU,decide (jX=0)⟩,dX,eT,rfl,by exact Wu b7 O,c6 Yn ?_⟩
 have ma:(aJ b (aH b (m+1)) (aH false (m+1)) 40 (bO (aI 52))).dg (ce (aI 52) 0) ⟨[("pen",.U (.per 0)),("at",.U (.int a))],cw cells s d::rest⟩=some (.next,⟨[("pen",.U (.per 0)),("at",.U (.int a)),("head",.aD (.V [(.str "N",.int a),(.str "MediaBox",.am [.int 0,.int 0,.int (1+eU),.int 9])]))],cw cells d5 d1::rest⟩):=
  fC (pG (v:=.int a) (w:=.am [.int 0,.int 0,.int (1+eU),.int 9]) rfl (ds (zm (bM rfl rfl (bM rfl rfl (bM (dB rfl (dt rfl rfl c7) rfl rfl rfl) rfl (bM rfl rfl rfl)))) (Nat.le_of_ble_eq_true rfl)) rfl) (by decide+kernel)) rfl
 by_cases aL:jX=0
 ·subst aL
  apply dr rfl
  ·refine aO ma (aO (co true (cS (dt rfl rfl Y) rfl rfl rfl rfl rfl) (aO (gG (v:=.int 90) (k:=.str "Rotate") (r:=.var "head") rfl rfl rfl (jC rfl rfl (Nat.le_of_ble_eq_true rfl))) rfl)) ?_)
   exact cu (dC rfl rfl)
  ·rfl
 ·refine B (decide_eq_false aL) ?_
  apply dr rfl
  ·refine aO ma (aO (co false (cS (dt rfl rfl Y) rfl rfl rfl (x:=false) (by show some (((jX:Nat):Int)==0)=_;simp;exact RT aL) rfl) rfl) ?_)
   exact cu (dC rfl rfl)
  ·rfl
noncomputable def G5:Expr×Scope:=(ek (ce (aI 55) 2) [0],iv (ek (ce (aI 55) 2) []))
theorem MQ (hc:cells.length<=40) {items:List Int}:∀{s:Nat} {d:Int} {fs:X},s+2*items.length<800->(fs=⟨[("pen",.U (.per 0))],cw cells s d::rest⟩\/∃w,fs=⟨[("pen",.U (.per 0)),("at",w)],cw cells s d::rest⟩)->
  ∃(ps:List da) (az:Nat) (gZ:Int) (cZ:List (Str×cf)),ps.length=items.length/\az<=s+2*items.length/\ga (aJ b (aH b (m+2)) CQ 38 G5.2) "at" [] G5.1 (items.map .int) fs=some (ps.map fun p:da=>H.V p.d,⟨cZ,cw cells az gZ::rest⟩):=by
 induction items with
 |nil=>
  intro s d fs _ aB
  rcases aB with rfl|⟨w,rfl⟩<;>exact⟨[],s,d,_,rfl,Nat.le_refl _,rfl⟩
 |cons a items ih=>
  intro s d fs hs aB
  replace hs:=List.length_cons▸hs
  refine dz (Cd (cells:=cells) (s:=s) b m d rest a hc (by exact Wx hs)) ?_;intro q d5 d1 bH b7 c7
  refine sH (ih (s:=d5) (d:=d1) (fs:=⟨[("pen",.U (.per 0)),("at",.U (.int a))],cw cells d5 d1::rest⟩) (by exact Ru hs b7) (.inr ⟨_,rfl⟩)) ?_;intro ps az gZ cZ M O Y
  have e:({fs with loc:=bX "at" (.U (.int a)) fs.loc}:X)=⟨[("pen",.U (.per 0)),("at",.U (.int a))],cw cells s d::rest⟩:=by
   rcases aB with rfl|⟨w,rfl⟩<;>rfl
  exact⟨q::ps,az,gZ,cZ,congrArg (· +1) M,by refine B List.length_cons ?_;exact Nn b7 O,vW ((congrArg (d0 _ _) e).trans (ds (dt rfl rfl c7) rfl)) Y⟩
end
end Mine
end
section
open PySem
namespace Mine
section
variable{b:Bool} {C CQ:cs} {n:Nat} {J aX:Scope} {fs fs₁ fs₂ fs₃ hh fs':X} {R:bk} {o:Option (bE×X)} {p:Pos} {m:Nat} {t u:Nat} {per:List H} {cells:List Int} {s k:Nat} {d:Int} {rest:List H} {tab bJ:cD} {N:Nat} {a6:Int} {x:af}
theorem Ap {l:List H} (h:∀x∈l,gM 31 x=true):eI .NotEq (.am l) (.am l)=some false:=by
 have:eR eF (.am l) (.am l)=some true:=by
  show(if l.length=l.length then l1 (eR 31) l l else some false)=_
  (refine B (if_pos rfl) ?_;refine B (Dq l fun x ae=>xx 31 (h x ae)) ?_;rfl)
 show(eR eF (.am l) (.am l)).map (!·)=_
 refine B this ?_;rfl
theorem Ui {i:Int}:eI .NotEq (hx i) (hx i)=some false:=by
 show(eR eF (hx i) (hx i)).map (!·)=_
 refine B yg ?_;simp
noncomputable def dh (ps:List da):List H:=ps.map fun p:da=>H.V p.d
noncomputable def ew (sv:H) (w:Nat) (plain:cf) (ext:List (Str×cf)) (per:List H):X:=⟨("script",.U sv)::("pen",.U (.per 0))::("shelf",.U (bB 1 2))::("other",.U (bB 3 4))::("width",.U (.int w))::("plain",plain)::ext,per⟩
noncomputable def ij (fK head a Xa ref:H):List (Str×cf):=[("lap",.U fK),("head",.U head),("at",.U a),("kept",.U Xa),("reference",.U ref)]
noncomputable def hb:List Stmt:=d4 (ce (aI 55) 4)
noncomputable abbrev lI (CQ:cs) (m:Nat):bk:=aJ true (aH true (m+10)) CQ 39 (bO (aI 55))
noncomputable def uf:Expr×Scope×Expr×Scope:=(ek (iE hb 6) [0,0],iv (ek (iE hb 6) [0]),ek (iE hb 6) [1,0],iv (ek (iE hb 6) [1]))
theorem Pf {sv:H} {w:Nat} {ps:List da} {ext:List (Str×cf)} {pn:H} (h:ed tab [(.str "Root",au a6)] N a6 x) (hs:cA (x.ai [])) (gw:(ci (x.ai [])).map Prod.snd=ps) (aW:∃a b c d e,ext=ij a b c d e):
  (lI CQ m).dg ((hb[6]?).getD default) (ew sv w (.aD (.am (dh ps))) ext (c3 pn tab a6 rest))=some (.next,ew sv w (.U (.am (dh ps))) ext (c3 pn tab a6 rest)):=by
 refine sJ aW ?_;clear aW;intro bV cE cX dU sA u;subst u
 have bC:ps.length<300:=by
  have M:=h.len
  have O:=h.fu
  have Y:(ci (x.ai [])).length<=(x.ai []).length:=List.length_filterMap_le _ _
  (refine bu gw ?_;refine B (List.length_map _) ?_);exact Ry M O Y
 have gq:(dh ps).length=ps.length:=List.length_map _
 have aq:=ir (l:=dh ps) (by refine B gq ?_;unfold a4;exact y2 bC)
 replace aq:=gq▸aq
 obtain⟨cZ,ak⟩:=vf (R:=aJ true (aH true (m+10)) CQ 36 uf.2.1) (per:=c3 pn tab a6 rest) (elt:=uf.1) (x:="spot") (L:=[("shelf",.U (bB 1 2))]) (l:=ps.zipIdx.map fun e=>(.int e.2,.int e.1.n)) (fs:=⟨[("shelf",.U (bB 1 2))],c3 pn tab a6 rest⟩)
  (fun e aW=>by
   obtain⟨⟨p,i⟩,hv,rfl⟩:=List.mem_map.mp aW
   have aR:=List.mem_zipIdx_iff_getElem?.mp hv
   dsimp only at aR
   (replace aR:=(Eq.symm gw)▸aR;replace aR:=List.getElem?_map▸aR)
   cases aA:(ci (x.ai []))[i]? with
   |none=>replace aR:=aA▸aR;cases aR
   |some OY=>
    obtain⟨k,q⟩:=OY
    replace aR:=aA▸aR
    cases aR
    refine bT (GG (b:=true) (m:=m+4) (t:=1) (u:=2) (per:=c3 pn tab a6 rest) h hs rfl rfl aA) ?_;intro par wy
    exact ds (r:=.U (.int q.n)) (f3 rfl (k:=.str "N") (v:=.V (dW par none (.inl q))) (yw (dt rfl rfl wy) rfl rfl rfl) rfl rfl rfl) rfl) (.inl rfl)
 have gj:(ps.zipIdx.map fun e=>((H.int e.2,H.int e.1.n):H×H)).map Prod.fst=(List.range ps.length).map fun(i:Nat)=>H.int i:=by
  (refine B List.map_map ?_;refine B List.range_eq_range' ?_;refine bu (List.zipIdx_map_snd 0 ps) ?_;refine B List.map_map ?_);rfl
 have gP:(ps.zipIdx.map fun e=>((H.int e.2,H.int e.1.n):H×H)).map Prod.snd=ps.map fun p=>H.int p.n:=by
  have:=List.zipIdx_map_fst 0 ps
  refine B List.map_map ?_
  refine Eq.trans ?_ (congrArg (List.map fun p:da=>H.int p.n) this)
  refine B List.map_map ?_;rfl
 (replace ak:=gj▸ak;replace ak:=gP▸ak)
 obtain⟨Zi,ar⟩:=vf (R:=aJ true (aH true (m+10)) CQ 36 uf.2.2.2) (per:=c3 pn tab a6 rest) (elt:=uf.2.2.1) (x:="one") (L:=[]) (l:=ps.map fun p=>(.V p.d,.int p.n)) (fs:=⟨[],c3 pn tab a6 rest⟩)
  (fun e aW=>by
   refine bb (List.mem_map.mp aW) ?_;intro p hv u;subst u
   exact ds (r:=.U (.int p.n)) (f3 rfl (k:=.str "N") (v:=.V p.d) rfl rfl rfl rfl) rfl) (.inl rfl)
 (replace ar:=List.map_map▸ar;replace ar:=List.map_map▸ar)
 refine co false (cS (hS (uN rfl (ds (e9 rfl rfl rfl aq) rfl) (by exact TM bC)) (by(refine B (List.length_map _) ?_;refine B List.length_range ?_);unfold a4;exact y2 bC) rfl ak) (hS (hl rfl (ds (r:=.var "plain") (fs₂:=ew sv w (.U (.am (dh ps))) (ij bV cE cX dU sA) (c3 pn tab a6 rest)) rfl rfl)) (by refine B gq ?_;unfold a4;exact y2 bC) rfl ar) rfl rfl (Ap fun v ay=> ?_) rfl) rfl
 refine bb (List.mem_map.mp ay) ?_;intro p _ u;subst u
 rfl
end
end Mine
end
section
open PySem
namespace Mine
section
variable{b:Bool} {C CQ:cs} {n:Nat} {J aX:Scope} {fs fs₁ fs₂ fs₃ hh fs':X} {R:bk} {o:Option (bE×X)} {p:Pos} {m:Nat} {t u:Nat} {per:List H} {cells:List Int} {s k:Nat} {d:Int} {rest:List H} {tab bJ:cD} {N:Nat} {a6:Int} {x:af}
noncomputable def Gu (fK:H):List (Str×cf):=[("lap",.U fK)]
theorem Lb {sv:H} {w:Nat} {ps:List da} {ext:List (Str×cf)} {fK:Int} (h:ed tab [(.str "Root",au a6)] N a6 x) (hc:j7 N a6 x) (hs:cA (x.ai [])) (gw:(ci (x.ai [])).map Prod.snd=ps) (dm:N<250) (e8:cells.length<=40) (qA:s<700) (gq:ps.length<100)
  (aW:ext=Gu (.int fK)\/∃b c d e,ext=ij (.int fK) b c d e):
  ∃c5 df fJ az gZ a b c e,cO (lI CQ m) hb (ew sv w (.U (.am (dh ps))) ext (c3 (cw cells s d) tab a6 rest))=some (.next,ew sv w (.U (.am (dh fJ))) (ij (.int fK) a b c e) (c3 (cw cells az gZ) c5 a6 rest))/\
   ed c5 [(.str "Root",au a6)] (N+1) a6 df/\j7 (N+1) a6 df/\cA (df.ai [])/\(ci (df.ai [])).map Prod.snd=fJ/\fJ.length=ps.length+1/\az<=s+3:=by
 refine dz (Cd (cells:=cells) (s:=s) true (m+8) d (.V tab::.V [(.str "Root",au a6)]::rest) (10+fK) e8 (by exact XV qA)) ?_;intro q d5 d1 bH b7 c7
 refine dz (nl (cells:=cells) (s:=d5) (k:=ps.length+1) true (m+9) d1 (.V tab::.V [(.str "Root",au a6)]::rest) e8 (by exact Rc qA b7) (by exact Xo) (by exact RF gq)) ?_;intro a dX eT ea fH ht
 have tI:(ci (x.ai [])).length=ps.length:=by(refine bu gw ?_;refine B (List.length_map _) ?_;rfl)
 refine qu (Va h hc hs dm (a:=a) (by exact yO ea tI) q) ?_;intro c5 df AG n3 yA s0 Gg
 have uR:=AG (b:=true) (m:=m) (t:=1) (u:=2) (per:=c3 (cw cells dX eT) tab a6 rest) (by decide) rfl rfl
 have x6:(ci (df.ai [])).map Prod.snd=ps.take a++q::ps.drop a:=by(refine B Gg ?_;refine B List.map_append ?_;refine B List.map_take ?_;refine B List.map_cons ?_;refine B List.map_drop ?_;refine B gw ?_;rfl)
 have ty:(ps.take a++q::ps.drop a).length=ps.length+1:=by(refine B List.length_append ?_;refine B List.length_take ?_;refine B List.length_cons ?_;refine B List.length_drop ?_);exact Pm
 have Uy:(ci (df.ai [])).length=ps.length+1:=by(refine bu ty ?_;refine bu x6 ?_;refine B (List.length_map _) ?_;rfl)
 have an:(dh ps).length=ps.length:=List.length_map _
 have aq:=ir (l:=dh ps) (by refine B an ?_;unfold a4;exact wg gq)
 replace aq:=an▸aq
 have CR:(dh ps).length<=a4:=by refine B an ?_;unfold a4;exact wg gq
 have ak:=zU (l:=dh ps) (j:=a) (by exact yO ea an)
 have ar:=C3 (l:=dh ps) (j:=a) (by exact yO ea an)
 have bP:((dh ps).take a++[.V q.d])++(dh ps).drop a=dh (ps.take a++q::ps.drop a):=by unfold dh;simp
 have o4:=ir (l:=dh (ps.take a++q::ps.drop a)) (by unfold dh;(refine B (List.length_map _) ?_;refine B ty ?_);unfold a4;exact MC gq)
 have rp:(dh (ps.take a++q::ps.drop a)).length=ps.length+1:=(List.length_map _).trans ty
 replace o4:=rp▸o4
 have fw:(ci (df.ai []))[a]? =some ((N:Int)+1,q):=by
  have aG:((ci (x.ai [])).take a).length=a:=by refine B List.length_take ?_;exact SM ea tI
  (refine B Gg ?_;refine B (List.getElem?_append_right (by exact Mf aG)) ?_;refine B aG ?_;refine B (Nat.sub_self _) ?_);rfl
 refine bT (GG (b:=true) (m:=m+4) (t:=1) (u:=2) (per:=c3 (cw cells dX eT) c5 a6 rest) n3 s0 rfl rfl fw) ?_;intro par wy
 have SE:=UU (b:=true) (m:=m+4) (t:=1) (u:=2) (per:=c3 (cw cells dX eT) c5 a6 rest) n3 s0 rfl rfl
 have r9:=Fq (b:=true) (m:=m+5) (t:=1) (u:=2) (per:=c3 (cw cells dX eT) c5 a6 rest) n3 s0 rfl rfl
 replace r9:=Uy▸r9
 have Au:∀{per},aH true (m+10) "told_objects" [.V q.d] per=some (.ret (.U (gm q [] none)),per):=r3.trans (WC (m:=m+5))
 have ag:((ps.length+1:Nat):Int)=(ps.length:Int)+1:=Int.natCast_succ _
 replace ht:=ag▸ht
 refine⟨c5,df,_,dX,eT,.V q.d,.int a,gm q [] none,au ((N:Int)+1),?_,n3,yA,s0,x6,ty,by exact RM b7 fH⟩
 have ma:(lI CQ m).dg ((hb[0]?).getD default) (ew sv w (.U (.am (dh ps))) ext (c3 (cw cells s d) tab a6 rest))=some (.next,ew sv w (.U (.am (dh ps))) (match ext with|[l]=>[l,("head",.U (.V q.d)),("at",.U (.int a))]|l::_::_::r=>l::("head",.U (.V q.d))::("at",.U (.int a))::r|l=>l) (c3 (cw cells dX eT) tab a6 rest)):=by
  rcases aW with rfl|⟨aM,a2,b0,ev,rfl⟩<;>
  exact lq (vs:=[.V q.d,.int a]) rfl (kx (bM (dt rfl rfl c7) rfl (bM (dt rfl (bM rfl rfl (bM (dB (e9 rfl rfl rfl aq) rfl rfl rfl rfl) rfl rfl)) ht) rfl rfl)) (Nat.le_of_ble_eq_true rfl)) (Nat.le_of_ble_eq_true rfl) rfl
 have Mz:∀fs,(fs=ew sv w (.U (.am (dh ps))) [("lap",.U (.int fK)),("head",.U (.V q.d)),("at",.U (.int a))] (c3 (cw cells dX eT) tab a6 rest)\/∃y z,fs=ew sv w (.U (.am (dh ps))) (ij (.int fK) (.V q.d) (.int a) y z) (c3 (cw cells dX eT) tab a6 rest))->
   cO (lI CQ m) (hb.drop 1) fs=cO (lI CQ m) (hb.drop 3) (ew sv w (.U (.am (dh ps))) (ij (.int fK) (.V q.d) (.int a) (gm q [] none) (au ((N:Int)+1))) (c3 (cw cells dX eT) c5 a6 rest)):=fun fs aB=>by
  rcases aB with rfl|⟨y,z,rfl⟩<;>
  exact aO (dc (dt rfl rfl Au) rfl) (aO (dc (dt rfl rfl uR) rfl) rfl)
 have fF:(lI CQ m).dg ((hb[3]?).getD default) (ew sv w (.U (.am (dh ps))) (ij (.int fK) (.V q.d) (.int a) (gm q [] none) (au ((N:Int)+1))) (c3 (cw cells dX eT) c5 a6 rest))=
   some (.next,ew sv w (.aD (.am (dh (ps.take a++q::ps.drop a)))) (ij (.int fK) (.V q.d) (.int a) (gm q [] none) (au ((N:Int)+1))) (c3 (cw cells dX eT) c5 a6 rest)):=by
  (refine bu bP ?_;refine bu ak ?_;refine bu ar ?_)
  refine fC (dB (dB (nD rfl rfl rfl rfl CR) rfl rfl rfl (s5 ?_)) (nD rfl rfl rfl rfl CR) rfl rfl (s5 ?_)) rfl
  ·(refine B ak ?_;refine B List.length_take ?_);unfold a4;simp only [List.length_cons,List.length_nil];exact Ye gq an
  ·(refine B ak ?_;refine B ar ?_;refine B List.length_append ?_;refine B List.length_take ?_;refine B List.length_drop ?_);unfold a4;simp only [List.length_cons,List.length_nil];exact L9 gq an
 have iR:(lI CQ m).dg ((hb[4]?).getD default) (ew sv w (.aD (.am (dh (ps.take a++q::ps.drop a)))) (ij (.int fK) (.V q.d) (.int a) (gm q [] none) (au ((N:Int)+1))) (c3 (cw cells dX eT) c5 a6 rest))=
   some (.next,ew sv w (.aD (.am (dh (ps.take a++q::ps.drop a)))) (ij (.int fK) (.V q.d) (.int a) (gm q [] none) (au ((N:Int)+1))) (c3 (cw cells dX eT) c5 a6 rest)):=
  co false (sP (cS (dt rfl rfl Au) rfl rfl rfl (VR (x1 (s:="") (k:=24)).2) rfl) (cS (dZ (l:=[("number",.int ((N:Int)+1)),("generation",.int 0)]) rfl (yw (dt rfl rfl wy) rfl rfl rfl) rfl rfl rfl (mG (m:=m+9))) (dZ rfl rfl rfl rfl rfl (mG (m:=m+9))) rfl rfl Ui rfl)) rfl
 have gD:(lI CQ m).dg ((hb[5]?).getD default) (ew sv w (.aD (.am (dh (ps.take a++q::ps.drop a)))) (ij (.int fK) (.V q.d) (.int a) (gm q [] none) (au ((N:Int)+1))) (c3 (cw cells dX eT) c5 a6 rest))=
   some (.next,ew sv w (.aD (.am (dh (ps.take a++q::ps.drop a)))) (ij (.int fK) (.V q.d) (.int a) (gm q [] none) (au ((N:Int)+1))) (c3 (cw cells dX eT) c5 a6 rest)):=
  co false (sP (cS (dt rfl rfl SE) rfl rfl rfl rfl rfl) (cS (dt rfl rfl r9) (e9 rfl rfl rfl o4) rfl rfl z6 rfl)) rfl
 have um:=Pf (CQ:=CQ) (m:=m) (sv:=sv) (w:=w) (rest:=rest) (pn:=cw cells dX eT) n3 s0 x6 (ext:=ij (.int fK) (.V q.d) (.int a) (gm q [] none) (au ((N:Int)+1))) ⟨_,_,_,_,_,rfl⟩
 refine aO (r:=hb.drop 1) ma ?_
 refine(Mz _ ?_).trans (aO (r:=hb.drop 4) fF (aO (r:=hb.drop 5) iR (aO (r:=hb.drop 6) gD (aO (r:=[]) um rfl))))
 rcases aW with rfl|⟨aM,a2,b0,ev,rfl⟩
 ·exact .inl rfl
 ·exact .inr ⟨_,_,rfl⟩
end
end Mine
end
section
open PySem
namespace Mine
theorem Mb:du "law"=some (aI 55):=by kernel_rfl
section
variable{b:Bool} {C CQ:cs} {n:Nat} {m:Nat} {per:List H} {cells:List Int} {s k:Nat} {d:Int} {rest:List H} {tab bJ:cD} {N:Nat} {a6:Int} {x:af}
theorem EH {sv:H} {w:Nat} (e8:cells.length<=40):∀{items:List Int} {ps:List da} {ext:List (Str×cf)} {tab:cD} {N:Nat} {x:af} {s:Nat} {d:Int},ed tab [(.str "Root",au a6)] N a6 x->j7 N a6 x->cA (x.ai [])->(ci (x.ai [])).map Prod.snd=ps->N+items.length<200->s+3*items.length<600->ps.length+items.length<90->
  (ext=[]\/∃a b c d e,ext=ij a b c d e)->
  ∃c5 df fJ az gZ oj,f1 (lI CQ m) (bO (aI 55)) "lap" hb (items.map .int) (ew sv w (.U (.am (dh ps))) ext (c3 (cw cells s d) tab a6 rest))=some (.next,ew sv w (.U (.am (dh fJ))) oj (c3 (cw cells az gZ) c5 a6 rest))/\
   ed c5 [(.str "Root",au a6)] (N+items.length) a6 df/\j7 (N+items.length) a6 df/\cA (df.ai [])/\(ci (df.ai [])).map Prod.snd=fJ/\fJ.length=ps.length+items.length/\az<=s+3*items.length
 |[],ps,ext,tab,N,x,s,d,h,hc,hs,gw,_,_,_,_=>⟨tab,x,ps,s,d,ext,rfl,h,hc,hs,gw,rfl,Nat.le_refl _⟩
 |fK::items,ps,ext,tab,N,x,s,d,h,hc,hs,gw,M,O,Y,aW=>by
  simp only [List.length_cons] at M O Y
  have ao:∃oj,eL (bO (aI 55)) "lap" (.U (.int fK)) (ew sv w (.U (.am (dh ps))) ext (c3 (cw cells s d) tab a6 rest))=some (ew sv w (.U (.am (dh ps))) oj (c3 (cw cells s d) tab a6 rest))/\(oj=Gu (.int fK)\/∃b c d e,oj=ij (.int fK) b c d e):=by
   rcases aW with rfl|⟨sO,rA,Ed,v8,YM,rfl⟩
   ·exact⟨_,rfl,.inl rfl⟩
   ·exact⟨_,rfl,.inr ⟨_,_,_,_,rfl⟩⟩
  refine bb ao ?_;clear ao;intro ext1 ak ar
  obtain⟨Zm,aM,YG,d5,d1,sO,rA,Ed,v8,rI,bH,b7,c7,fl,hE,mP⟩:=Lb (CQ:=CQ) (m:=m) (s:=s) (d:=d) (rest:=rest) (sv:=sv) (w:=w) h hc hs gw (by exact OX M) e8 (by exact Xc O) (by exact KU Y) ar
  obtain⟨c5,df,fJ,az,gZ,oj,WQ,ea,fH,ht,kY,pS,su⟩:=EH e8 (items:=items) (s:=d5) (d:=d1) bH b7 c7 fl (by exact Uj M) (by exact Mk O mP) (by exact Lp Y hE) (.inr ⟨_,_,_,_,_,rfl⟩)
  have e:N+1+items.length=N+(fK::items).length:=by refine B List.length_cons ?_;exact ta
  rw [e] at ea fH
  exact⟨c5,df,fJ,az,gZ,oj,fG ak rI WQ,ea,fH,ht,kY,by(refine B pS ?_;refine B hE ?_;refine B List.length_cons ?_);exact ta,by refine B List.length_cons ?_;exact MI mP su⟩
theorem AF {k:Nat}:(List.range k).map (fun(i:Nat)=>H.int i)=((List.range k).map fun(i:Nat)=>(i:Int)).map .int:=by refine B List.map_map ?_;rfl
theorem Pn (ns:List Int) (ey:ns.length<=63):∃per,aH true (m+11) "law" [.am (ns.map .int)] []=some (.ret (.U (.bool true)),per):=by
 have e8:(ns.take 40).length<=40:=by refine B List.length_take ?_;exact QF
 refine dz (nl (cells:=ns.take 40) (s:=0) (k:=3) true (m+9) 0 [.V [],.V [],.V [],.V []] e8 (by exact HV) (by exact x9) (by exact xG)) ?_;intro eU d5 d1 bV cE cX
 refine dz (nl (cells:=ns.take 40) (s:=d5) (k:=5) true (m+9) d1 [.V [],.V [],.V [],.V []] e8 (by exact Iv cE) (by exact ML) (by exact ND)) ?_;intro jX dX eT cP dG lD
 have qH:((List.range jX).map fun(i:Nat)=>(i:Int)).length=jX:=by(refine B (List.length_map _) ?_;refine B List.length_range ?_;rfl)
 refine sH (MQ (b:=true) (CQ:=aH false (m+10)) (m:=m+8) (rest:=[.V [],.V [],.V [],.V []]) e8 (items:=(List.range jX).map fun(i:Nat)=>(i:Int)) (s:=dX) (d:=eT) (by refine B qH ?_;exact HS cE cP dG) (.inl rfl)) ?_;intro ps fF im cZ eC ez hX
 rw [qH] at eC ez
 replace hX:=(Eq.symm AF)▸hX
 have d9:((2+eU:Nat):Int)=2+(eU:Int):=Int.natCast_add _ _
 obtain⟨tab,a6,N,x,i6,ak,ar,bP,cW,dn,fe⟩:=GS (b:=true) (m:=m+2) (t:=1) (u:=2) (per:=[cw (ns.take 40) fF im,.V [],.V [],.V [],.V []]) (ps:=ps) (w:=2+eU) (by exact B4 bV) (by exact RS cP eC) (by decide) rfl rfl
 refine dz (nl (cells:=ns.take 40) (s:=fF) (k:=7) true (m+9) im [.V tab,.V [(.str "Root",au a6)],.V [],.V []] e8 (by exact S0 cE cP dG ez) (by exact VP) (by exact Tx)) ?_;intro vO iR nI ea fH ht
 have s7:((List.range vO).map fun(i:Nat)=>(i:Int)).length=vO:=by(refine B (List.length_map _) ?_;refine B List.length_range ?_;rfl)
 obtain⟨c5,df,fJ,gD,hn,ext,rI,bH,b7,c7,fl,hE,mP⟩:=EH (CQ:=aH false (m+10)) (m:=m) (sv:=.am (ns.map .int)) (w:=2+eU) (rest:=[.V [],.V []]) e8 (items:=(List.range vO).map fun(i:Nat)=>(i:Int)) (s:=iR) (d:=nI) ar bP cW dn (by refine B s7 ?_;exact Xb cP eC fe ea) (by refine B s7 ?_;exact Td cE cP dG ez ea fH) (by refine B s7 ?_;exact WE cP eC ea) (.inl rfl)
 rw [s7] at bH b7 hE mP
 replace rI:=(Eq.symm AF)▸rI
 obtain⟨lc,kK,YT,a2,Zt,M,O,Y,aC,bR,dK⟩:=GS (b:=true) (m:=m+2) (t:=3) (u:=4) (per:=c3 (cw (ns.take 40) gD hn) c5 a6 [.V [],.V []]) (ps:=fJ) (w:=2+eU) (by exact B4 bV) (by exact HT cP eC ea hE) (by decide) rfl rfl
 have xn:=Bl (b:=true) (m:=m+2) (t:=1) (u:=2) (per:=c3 (cw (ns.take 40) gD hn) c5 a6 [.V lc,.V [(.str "Root",au kK)]]) bH rfl rfl
 have xA:=Bl (b:=true) (m:=m+2) (t:=3) (u:=4) (per:=c3 (cw (ns.take 40) gD hn) c5 a6 [.V lc,.V [(.str "Root",au kK)]]) O rfl rfl
 replace xn:=fl▸xn
 replace xA:=bR▸xA
 refine dz (nl (cells:=ns.take 40) (s:=gD) (k:=3) true (m+9) hn [.V c5,.V [(.str "Root",au a6)],.V lc,.V [(.str "Root",au kK)]] e8 (by exact Vu cE cP dG ez ea fH mP) (by exact x9) (by exact xG)) ?_;intro ve um lh AG n3 yA
 refine dz (nl (cells:=ns.take 40) (s:=um) (k:=2) true (m+9) lh [.V c5,.V [(.str "Root",au a6)],.V lc,.V [(.str "Root",au kK)]] e8 (by exact R1 cE cP dG ez ea fH mP n3) (by exact N5) (by exact Ql)) ?_;intro BV C7 ov z4 YA Uo
 have tI:(ci (df.ai [])).length=fJ.length:=by(refine bu fl ?_;refine B (List.length_map _) ?_;rfl)
 have Oe:=A5 (m:=m+2) (pn:=cw (ns.take 40) um lh) (rest:=[.V lc,.V [(.str "Root",au kK)]]) bH b7 c7 (by exact AM cP eC fe ea) (a:= -1-ve) (.inl (by exact VW))
 have Li:=A5 (m:=m+2) (pn:=cw (ns.take 40) C7 ov) (rest:=[.V lc,.V [(.str "Root",au kK)]]) bH b7 c7 (by exact AM cP eC fe ea) (a:=fJ.length+1+BV) (.inr (by exact OO tI))
 have gq:=ir (l:=dh fJ) (by unfold dh;refine B (List.length_map _) ?_;unfold a4;exact LY cP eC ea hE)
 replace gq:=(show(dh fJ).length=fJ.length from List.length_map _)▸gq
 have Wm:=Ko (b:=true) (m:=m+9) (per:=[]) (ns:=ns) (by exact Jv ey)
 refine⟨c3 (cw (ns.take 40) C7 ov) c5 a6 [.V lc,.V [(.str "Root",au kK)]],c6 Mb ?_⟩
 have oz:(aJ true (aH true (m+10)) (aH false (m+10)) 40 (bO (aI 55))).dg (ce (aI 55) 1) ⟨[("script",.U (.am (ns.map .int))),("pen",.U (.per 0))],[cw (ns.take 40) 0 0]⟩=
   some (.next,⟨[("script",.U (.am (ns.map .int))),("pen",.U (.per 0)),("shelf",.U (bB 1 2)),("other",.U (bB 3 4)),("width",.U (.int (2+eU:Nat)))],[cw (ns.take 40) d5 d1,.V [],.V [],.V [],.V []]⟩):=by
  refine B d9 ?_
  exact lq (vs:=[bB 1 2,bB 3 4,.int (2+eU)]) rfl (kx (bM rfl rfl (bM rfl rfl (bM (dB rfl (dt rfl rfl cX) rfl rfl rfl) rfl rfl))) (Nat.le_of_ble_eq_true rfl)) (Nat.le_of_ble_eq_true rfl) rfl
 have oc:(aJ true (aH true (m+10)) (aH false (m+10)) 40 (bO (aI 55))).dg (ce (aI 55) 2) ⟨[("script",.U (.am (ns.map .int))),("pen",.U (.per 0)),("shelf",.U (bB 1 2)),("other",.U (bB 3 4)),("width",.U (.int (2+eU:Nat)))],[cw (ns.take 40) d5 d1,.V [],.V [],.V [],.V []]⟩=
   some (.next,ew (.am (ns.map .int)) (2+eU) (.aD (.am (dh ps))) [] [cw (ns.take 40) fF im,.V [],.V [],.V [],.V []]):=
  fC (hS (uN rfl (ds (dt rfl rfl lD) rfl) (by exact Js cP)) (by(refine B (List.length_map _) ?_;refine B List.length_range ?_);unfold a4;exact Kr cP) rfl hX) rfl
 have nQ:(aJ true (aH true (m+10)) (aH false (m+10)) 40 (bO (aI 55))).dg (ce (aI 55) 3) (ew (.am (ns.map .int)) (2+eU) (.aD (.am (dh ps))) [] [cw (ns.take 40) fF im,.V [],.V [],.V [],.V []])=
   some (.next,ew (.am (ns.map .int)) (2+eU) (.U (.am (dh ps))) [] (c3 (cw (ns.take 40) fF im) tab a6 [.V [],.V []])):=
  by apply nv (fs₁:=ew (.am (ns.map .int)) (2+eU) (.U (.am (dh ps))) [] [cw (ns.take 40) fF im,.V [],.V [],.V [],.V []]) (hc:=ak)<;>first|rfl|decide+kernel
 have un:(aJ true (aH true (m+10)) (aH false (m+10)) 40 (bO (aI 55))).dg (ce (aI 55) 4) (ew (.am (ns.map .int)) (2+eU) (.U (.am (dh ps))) [] (c3 (cw (ns.take 40) fF im) tab a6 [.V [],.V []]))=
   some (.next,ew (.am (ns.map .int)) (2+eU) (.U (.am (dh fJ))) ext (c3 (cw (ns.take 40) gD hn) c5 a6 [.V [],.V []])):=
  g7 (uN rfl (ds (dt rfl rfl ht) rfl) (by exact HA ea)) rI
 have Tz:(aJ true (aH true (m+10)) (aH false (m+10)) 40 (bO (aI 55))).dg (ce (aI 55) 5) (ew (.am (ns.map .int)) (2+eU) (.U (.am (dh fJ))) ext (c3 (cw (ns.take 40) gD hn) c5 a6 [.V [],.V []]))=
   some (.next,ew (.am (ns.map .int)) (2+eU) (.U (.am (dh fJ))) ext (c3 (cw (ns.take 40) gD hn) c5 a6 [.V lc,.V [(.str "Root",au kK)]])):=
  by apply nv (fs₁:=ew (.am (ns.map .int)) (2+eU) (.U (.am (dh fJ))) ext (c3 (cw (ns.take 40) gD hn) c5 a6 [.V [],.V []])) (hc:=M)<;>first|rfl|decide+kernel
 have HM:(aJ true (aH true (m+10)) (aH false (m+10)) 40 (bO (aI 55))).dg (ce (aI 55) 6) (ew (.am (ns.map .int)) (2+eU) (.U (.am (dh fJ))) ext (c3 (cw (ns.take 40) gD hn) c5 a6 [.V lc,.V [(.str "Root",au kK)]]))=
   some (.next,ew (.am (ns.map .int)) (2+eU) (.U (.am (dh fJ))) ext (c3 (cw (ns.take 40) gD hn) c5 a6 [.V lc,.V [(.str "Root",au kK)]])):=
  co false (cS (dt rfl rfl xn) (dt rfl rfl xA) rfl rfl (Ap fun v ay=>by obtain⟨p,_,rfl⟩:=List.mem_map.mp ay;exact(x1 (k:=23)).1) rfl) rfl
 apply dr rfl
 ·refine aO (fC (dt rfl rfl Wm) rfl) ?_
  refine aO oz (aO oc (aO nQ (aO un (aO Tz (aO HM ?_)))))
  exact cu (dC (B5 (dt rfl (bM rfl rfl (bM (dB rfl (dt rfl rfl yA) rfl rfl rfl) rfl rfl)) Oe) (dt rfl (bM rfl rfl (bM (dB (dB (e9 rfl rfl rfl gq) rfl rfl rfl rfl) (dt rfl rfl Uo) rfl rfl rfl) rfl rfl)) Li)) rfl)
 ·rfl
end
end Mine
end
open PySem
theorem PySem.Challenge.cw_og0185_01_holds : PySem.Challenge.rw_og0185_01.Holds :=
  Mine.L8 (Mine.Iz fun ns h=>Mine.Pn (m:=9) ns h)
