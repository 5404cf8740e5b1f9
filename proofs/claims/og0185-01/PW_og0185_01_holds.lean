import PyProof.Rows.All
import Wide.All
import Open.Line
import Open.Boot
import Open.Tree
import OpenK.KCall
import OpenK.AllK
import Wide.FinOn
import Lean
import PySem.Challenge.RW_og0185_01
set_option Elab.async false
set_option maxRecDepth 100000
set_option maxHeartbeats 8000000
set_option linter.unusedVariables false
set_option genSizeOf false
section
open PySem PySem.W PySem.Calls PyProof.Rows
namespace Hd
section
noncomputable abbrev aw:Program:=PySem.Challenge.pw_og0185_01
noncomputable abbrev o (s:String):Str:=Str.ofString s
noncomputable def aI (i:Nat):Stmt:=(aw.main.body[i]?).getD default
noncomputable def cH (i j:Nat):Stmt:=match aI i with
 |.ClassDef _ _ _ b _ _ _ _ _ _ _=>(b[j]?).getD default
 |s=>s
noncomputable def s0:Stmt->Arguments
 |.FunctionDef _ a _ _ _ _ _ _ _ _=>a
 |_=>default
noncomputable def g3:Stmt->List Stmt
 |.FunctionDef _ _ b _ _ _ _ _ _ _=>b
 |_=>[]
noncomputable def bN:Stmt->Scope
 |.FunctionDef _ _ _ _ _ _ J _ _ _=>J
 |_=>default
noncomputable abbrev S (s:String) (n:Nat):Value:=.str (o s) n
noncomputable abbrev I (k:Int):Value:=.int k 0
noncomputable abbrev R (n:Nat):Value:=.ref n
noncomputable abbrev T (l:List Value):Obj:=⟨.type "tuple",none,.seq ⟨l⟩ 0,#[]⟩
noncomputable abbrev dw (l:List Value):Obj:=⟨.none,none,.fields ⟨l⟩,#[]⟩
noncomputable def i7 (c:Int):List (Int×Nat)->List Value
 |[]=>[]
 |(a,b)::l=>I a::I c::R b::i7 c l
noncomputable abbrev e (s:String) (t:Nat) (v:Value) (P:Params):DictEntry:=⟨PyData.keyHash P (o s),.str (o s) t,v⟩
noncomputable abbrev r (s:String) (t:Nat) (n:Nat) (P:Params):DictEntry:=e s t (R n) P
noncomputable def hg (P:Params):List (Params->DictEntry)->List DictEntry
 |[]=>[]
 |f::l=>f P::hg P l
noncomputable abbrev D (P:Params) (l:List (Params->DictEntry)) (n:Nat):Obj:=⟨.type "dict",none,.dict ⟨hg P l⟩ n,#[]⟩
noncomputable abbrev FD (P:Params) (l:List (Params->DictEntry)) (n:Nat):Obj:=⟨.none,none,.dict ⟨hg P l⟩ n,#[]⟩
noncomputable def Gs (n:Nat):List String->List Value
 |[]=>[]
 |s::l=>S s n::Gs (n+1) l
noncomputable abbrev gX (n:Nat):Value:=S "/claim/cut.py" n
noncomputable abbrev wz (a t:Nat) (L qM:Int) (n q:String) (b:Bool) (c:Int) (e:Nat) (u v w:Value):Obj:=⟨.type "code",none,.fields ⟨[S n t,S q (t+1),gX (t+2),I L,I qM,I 0,I 0,I c,R a,.bool b,I 181,R (a+1),.none,u,v,w,I e,I L,gX (e+1)]⟩,#[]⟩
noncomputable abbrev K (n:String) (t:Nat) (L:Int) (a:Nat):Obj:=wz a t L 0 n n false 0 (t+3) .none .none .none
noncomputable abbrev jz (a b:Nat) (m:Value):Obj:=⟨.type "frame",none,.plain,#[some (R a),some (R 3),some (R b),none,some m,none,some (R 0)]⟩
noncomputable abbrev av (s:String) (l:List Value):Obj:=⟨.type s,none,.fields ⟨l⟩,#[]⟩
noncomputable abbrev W (n:String) (b m:List Value) (s:Nat) (c:List Value) (l:List (Option Value)):Obj:=⟨.type "type",none,.cls {name:=o n,bases:=b,mro:=m,ns:=s,qualname:=o n,hasDict:=true,slotNames:=[],subclasses:=c,abstract:=false,collection:=none,hasDel:=false},⟨l⟩⟩
noncomputable abbrev G (n q:String) (s:Stmt):Obj:=⟨.none,none,.func {name:=o n,qualname:=o q,params:=s0 s,body:=.stmts (g3 s),scope:=bN s,globals:=0,closure:=[],defaults:=.none,kwdefaults:=.none,doc:=.none,pyModule:=.none,annotations:=none,code:=.none,closureTuple:=.none,builtins:=0},#[]⟩
noncomputable abbrev N (k:Nat) (n q:String) (s:Stmt) (d m:Value):Obj:=⟨.type "function",none,.func (fnOf (o n) (o q) (s0 s) (g3 s) (bN s) d .none .none m none (R k) .none),#[]⟩
noncomputable def F (a t:Nat) (L qM:Int) (n q:String) (ns:List String) (s:Stmt) (d m:Value) (z:List Obj):List Obj:=
 T []::dw []::T (Gs (t+3) ns)::T []::G n q s::wz a t L qM n q true 3 (t+3+ns.length) (R (a+2)) (R (a+3)) (R (a+4))::N (a+5) n q s d m::z
noncomputable def E (a t:Nat) (L qM:Int) (n q:String) (s:Stmt) (d m:Value) (z:List Obj):List Obj:=
 T []::dw []::G n q s::wz a t L qM n q true 3 (t+3) .none .none (R (a+2))::N (a+3) n q s d m::z
noncomputable abbrev En:=S "__main__" 164
noncomputable abbrev uh:=S "paperhold.errors" 194
noncomputable abbrev iM:=S "paperhold.decimals" 252
noncomputable abbrev fu:=S "paperhold.objects" 375
noncomputable abbrev eS:=S "paperhold.pagetree" 652
noncomputable abbrev nM:=S "law_og0185_01" 951
noncomputable def ie (P:Params) (a3 b0 VW:Obj) (z:List Obj):List Obj:=
 boot_o_0 P::
 boot_o_1 P::
 a3::
 b0::
 boot_o_4 P::
 boot_o_5 P::
 boot_o_6 P::
 boot_o_7 P::
 boot_o_8 P::
 boot_o_9 P::
 boot_o_10 P::
 T []::
 VW::
 K "<module>" 182 1 11::
 jz 13 3 En::z
noncomputable def ez (P:Params) (z:List Obj):List Obj:=
 F 15 187 1 1 "_wall" "_wall" ["k"] (aI 0) .none En (
 T [.type "Exception"]::
 av "builtin_function_or_method" [.builtin "type.__prepare__",.type "type"]::
 D P [e "__module__" 203 (S "paperhold.errors" 194),e "__qualname__" 205 (S "PaperError" 204),e "__firstlineno__" 207 (.int 5 206),r "__init__" 218 36,r "told" 225 43,r "__static_attributes__" 228 44] 6::
 T []::
 dw (i7 4 [(7,35),(12,42)])::
 K "PaperError" 198 5 25::
 jz 27 24 uh::
 T [.int (-1) 209]::
 F 30 210 7 3 "__init__" "PaperError.__init__" ["self","what","at"] (cH 2 0) (R 29) uh (
 F 37 219 12 1 "told" "PaperError.told" ["self"] (cH 2 1) .none uh (
 T [S "at" 226,S "what" 227]::
 D P [e "__module__" 203 (S "paperhold.errors" 194),e "__firstlineno__" 207 (.int 5 206),r "__init__" 218 36,r "told" 225 43,r "__static_attributes__" 228 44,r "__weakref__" 230 47,e "__doc__" 231 .none] 3::
 W "PaperError" [.type "Exception"] [R 46,.type "Exception",.type "BaseException",.type "object"] 45 [R 59] [some (R 22),none,some (S "PaperError" 196),some (S "PaperError" 204),some (.builtin "Exception.__new__"),some (.bool true)]::
 av "getset_descriptor" [S "__weakref__" 229,R 46,.builtin "ExceptionGroup.__weakref__",.none]::
 av "super" [R 46,R 46,R 46]::
 av "builtin_function_or_method" [.builtin "object.__init_subclass__",R 46]::
 T [R 46]::
 av "builtin_function_or_method" [.builtin "type.__prepare__",.type "type"]::
 D P [e "__module__" 243 (S "paperhold.errors" 194),e "__qualname__" 245 (S "TreeFault" 244),e "__firstlineno__" 247 (.int 14 246),r "__static_attributes__" 248 57] 4::
 T []::
 dw []::
 K "TreeFault" 238 14 53::
 jz 55 52 uh::
 T []::
 D P [e "__module__" 243 (S "paperhold.errors" 194),e "__firstlineno__" 247 (.int 14 246),r "__static_attributes__" 248 57,e "__doc__" 249 .none] 2::
 W "TreeFault" [R 46] [R 59,R 46,.type "Exception",.type "BaseException",.type "object"] 58 [] [some (R 50),none,some (S "TreeFault" 236),some (S "TreeFault" 244),some (.builtin "Exception.__new__"),some (.bool true)]::
 av "super" [R 59,R 59,R 59]::
 av "builtin_function_or_method" [.builtin "object.__init_subclass__",R 59]::
 T []::z)))
noncomputable def ey (P:Params) (z:List Obj):List Obj:=
 av "builtin_function_or_method" [.builtin "type.__prepare__",.type "type"]::
 D P [e "__module__" 261 (S "paperhold.decimals" 252),e "__qualname__" 263 (S "Decimal" 262),e "__firstlineno__" 265 (.int 17 264),r "__init__" 274 75,r "plus" 282 82,r "minus" 290 89,r "times" 298 96,r "negated" 305 103,r "compared" 313 110,r "is_whole" 320 117,r "floor" 327 124,r "rounded" 335 131,r "told" 342 138,r "text" 350 145,r "least_text" 357 152,r "__static_attributes__" 360 153] 16::
 T []::
 dw (i7 4 [(19,74),(26,81),(29,88),(32,95),(35,102),(38,109),(41,116),(44,123),(47,130),(50,137),(53,144),(60,151)])::
 K "Decimal" 256 17 65::
 jz 67 64 iM::
 F 69 266 19 3 "__init__" "Decimal.__init__" ["self","top","places"] (cH 5 0) .none iM (
 F 76 275 26 2 "plus" "Decimal.plus" ["self","other"] (cH 5 1) .none iM (
 F 83 283 29 2 "minus" "Decimal.minus" ["self","other"] (cH 5 2) .none iM (
 F 90 291 32 2 "times" "Decimal.times" ["self","other"] (cH 5 3) .none iM (
 F 97 299 35 1 "negated" "Decimal.negated" ["self"] (cH 5 4) .none iM (
 F 104 306 38 2 "compared" "Decimal.compared" ["self","other"] (cH 5 5) .none iM (z))))))
noncomputable def hW (P:Params) (z:List Obj):List Obj:=
 F 111 314 41 1 "is_whole" "Decimal.is_whole" ["self"] (cH 5 6) .none iM (
 F 118 321 44 1 "floor" "Decimal.floor" ["self"] (cH 5 7) .none iM (
 F 125 328 47 2 "rounded" "Decimal.rounded" ["self","places"] (cH 5 8) .none iM (
 F 132 336 50 1 "told" "Decimal.told" ["self"] (cH 5 9) .none iM (
 F 139 343 53 1 "text" "Decimal.text" ["self","numerals"] (cH 5 10) .none iM (
 F 146 351 60 1 "least_text" "Decimal.least_text" ["self"] (cH 5 11) .none iM (
 T [S "places" 358,S "top" 359]::
 D P [e "__module__" 261 (S "paperhold.decimals" 252),e "__firstlineno__" 265 (.int 17 264),r "__init__" 274 75,r "plus" 282 82,r "minus" 290 89,r "times" 298 96,r "negated" 305 103,r "compared" 313 110,r "is_whole" 320 117,r "floor" 327 124,r "rounded" 335 131,r "told" 342 138,r "text" 350 145,r "least_text" 357 152,r "__static_attributes__" 360 153,r "__dict__" 362 156,r "__weakref__" 364 157,e "__doc__" 365 .none] 4::
 W "Decimal" [.type "object"] [R 155,.type "object"] 154 [] [none,none,some (S "Decimal" 254),some (S "Decimal" 262),some (.builtin "object.__new__"),some (.bool true)]::
 av "getset_descriptor" [S "__dict__" 361,R 155,.builtin "function.__dict__",.builtin "function.__dict__#set"]::
 av "getset_descriptor" [S "__weakref__" 363,R 155,.builtin "ExceptionGroup.__weakref__",.none]::
 av "super" [R 155,R 155,R 155]::z))))))
noncomputable def ng (P:Params) (z:List Obj):List Obj:=
 av "builtin_function_or_method" [.builtin "object.__init_subclass__",R 155]::
 F 160 368 62 1 "sign_text" "sign_text" ["number"] (aI 6) .none iM (
 T []::
 av "builtin_function_or_method" [.builtin "type.__prepare__",.type "type"]::
 D P [e "__module__" 386 (S "paperhold.objects" 375),e "__qualname__" 388 (S "Name" 387),e "__firstlineno__" 390 (.int 66 389),r "__init__" 398 180,r "__static_attributes__" 400 181] 5::
 T []::
 dw (i7 4 [(68,179)])::
 K "Name" 381 66 170::
 jz 172 169 fu::
 F 174 391 68 2 "__init__" "Name.__init__" ["self","text"] (cH 9 0) .none fu (
 T [S "text" 399]::
 D P [e "__module__" 386 (S "paperhold.objects" 375),e "__firstlineno__" 390 (.int 66 389),r "__init__" 398 180,r "__static_attributes__" 400 181,r "__dict__" 402 184,r "__weakref__" 404 185,e "__doc__" 405 .none] 4::
 W "Name" [.type "object"] [R 183,.type "object"] 182 [] [none,none,some (S "Name" 379),some (S "Name" 387),some (.builtin "object.__new__"),some (.bool true)]::
 av "getset_descriptor" [S "__dict__" 401,R 183,.builtin "function.__dict__",.builtin "function.__dict__#set"]::
 av "getset_descriptor" [S "__weakref__" 403,R 183,.builtin "ExceptionGroup.__weakref__",.none]::
 av "super" [R 183,R 183,R 183]::
 av "builtin_function_or_method" [.builtin "object.__init_subclass__",R 183]::
 T []::
 av "builtin_function_or_method" [.builtin "type.__prepare__",.type "type"]::
 D P [e "__module__" 415 (S "paperhold.objects" 375),e "__qualname__" 417 (S "String" 416),e "__firstlineno__" 419 (.int 70 418),r "__init__" 428 202,r "__static_attributes__" 431 203] 5::
 T []::
 dw (i7 4 [(72,201)])::
 K "String" 410 70 191::
 jz 193 190 fu::
 T [.bool false]::
 F 196 420 72 3 "__init__" "String.__init__" ["self","octets","is_hex"] (cH 10 0) (R 195) fu (
 T [S "is_hex" 429,S "octets" 430]::
 D P [e "__module__" 415 (S "paperhold.objects" 375),e "__firstlineno__" 419 (.int 70 418),r "__init__" 428 202,r "__static_attributes__" 431 203,r "__dict__" 433 206,r "__weakref__" 435 207,e "__doc__" 436 .none] 4::
 W "String" [.type "object"] [R 205,.type "object"] 204 [] [none,none,some (S "String" 408),some (S "String" 416),some (.builtin "object.__new__"),some (.bool true)]::
 av "getset_descriptor" [S "__dict__" 432,R 205,.builtin "function.__dict__",.builtin "function.__dict__#set"]::z)))
noncomputable def kE (P:Params) (z:List Obj):List Obj:=
 av "getset_descriptor" [S "__weakref__" 434,R 205,.builtin "ExceptionGroup.__weakref__",.none]::
 av "super" [R 205,R 205,R 205]::
 av "builtin_function_or_method" [.builtin "object.__init_subclass__",R 205]::
 T []::
 av "builtin_function_or_method" [.builtin "type.__prepare__",.type "type"]::
 D P [e "__module__" 446 (S "paperhold.objects" 375),e "__qualname__" 448 (S "Stream" 447),e "__firstlineno__" 450 (.int 75 449),r "__init__" 459 223,r "__static_attributes__" 462 224] 5::
 T []::
 dw (i7 4 [(77,222)])::
 K "Stream" 441 75 213::
 jz 215 212 fu::
 F 217 451 77 3 "__init__" "Stream.__init__" ["self","head","octets"] (cH 11 0) .none fu (
 T [S "head" 460,S "octets" 461]::
 D P [e "__module__" 446 (S "paperhold.objects" 375),e "__firstlineno__" 450 (.int 75 449),r "__init__" 459 223,r "__static_attributes__" 462 224,r "__dict__" 464 227,r "__weakref__" 466 228,e "__doc__" 467 .none] 4::
 W "Stream" [.type "object"] [R 226,.type "object"] 225 [] [none,none,some (S "Stream" 439),some (S "Stream" 447),some (.builtin "object.__new__"),some (.bool true)]::
 av "getset_descriptor" [S "__dict__" 463,R 226,.builtin "function.__dict__",.builtin "function.__dict__#set"]::
 av "getset_descriptor" [S "__weakref__" 465,R 226,.builtin "ExceptionGroup.__weakref__",.none]::
 av "super" [R 226,R 226,R 226]::
 av "builtin_function_or_method" [.builtin "object.__init_subclass__",R 226]::
 T []::
 av "builtin_function_or_method" [.builtin "type.__prepare__",.type "type"]::
 D P [e "__module__" 477 (S "paperhold.objects" 375),e "__qualname__" 479 (S "Reference" 478),e "__firstlineno__" 481 (.int 80 480),r "__init__" 490 244,r "pair" 497 251,r "__static_attributes__" 500 252] 6::
 T []::
 dw (i7 4 [(82,243),(86,250)])::
 K "Reference" 472 80 234::
 jz 236 233 fu::
 F 238 482 82 3 "__init__" "Reference.__init__" ["self","number","generation"] (cH 12 0) .none fu (
 F 245 491 86 1 "pair" "Reference.pair" ["self"] (cH 12 1) .none fu (
 T [S "generation" 498,S "number" 499]::
 D P [e "__module__" 477 (S "paperhold.objects" 375),e "__firstlineno__" 481 (.int 80 480),r "__init__" 490 244,r "pair" 497 251,r "__static_attributes__" 500 252,r "__dict__" 502 255,r "__weakref__" 504 256,e "__doc__" 505 .none] 4::
 W "Reference" [.type "object"] [R 254,.type "object"] 253 [] [none,none,some (S "Reference" 470),some (S "Reference" 478),some (.builtin "object.__new__"),some (.bool true)]::z)))
noncomputable def o0 (P:Params) (z:List Obj):List Obj:=
 av "getset_descriptor" [S "__dict__" 501,R 254,.builtin "function.__dict__",.builtin "function.__dict__#set"]::
 av "getset_descriptor" [S "__weakref__" 503,R 254,.builtin "ExceptionGroup.__weakref__",.none]::
 av "super" [R 254,R 254,R 254]::
 av "builtin_function_or_method" [.builtin "object.__init_subclass__",R 254]::
 F 259 508 88 1 "kind_of" "kind_of" ["value"] (aI 13) .none fu (
 F 266 515 110 2 "told_plain" "told_plain" ["kind","value"] (aI 14) .none fu (
 E 273 523 124 1 "told" "told" (aI 15) .none fu (
 E 278 530 134 1 "copied" "copied" (aI 17) .none fu (
 T []::
 av "builtin_function_or_method" [.builtin "type.__prepare__",.type "type"]::
 D P [e "__module__" 543 (S "paperhold.objects" 375),e "__qualname__" 545 (S "Lookup" 544),e "__firstlineno__" 547 (.int 143 546),r "__init__" 556 297,r "fetch" 568 304,r "get" 577 311,r "__static_attributes__" 580 312] 7::
 T []::
 dw (i7 4 [(145,296),(149,303),(160,310)])::
 K "Lookup" 538 143 286::
 jz 288 285 fu::
 T [.none,.none]::
 F 291 548 145 3 "__init__" "Lookup.__init__" ["self","table","trailer"] (cH 18 0) (R 290) fu (
 F 298 557 149 2 "fetch" "Lookup.fetch" ["self","value","here","hop","generation","found"] (cH 18 1) .none fu (z))))))
noncomputable def py (P:Params) (Qu:Obj) (z:List Obj):List Obj:=
 F 305 569 160 3 "get" "Lookup.get" ["self","head","key"] (cH 18 2) .none fu (
 T [S "table" 578,S "trailer" 579]::
 D P [e "__module__" 543 (S "paperhold.objects" 375),e "__firstlineno__" 547 (.int 143 546),r "__init__" 556 297,r "fetch" 568 304,r "get" 577 311,r "__static_attributes__" 580 312,r "__dict__" 582 315,r "__weakref__" 584 316,e "__doc__" 585 .none] 4::
 Qu::
 av "getset_descriptor" [S "__dict__" 581,R 314,.builtin "function.__dict__",.builtin "function.__dict__#set"]::
 av "getset_descriptor" [S "__weakref__" 583,R 314,.builtin "ExceptionGroup.__weakref__",.none]::
 av "super" [R 314,R 314,R 314]::
 av "builtin_function_or_method" [.builtin "object.__init_subclass__",R 314]::z)
noncomputable def Rd (P:Params) (z:List Obj):List Obj:=
 T [R 314]::
 av "builtin_function_or_method" [.builtin "type.__prepare__",.type "type"]::
 D P [e "__module__" 595 (S "paperhold.objects" 375),e "__qualname__" 597 (S "Shelf" 596),e "__firstlineno__" 599 (.int 162 598),r "put" 609 332,r "add" 618 339,r "drop" 626 346,r "numbers" 633 353,r "root" 641 360,r "told" 647 365,r "__static_attributes__" 648 366] 10::
 T []::
 dw (i7 4 [(164,331),(167,338),(174,345),(177,352),(180,359),(184,364)])::
 K "Shelf" 590 162 322::
 jz 324 321 fu::
 F 326 600 164 4 "put" "Shelf.put" ["self","number","generation","value"] (cH 19 0) .none fu (
 F 333 610 167 2 "add" "Shelf.add" ["self","value","number"] (cH 19 1) .none fu (
 F 340 619 174 2 "drop" "Shelf.drop" ["self","number"] (cH 19 2) .none fu (
 F 347 627 177 1 "numbers" "Shelf.numbers" ["self"] (cH 19 3) .none fu (
 F 354 634 180 1 "root" "Shelf.root" ["self","found"] (cH 19 4) .none fu (
 E 361 642 184 1 "told" "Shelf.told" (cH 19 5) .none fu (
 T []::z))))))
noncomputable def IZ (P:Params) (z:List Obj):List Obj:=
 D P [e "__module__" 595 (S "paperhold.objects" 375),e "__firstlineno__" 599 (.int 162 598),r "put" 609 332,r "add" 618 339,r "drop" 626 346,r "numbers" 633 353,r "root" 641 360,r "told" 647 365,r "__static_attributes__" 648 366,e "__doc__" 649 .none] 2::
 W "Shelf" [R 314] [R 368,R 314,.type "object"] 367 [] [some (R 319),none,some (S "Shelf" 588),some (S "Shelf" 596),some (.builtin "object.__new__"),some (.bool true)]::
 av "super" [R 368,R 368,R 368]::
 av "builtin_function_or_method" [.builtin "object.__init_subclass__",R 368]::
 T [S "Resources" 654,S "MediaBox" 655,S "CropBox" 656,S "Rotate" 657]::
 T []::
 av "builtin_function_or_method" [.builtin "type.__prepare__",.type "type"]::
 D P [e "__module__" 666 (S "paperhold.pagetree" 652),e "__qualname__" 668 (S "Page" 667),e "__firstlineno__" 670 (.int 189 669),r "__init__" 679 385,r "__static_attributes__" 682 386] 5::
 T []::
 dw (i7 4 [(191,384)])::
 K "Page" 661 189 375::
 jz 377 374 eS::
 F 379 671 191 3 "__init__" "Page.__init__" ["self","reference","fields"] (cH 22 0) .none eS (
 T [S "fields" 680,S "reference" 681]::
 D P [e "__module__" 666 (S "paperhold.pagetree" 652),e "__firstlineno__" 670 (.int 189 669),r "__init__" 679 385,r "__static_attributes__" 682 386,r "__dict__" 684 389,r "__weakref__" 686 390,e "__doc__" 687 .none] 4::
 W "Page" [.type "object"] [R 388,.type "object"] 387 [] [none,none,some (S "Page" 659),some (S "Page" 667),some (.builtin "object.__new__"),some (.bool true)]::
 av "getset_descriptor" [S "__dict__" 683,R 388,.builtin "function.__dict__",.builtin "function.__dict__#set"]::
 av "getset_descriptor" [S "__weakref__" 685,R 388,.builtin "ExceptionGroup.__weakref__",.none]::
 av "super" [R 388,R 388,R 388]::
 av "builtin_function_or_method" [.builtin "object.__init_subclass__",R 388]::
 T []::
 av "builtin_function_or_method" [.builtin "type.__prepare__",.type "type"]::
 D P [e "__module__" 697 (S "paperhold.pagetree" 652),e "__qualname__" 699 (S "Spot" 698),e "__firstlineno__" 701 (.int 194 700),r "__init__" 713 406,r "__static_attributes__" 719 407] 5::
 T []::
 dw (i7 4 [(196,405)])::
 K "Spot" 692 194 396::
 jz 398 395 eS::
 F 400 702 196 6 "__init__" "Spot.__init__" ["self","reference","head","above","inherited","is_page"] (cH 23 0) .none eS (
 T [S "above" 714,S "head" 715,S "inherited" 716,S "is_page" 717,S "reference" 718]::
 D P [e "__module__" 697 (S "paperhold.pagetree" 652),e "__firstlineno__" 701 (.int 194 700),r "__init__" 713 406,r "__static_attributes__" 719 407,r "__dict__" 721 410,r "__weakref__" 723 411,e "__doc__" 724 .none] 4::
 W "Spot" [.type "object"] [R 409,.type "object"] 408 [] [none,none,some (S "Spot" 690),some (S "Spot" 698),some (.builtin "object.__new__"),some (.bool true)]::
 av "getset_descriptor" [S "__dict__" 720,R 409,.builtin "function.__dict__",.builtin "function.__dict__#set"]::
 av "getset_descriptor" [S "__weakref__" 722,R 409,.builtin "ExceptionGroup.__weakref__",.none]::
 av "super" [R 409,R 409,R 409]::
 av "builtin_function_or_method" [.builtin "object.__init_subclass__",R 409]::
 F 414 727 202 2 "turned" "turned" ["head","changes","found","key"] (aI 24) .none eS (z)))
noncomputable def Mf (P:Params) (z:List Obj):List Obj:=
 F 421 737 210 2 "home_of" "home_of" ["shelf","value","here","seen","generation","found"] (aI 25) .none eS (
 F 428 749 222 2 "is_node" "is_node" ["shelf","head","kind"] (aI 26) .none eS (
 F 435 758 227 2 "kids_of" "kids_of" ["shelf","head","kids"] (aI 27) .none eS (
 F 442 767 232 4 "met" "met" ["shelf","value","above","inherited","reference","head","given","key"] (aI 28) .none eS (
 F 449 781 242 1 "spots" "spots" ["shelf","found","seen","line","value","above","inherited","spot","kid"] (aI 29) .none eS (
 F 456 796 257 2 "fields_of" "fields_of" ["shelf","spot","found","key"] (aI 30) .none eS (
 E 463 806 263 1 "page_spots" "page_spots" (aI 31) .none eS (
 E 468 812 265 1 "pages" "pages" (aI 32) .none eS (z))))))))
noncomputable def VY (P:Params) (z:List Obj):List Obj:=
 F 473 818 267 1 "page_count" "page_count" ["shelf","count"] (aI 33) .none eS (
 F 480 826 272 1 "is_count" "is_count" ["value"] (aI 34) .none eS (
 F 487 833 274 2 "page_at" "page_at" ["shelf","at","spot","left"] (aI 35) .none eS (
 F 494 843 284 3 "kid_with" "kid_with" ["shelf","spot","left","kid","below","count"] (aI 36) .none eS (
 F 501 855 294 1 "counts_of" "counts_of" ["found","counts","spot","node"] (aI 37) .none eS (
 F 508 865 303 1 "is_parent" "is_parent" ["spot","parent"] (aI 38) .none eS (
 F 515 873 308 1 "page_faults" "page_faults" ["shelf","found","counts","faults","spot","number"] (aI 39) .none eS (z)))))))
noncomputable def Va (P:Params) (z:List Obj):List Obj:=
 F 522 885 321 1 "settle" "settle" ["shelf","found","counts","spot","changes"] (aI 40) .none eS (
 F 529 896 332 3 "lay" "lay" ["shelf","reference","head"] (aI 41) .none eS (
 E 536 905 334 2 "grouped" "grouped" (aI 42) .none eS (
 E 541 911 337 3 "build_pages" "build_pages" (aI 43) .none eS (
 E 546 917 352 2 "place_of" "place_of" (aI 44) .none eS (
 E 551 923 362 3 "kid_index" "kid_index" (aI 45) .none eS (
 F 556 929 364 3 "put_reference" "put_reference" ["shelf","at","reference","node","spot","kids"] (aI 46) .none eS (
 F 563 941 369 3 "insert_page" "insert_page" ["shelf","at","page_dict","reference"] (aI 47) .none eS (z))))))))
noncomputable def Jo (P:Params) (z:List Obj):List Obj:=
 E 570 953 375 1 "_law_pen" "_law_pen" (aI 49) .none nM (
 F 575 959 377 2 "_law_draw" "_law_draw" ["pen","many","digit","spot","cell","great","stirred"] (aI 50) .none nM (
 F 582 972 394 2 "_law_pick" "_law_pick" ["pen","some"] (aI 51) .none nM (
 F 589 980 396 2 "_law_page" "_law_page" ["pen","at","head"] (aI 52) .none nM (
 E 596 989 401 1 "_law_seen" "_law_seen" (aI 53) .none nM (
 F 601 995 406 2 "_law_refused" "_law_refused" ["shelf","at","before"] (aI 54) .none nM (
 E 608 1004 413 1 "law" "law" (aI 55) .none nM (z)))))))
noncomputable def tN (P:Params):List Obj:=ie P (boot_o_2 P) (boot_o_3 P) (dw []) []
noncomputable def Fb (P:Params):List Obj:=ie P (FD P [e "type.__subclasses__.Exception.0" 232 (I 46),e "type.__subclasses__.Exception.n" 233 (I 1)] 2) (D P [e "__name__" 165 (S "paperhold.objects" 375),e "__doc__" 166 .none,e "__package__" 167 .none,e "__loader__" 168 (.builtin "__main__.__loader__#opaque"),e "__spec__" 169 .none,r "__annotations__" 170 6,r "__builtins__" 171 4,e "__file__" 173 (S "/claim/cut.py" 172),e "__cached__" 174 .none,r "_wall" 193 21,r "PaperError" 235 46,r "TreeFault" 251 59,r "Decimal" 367 155,r "sign_text" 374 166,e "MOST_HOPS" 378 (.int 30 377),r "Name" 407 183,r "String" 438 205,r "Stream" 469 226,r "Reference" 507 254,r "kind_of" 514 265,r "told_plain" 522 272,r "told" 528 277,r "told_objects" 529 277,r "copied" 535 282,r "Lookup" 587 314] 25) (dw (i7 0 [(1,20),(5,27),(14,55),(17,67),(62,165),(66,172),(70,193),(75,215),(80,236),(88,264),(110,271),(124,276),(134,281),(143,288)])) (ez P (ey P (hW P (ng P (kE P (o0 P (py P (W "Lookup" [.type "object"] [R 314,.type "object"] 313 [] [none,none,some (S "Lookup" 536),some (S "Lookup" 544),some (.builtin "object.__new__"),some (.bool true)]) [])))))))
noncomputable def nG (P:Params):List Obj:=ie P (FD P [e "type.__subclasses__.Exception.0" 232 (I 46),e "type.__subclasses__.Exception.n" 233 (I 1)] 2) (D P [e "__name__" 165 (S "law_og0185_01" 951),e "__doc__" 166 .none,e "__package__" 167 .none,e "__loader__" 168 (.builtin "__main__.__loader__#opaque"),e "__spec__" 169 .none,r "__annotations__" 170 6,r "__builtins__" 171 4,e "__file__" 173 (S "/claim/cut.py" 172),e "__cached__" 174 .none,r "_wall" 193 21,r "PaperError" 235 46,r "TreeFault" 251 59,r "Decimal" 367 155,r "sign_text" 374 166,e "MOST_HOPS" 378 (.int 30 377),r "Name" 407 183,r "String" 438 205,r "Stream" 469 226,r "Reference" 507 254,r "kind_of" 514 265,r "told_plain" 522 272,r "told" 528 277,r "told_objects" 529 277,r "copied" 535 282,r "Lookup" 587 314,r "Shelf" 651 368,r "INHERITED" 658 371,r "Page" 689 388,r "Spot" 726 409,r "turned" 736 420,r "home_of" 748 427,r "is_node" 757 434,r "kids_of" 766 441,r "met" 780 448,r "spots" 795 455,r "fields_of" 805 462,r "page_spots" 811 467,r "pages" 817 472,r "page_count" 825 479,r "is_count" 832 486,r "page_at" 842 493,r "kid_with" 854 500,r "counts_of" 864 507,r "is_parent" 872 514,r "page_faults" 884 521,r "settle" 895 528,r "lay" 904 535,r "grouped" 910 540,r "build_pages" 916 545,r "place_of" 922 550,r "kid_index" 928 555,r "put_reference" 940 562,r "insert_page" 950 569,r "_law_pen" 958 574,r "_law_draw" 971 581,r "_law_pick" 979 588,r "_law_page" 988 595,r "_law_seen" 994 600,r "_law_refused" 1003 607,r "law" 1009 612] 60) (dw (i7 0 [(1,20),(5,27),(14,55),(17,67),(62,165),(66,172),(70,193),(75,215),(80,236),(88,264),(110,271),(124,276),(134,281),(143,288),(162,324),(189,377),(194,398),(202,419),(210,426),(222,433),(227,440),(232,447),(242,454),(257,461),(263,466),(265,471),(267,478),(272,485),(274,492),(284,499),(294,506),(303,513),(308,520),(321,527),(332,534),(334,539),(337,544),(352,549),(362,554),(364,561),(369,568),(375,573),(377,580),(394,587),(396,594),(401,599),(406,606),(413,611)])) (ez P (ey P (hW P (ng P (kE P (o0 P (py P (W "Lookup" [.type "object"] [R 314,.type "object"] 313 [R 368] [none,none,some (S "Lookup" 536),some (S "Lookup" 544),some (.builtin "object.__new__"),some (.bool true)]) (Rd P (IZ P (Mf P (VY P (Va P (Jo P [])))))))))))))
noncomputable def OS (l:List Obj):BT:=(l.foldl (fun(p:BT×Nat) o=>(p.1.ins p.2 o,p.2+1)) (.nil,0)).1
noncomputable def Ff:Life:={}
noncomputable def um:Env:={scope:=aw.main.scope,locals:=mainNs,globals:=mainNs,cells:=[],code:=.ref 13,frame:=some 14}
noncomputable def lW:Code:=.body aw.main.body um
noncomputable def h1:List Stmt:=aw.main.body.take 19
noncomputable def jM:List Stmt:=aw.main.body.drop 19
theorem Pt:aw.main.body=h1++(jM++[]):=by kernel_rfl
noncomputable abbrev mZ (l:Params->List Obj) (n tk:Nat) (w:World) (os:OsState):SharedT:=⟨OS (l w.params),n,Ff,#[],boot_drawn,tk,os⟩
noncomputable abbrev fg (w:World) (os:OsState):Shared:=⟨boot_heap w.params,Array.mk [],boot_drawn,boot_toks,os⟩
noncomputable def fZ (P:Params):Heap:=⟨⟨nG P⟩,Ff⟩
noncomputable abbrev qe (w:World) (os:OsState):Shared:=⟨fZ w.params,#[],boot_drawn,1010,os⟩
noncomputable abbrev lz:Pos:=⟨0,0,0,0⟩
noncomputable abbrev nN:Nat:=11
noncomputable abbrev nY:Option Value:=some (.ref 6)
theorem Qb (w:World) (os:OsState):topGo treeTable aw w nN nY 12 (fg w os) (topStub aw)=some ((mZ tN 15 187 w os).abs,⟨denote treeTable lW,lW,lz,[topFrame lz]⟩):=by kernel_rfl
theorem P3 (w:World) (os:OsState):segRun treeTable aw w nN nY 1 1 (mZ tN 15 187 w os).abs (blockOf aw.main.body um lW lz [topFrame lz])=some (.next,(mZ tN 15 187 w os).abs,lW,lz):=by kernel_rfl
theorem PL (w:World) (os:OsState):segRunT treeTable aw w nN nY 1 2488 (mZ tN 15 187 w os) (piecesOf h1 um lW lz [topFrame lz])=some (.next,mZ Fb 319 588 w os,lW,⟨143,0,161,40⟩):=by kernel_rfl
theorem N2 (w:World) (os:OsState):segRunT treeTable aw w nN nY 1 1834 (mZ Fb 319 588 w os) (piecesOf jM um lW ⟨143,0,161,40⟩ [topFrame lz])=some (.next,mZ nG 613 1010 w os,lW,⟨413,0,432,114⟩):=by kernel_rfl
theorem Xx (w:World) (os:OsState):topRun treeTable aw w nN nY 2 (mZ nG 613 1010 w os).abs ⟨doneF .next,lW,⟨413,0,432,114⟩,[topFrame lz]⟩=some (qe w os):=by kernel_rfl
theorem XW (w:World) (os:OsState):topRun treeTable aw w nN nY (12+(1+(2488+(1834+2)))) (fg w os) (topStub aw)=some (qe w os):=by
 refine go_top (Qb w os) (piece_block (P3 w os) ?_)
 have h:=piece_app (rest:=jM++[]) (segRun_of (PL w os)) (piece_app (rest:=[]) (segRun_of (N2 w os)) (piece_nil (Xx w os)))
 rw [<-Pt] at h
 exact h
noncomputable def q:Program:=view aw [0,2,3,5,6,8,9,10,11,12,13,14,15,16,17,18,19,21,22,23,24,25,26,27,28,29,30,31,32,33,34,35,36,37,38,39,40,41,42,43,44,45,46,47,49,50,51,52,53,54,55]
noncomputable def loose:List Str:=[o "PaperError",o "told_objects"]
noncomputable abbrev Xt:Shared->Bool:=fun s=>xlAt q [] s&&recOk [] s
noncomputable def lM:Hook:=⟨Heap,fun s=>s.heap,fun w=>fZ w.params,fun w h=>∀a x,(fZ w.params).get? a=some x->h.get? a=some x,fun _ _ e a x k=>by rw [e];exact k,fun _ _ _ s k a x e=>k _ _ (s a x e)⟩
theorem X6:importedModules aw.main.body=[]:=by kernel_rfl
theorem Xr:∀s,fenceModules? aw s=some s:=fun s=>by kernel_rfl
theorem Qh:∀w:World,(fencedOpening treeTable aw w 8766).map (fun s=>(s.heap,s.gens,s.drawn,s.toks))=some (boot_heap w.params,Array.mk [],boot_drawn,boot_toks):=
 boot_open (by kernel_rfl) (by decide+kernel) Xr
theorem O7:∀w:World,((boot_heap w.params).isNs mainGlobals&&(Array.mk []:Array GenState).size==0,(boot_heap w.params).objs.size,(boot_heap w.params).nsMap mainGlobals "__annotations__")=(true,nN,nY):=fun w=>by kernel_rfl
theorem LP (w:World) (os:OsState):(staticsOk (importedModules aw.main.body) (boot_heap w.params) (fZ w.params)&&namesBound aw (fZ w.params)&&gensDone (qe w os)&&laidKept (boot_heap w.params) (fZ w.params))=true:=by kernel_rfl
theorem I9 (w:World) (os:OsState):openSeen q loose (importedModules aw.main.body) Xt true (qe w os)=openGood q loose:=by kernel_rfl
theorem left:LeftO aw q loose Xt lM.obs lM.val 8766:=
 LeftO.of_pieces Qh O7 XW (by decide+kernel) fun w=>funext fun os=>Prod.ext (LP w os) (Prod.ext (I9 w os) rfl)
end
end Hd
end
section
namespace Mine
theorem Sh {a b:Nat}:a+1<=b->a<=b:=by grind
theorem gr {a b:Nat}:b+1<=a->a-b=a-(b+1)+1:=by grind
theorem gK {a:Nat}:¬63<(a:Int)->a<=63:=by omega
theorem jY {a:Nat}:0<= -1+((a+1:Nat):Int):=by grind
theorem oJ {a:Nat}:(-1+((a+1:Nat):Int)).toNat=a:=by grind
theorem mP {a:Nat}:a<1000->a<=1048576:=by grind
theorem GJ {a b c:Nat}:c+(b+1)<1000->a<=c+1->a+b<1000:=by lia
theorem wR {a b:Nat}:a+(b+1)<1000->a<1000:=by grind
theorem UV {a b c d:Nat}:d<=b+1->a<=d+c->a<=b+(c+1):=by grind
theorem Wj {a b:Nat}:b+1<900->a<=0+1->a+b<1000:=by grind
theorem IE {a b:Nat}:b+1<900->a<=0+(b+1)->a<1000:=by grind
theorem XZ {a:Nat}:a+1<500->a<900:=by lia
theorem N6 {a:Nat}:a<=1->a<=1048576:=by lia
theorem Lw {a b:Nat}:b+1<=2->a<500->a+(b+1)<900:=by grind
theorem uf {a:Nat}:a<=a+1:=by grind
theorem NO {a b c:Nat}:a+(c+1)<=b->a<=b:=by grind
theorem Ij {a b c d:Nat}:d+(b+1)<=c->a<=d+1->a+b<=c:=by grind
theorem jR {a:Nat}:a<900->a<=1048576:=by grind
theorem xe {a:Nat}:a<400->a<=1048576:=by lia
theorem Ud {a b:Nat}:b<400->a<=b->a<=1048576:=by grind
theorem VL {a:Int}{b:Nat}:a<0\/(b:Int)<a->0<=a->¬a<=(b:Int):=by lia
theorem NU {a b c:Nat}:c<b->(c:Int)+1=(a:Int)->1<=a/\a<=b:=by omega
theorem WQ {a b:Nat}:1<=a->a<=b->a-1<b:=by omega
theorem OW {a:Nat}:1<=a->((a-1:Nat):Int)+1=(a:Int):=by lia
theorem GY {a:Nat}:1<=a+1/\a+1<=a->False:=by grind
theorem OG {a b:Nat}:a+0=b+1->a=b+1:=by omega
theorem Tk {a b c:Nat}:a+(b+1)=c+1->a+1+b=c+1:=by grind
theorem Je {a:Nat}:1<=a+1:=by grind
theorem Ox {a b:Nat}:a+1<b+1->a<b:=by grind
theorem MG {a b c:Nat}:a+(c+1)=b+1->a<=b:=by grind
theorem Ps {a:Nat}:1+a=a+1:=by grind
theorem Uv:(1:Nat)<=(1:Nat):=by decide
theorem DD {a:Nat}:a<1000->a<1000000:=by grind
theorem Re {a:Nat}:a<=1048576->a<2^62:=by lia
theorem R4 {a b:Nat}:b<2^62->a<b->a<2^62:=by lia
theorem DP {a:Nat}:¬(a:Int)<0:=by omega
theorem NM {a:Nat}:a<800->a+(0+1)<900:=by grind
theorem Ow {a b:Nat}:b<900->Min.min a b+(0+1)<=1048576:=by grind
theorem Km {a b:Nat}:b<900->Min.min a b+(0+1)+(b-a)<=1048576:=by grind
theorem KH {a:Nat}:a<800->a+(0+1+1)<900:=by lia
theorem K2 {a b:Nat}:a<=b+1->a+1<=b+1+1:=by lia
theorem Kc {a:Nat}:a<=0+1->a<=1048576:=by grind
theorem Uc {a b:Nat}:b<=0+1->a<=b+1->a<=1048576:=by lia
theorem W7 {a b c:Nat}:b<=0+1->c<=b+1->a<=c+1->a<=1048576:=by lia
theorem vH {a:Nat}:a<1000->a<=1048575:=by grind
theorem Ix {a b:Nat}:a+(b+1)<1000->a+1+b<1000:=by lia
theorem XK {a b:Nat}:a+b<999->a+b<1000:=by lia
theorem VI {a b:Nat}:a+b<999->a<=1048575:=by grind
theorem Cr {a b:Nat}:a<=a+b:=by grind
theorem M1 {a b c:Nat}:a<=c->a<=b+c:=by grind
theorem Tt {a b c:Nat}:a<=c->1<=b->a+1<=b+c:=by grind
theorem BN {a b:Nat}:b<a->a=a-1+1:=by grind
theorem Oh {a b c d e f g:Nat}:b+c<900->d=c->d=e+f->g<=f->a=g->a<=1048575:=by grind
theorem qK {a b:Nat}:a+b<900->a<1000:=by grind
theorem R8 {a b c d e f g:Nat}:b+c<900->d=c->d=e+f->g<=f->a=g->a<1000:=by omega
theorem Jb {a b c d:Nat}:c=b->c=d+a->1<=d->a<b:=by grind
theorem LK {a b c d e:Nat}:a+c<900->d=c->d=e+b->1<=e->a+1+b<900:=by grind
theorem PR {a b c d e f:Nat}:c+d<900->e=d->e=f+b->a<=c+1->1<=f->a+b<900:=by lia
theorem HA {a b c d e:Nat}:c<b+1->d=c->d=e+a->1<=e->a<b:=by grind
theorem J2 {a b c d e f g h i:Nat}:c+d<900->e=d->e=f+g->h<=g->a=h->b<=i->f=i+1->a+b<999:=by grind
theorem V5 {a b c d:Nat}:a+c<900->c=d+1->b<=d->a+(0+1)+b<900:=by grind
theorem RE {a b c d e:Nat}:d=c->d=e+b->e=a+1->a+b<c:=by grind
theorem PO {a b c d e f:Nat}:a+d<900->e=d->e=f+c->f=b+1->a+(0+1)+(b+c)<900:=by lia
theorem H7 {a b c d e f g:Nat}:d+e<900->f=e->f=g+c->a<=d+1->g=b+1->a+(b+c)<900:=by grind
theorem Tf {a b c d e f:Nat}:d<c+1->e=d->e=f+b->f=a+1->a+b<c:=by grind
theorem JE {a b:Nat}:b<900->b=a+1->a<900:=by lia
theorem QD {a:Nat}:a<900->1+a<1000:=by lia
theorem UZ {a b:Nat}:b+1<400->a<=b->a<900:=by grind
theorem IR {a b:Nat}:b+1<400->a<=b->0+1+a<900:=by lia
theorem Lq {a:Nat}:a+1<400->0+a<900:=by grind
theorem PV {a:Nat}:a+1<400->0+1+a<900:=by grind
theorem No {a:Nat}:a+1<400->a<999999:=by lia
theorem T4 {a b:Nat}:a<=b->a+1<=b+1:=by grind
theorem M5 {a b:Nat}:a<=b->a<=b+1:=by grind
theorem Kn {a b:Nat}:a+(b+1)<1000->a<=1048576:=by grind
theorem Jg {a b:Nat}:a+b<900->a<=1048576:=by lia
theorem Pa {a b c:Nat}:c+(b+1)<900->a<=c+1->a+b<1000:=by grind
theorem Cu {a b:Nat}:a+(b+1)<900->a<=1048576:=by grind
theorem WR {a b:Nat}:a<b->a<b:=by omega
theorem TB {a b c:Nat}:a<b->a<b+c:=by grind
theorem I5 {a b c:Nat}:a<c->a<b+c:=by grind
theorem TG {a:Nat}:a<900->a<=1048575:=by grind
theorem UB {a:Nat}:a<1000->a<2^64:=by lia
theorem WS {a:Nat}:0<a->a<1000->¬a=0/\a<1073741824:=by lia
theorem PP {a:Nat}:a<1000000->(a:Int)<=1048576:=by lia
theorem Oy {a b:Nat}:0<b->a<=b+a-1:=by omega
theorem DJ {a:Nat}:2<=a->0<a:=by grind
theorem HU {a b:Nat}:a<900->b<100->a+b-1<1000:=by omega
theorem TV {a b:Nat}:2<=b->(a:Int)+(b:Int)-1=((a+b-1:Nat):Int):=by grind
theorem K4 {a:Nat}:a<100->a<1000:=by grind
theorem F0 {a b:Nat}:a<b->a<=b:=by lia
theorem zj {a b:Nat}:a<b->a+1<=b:=by grind
theorem Ht {a b:Nat}:b<1000->a<b->a<1000:=by omega
theorem NW {a b:Nat}:b<1000->a<b->a+1<1000:=by lia
theorem Gb {a b:Nat}:a+(b+1)<900->a+1+b<900:=by omega
theorem W9 {a b:Nat}:a+(b+1)<900->a<900:=by omega
theorem uw {a b:Nat}:a+1+b=a+(b+1):=by grind
theorem KO {a b:Nat}:a+0=b->a=b:=by omega
theorem P9 {a b c:Nat}:a+(b+1)=c->a+1+b=c:=by grind
theorem Bl {a:Nat}:0+a=a:=by grind
theorem Cm {a:Nat}:a<900->a<1000:=by lia
theorem vu {a b:Nat}:a<b->(a:Int)<(b:Int):=by omega
theorem yy {a b:Nat}:¬a<b->¬(a:Int)<(b:Int):=by omega
theorem U2 {a b:Nat}:b+2*a<800->a<=1048576:=by lia
theorem Ol {a b c:Nat}:a=b->c<b->0<a:=by grind
theorem Ru {a b c:Nat}:b+2*c<800->a=c->a<900:=by lia
theorem VO {a:Nat}:a=2\/a=3\/a=4->2<=a:=by grind
theorem Jz {a:Nat}:a=2\/a=3\/a=4->a<100:=by lia
theorem Sl {a b c:Nat}:a+2*c<800->0<b/\3*b<=2*c/\b<c->a+b<900:=by lia
theorem Wo {a b c:Nat}:a+2*c<800->0<b/\3*b<=2*c/\b<c->a+b+2*b<800:=by omega
theorem Jt {a b c:Nat}:c<b+1->0<a/\3*a<=2*c/\a<c->a<b:=by lia
theorem I1 {a b c d e:Nat}:0<e/\3*e<=2*d/\e<d->a+2*b<=c+e+2*e->a+2*b<=c+2*d:=by lia
theorem KY {a b c:Nat}:b+2*c<800->0<a/\3*a<=2*c/\a<c->a<=1048576:=by lia
theorem NV {a b c:Nat}:b=2\/b=3\/b=4->a=c->¬b<c->a<=4:=by lia
theorem Li {a b c:Nat}:b=c->a+2*b<=a+2*c:=by grind
theorem zl {a:Nat}:a<250->a+1<300:=by omega
theorem AM {a:Int}{b:Nat}:a<=(b:Int)->a=(b:Int)+1->False:=by lia
theorem EW {a:Nat}:(a:Int)+1<=(a:Int)->False:=by grind
theorem wq {a:Int}{b:Nat}:a<=((b+1:Nat):Int)->¬a=(b:Int)+1->a<=(b:Int):=by grind
theorem Jr {a:Int}:1<=a->a<=(0:Int)->False:=by lia
theorem Ni {a:Nat}:a<=20->0+a<900:=by grind
theorem Jw {a:Nat}:a<=20->a+2*a<800:=by grind
theorem Sk {a:Nat}:a<=20->a<1000000:=by lia
theorem U8 {a b c:Nat}:b<=20->a+2*c<=b+2*b->a+1<250:=by lia
theorem Kx {a b c:Nat}:a+2*c<=b+2*b->a+1+1<=3*b+6:=by grind
theorem Uf {a b c:Nat}:b<=20->a+2*c<=b+2*b->a<1000:=by omega
theorem Nx {a b c:Nat}:b<=20->a+2*c<=b+2*b->a+1<1000:=by grind
theorem Ia {a:Nat}:a=2\/a=3\/a=4->¬(a:Int)<2:=by omega
theorem T3 {a:Nat}:a<=20->a<=1048576:=by grind
theorem Sa {a:Nat}:a<300->a<900:=by grind
theorem TQ {a b:Nat}:a<=b->0+a<=b:=by grind
theorem SR {a b:Nat}:a<=b->b<300->a<=1000000:=by lia
theorem GS:(10:Nat)<=(1048576:Nat):=by decide
theorem Dq {a:Nat}:a<10->a<500:=by lia
theorem A1 {a b:Nat}:a<=b->b<300->a<900:=by grind
theorem Ga {a b c:Nat}:b<=c->c<300->a<b->a<500:=by lia
theorem D5 {a:Nat}:a<900->1+a<=1048576:=by lia
theorem XI {a b:Nat}:a<b->1<=(a:Int)+1/\(a:Int)+1<=(b:Int):=by lia
theorem RI {a:Nat}{b:Int}:1<=b/\b<=(a:Int)->¬(a:Int)+1<b:=by lia
theorem FO {a b c:Nat}:b<=c->c<300->a<=b->a<900:=by grind
theorem L5 {a:Nat}{b:Int}:1<=b/\b<=(a:Int)->0<a:=by grind
theorem SS {a b:Nat}:b<64->a=b->a<=1048576:=by grind
theorem Ta {a:Nat}:a<64->a<=1048576:=by grind
theorem N9 {a b c:Nat}:b<=c->c<300->a<=b->0+a<900:=by grind
theorem u5 {a b:Nat}:¬b<a->a<=b:=by omega
theorem Iu {a b c:Nat}:¬a<b->a<b+c->a-b<c:=by lia
theorem VA {a:Nat}:1<=a->a=a-1+1:=by omega
theorem OI {a b:Nat}:b+1<=a->a=a-1+1:=by grind
theorem S1 {a b c:Nat}:b<900->a+(c+1)<=b->a<900:=by grind
theorem R2 {a b c d:Nat}:a+(d+1)<=c->b<=d->a+1+b<=c:=by grind
theorem Ob {a b c:Nat}:c+1<=b+1->a<=c->a<=b:=by lia
theorem Na {a b c:Nat}:b<900->a+(c+1)<=b->a<=1048576:=by grind
theorem Uw {a b c:Nat}:b+(c+1)<=a->¬(a:Int)<(b:Int):=by grind
theorem Wm {a:Int}:0<a->0<=a:=by grind
theorem IW {a:Int}:0<a->a≠0:=by grind
theorem Qg {a:Int}:0<a->¬a=0:=by grind
theorem S8 {a:Int}:0<a->a<1000->¬a=0/\a.natAbs<1073741824:=by grind
theorem Pq {a:Int}:a.natAbs<1000000->a.natAbs<2^64:=by lia
theorem Ac {a:Nat}:a<=40->a<=1048576:=by lia
theorem T6 {a:Nat}:((a+1:Nat):Int)>0:=by omega
theorem Xy {a b:Nat}{c:Int}:c<(b:Int)->c=(a:Int)->a<b:=by lia
theorem Nk {a:Int}{b:Nat}:0<=a/\a<(b:Int)->a.toNat<b:=by grind
theorem Rp {a:Int}{b:Nat}:0<=a/\a<(b:Int)->a=(↑a.toNat:Int):=by grind
theorem GC {a:Nat}:0<a->0<(a:Int):=by omega
theorem WV {a b:Nat}{c:Int}:a<b/\10^18<=c->(a:Int)<(b:Int):=by omega
theorem FJ {a:Nat}:a<900->(a:Int)<1000:=by omega
theorem Wg:(0:Int)<(2147483587:Int):=by decide
theorem F5:(0:Int)<(2147483629:Int):=by decide
theorem RY {a:Int}:a<2147483629->a<=2147483629:=by lia
theorem Jl {a:Nat}:a<900->2*(a:Int)+7207<=10000:=by lia
theorem AA {a:Nat}:0<=2*(a:Int)+7207:=by grind
theorem Jh:(0:Int)<=(2147483629:Int):=by decide
theorem L3 {a:Nat}:a<900->20947*(a:Int)<=20947000:=by lia
theorem HW {a:Nat}:a<900->(a:Int)<=1000:=by lia
theorem zc {a:Nat}:0<=(a:Int):=by grind
theorem NA:(0:Int)<=(20947000:Int):=by decide
theorem Sv {a:Nat}:0<=20947*(a:Int):=by grind
theorem Js:(0:Int)<=(5:Int):=by decide
theorem KW:(5:Int)<(64:Int):=by decide
theorem MR {a:Int}{b:Nat}:b<900->0<=a->a<2147483587->(a+20947*(b:Int)+3571).natAbs<2^64:=by omega
theorem XS {a:Nat}:a<900->(2*(a:Int)+7207).natAbs<1000000:=by omega
theorem WE {a:Nat}:a<900->(a:Int).natAbs<1000000:=by omega
theorem ID:(0:Int)<=(3:Int):=by decide
theorem Xm:(3:Int)<(64:Int):=by decide
theorem Pd {a b:Int}:a<=2147483629*10000->0<=a->b<=20947000*1000->0<=b->(a+b+31).natAbs<2^64:=by grind
theorem HM:(0:Int)<(2147483579:Int):=by decide
theorem wX {a:Nat}:a<100->a<=1048576:=by grind
theorem NP {a:Nat}:Min.min 40 a<=1048576:=by lia
theorem Ku {a:Nat}:a<800->a<900:=by lia
theorem UP:(0:Nat)<(9:Nat):=by decide
theorem Mm:(9:Nat)<(900:Nat):=by decide
theorem QX {a b:Nat}:b<800->a<=b+1->a<900:=by lia
theorem wx:(0:Nat)<(3:Nat):=by decide
theorem yO:(3:Nat)<(900:Nat):=by decide
theorem Rq {a b c:Nat}:c<=b+1->a<=c+1->a<=b+2:=by lia
theorem HI {a:Nat}:¬a=0->¬a=0:=by omega
theorem OU {a b:Nat}:a+2*(b+1)<800->a<800:=by grind
theorem Rb {a b c:Nat}:c+2*(b+1)<800->a<=c+2->a+2*b<800:=by grind
theorem MC {a b c d:Nat}:d<=b+2->a<=d+2*c->a<=b+2*(c+1):=by lia
theorem Ng {a b c:Nat}:b<=c->c<300->a<=b->a<300:=by omega
theorem x8 {a:Nat}:a<300->a<=1048576:=by grind
theorem VD {a:Nat}:a<300->a<1000000:=by lia
theorem La {a:Nat}:a<700->a<800:=by lia
theorem Ti {a b:Nat}:b<700->a<=b+2->a<900:=by lia
theorem PH {a:Nat}:0<a+1:=by grind
theorem M8 {a:Nat}:a<100->a+1<900:=by lia
theorem xK {a b c:Nat}:a<c+1->b=c->a<=b:=by grind
theorem R3 {a b:Nat}:Min.min a b+(b-a+1)=b+1:=by grind
theorem TT {a:Nat}:a<100->a+1<=1048576:=by grind
theorem RP {a b c:Nat}:a<c+1->b=c->Min.min a b=a:=by lia
theorem RF {a b:Nat}:a=b->a<=b:=by lia
theorem Tv {a b c:Nat}:c<=b+2->a<=c+1->a<=b+3:=by lia
theorem Mh {a b c:Nat}:c<100->b=c->Min.min a b+(0+1)<=1048576:=by grind
theorem KR {a b c:Nat}:c<100->b=c->Min.min a b+(0+1)+(b-a)<=1048576:=by grind
theorem Xu {a b:Nat}:a+(b+1)<200->a<250:=by grind
theorem J7 {a b:Nat}:a+3*(b+1)<600->a<700:=by grind
theorem LD {a b:Nat}:a+(b+1)<90->a<100:=by grind
theorem Pb {a b:Nat}:a+(b+1)<200->a+1+b<200:=by omega
theorem Ms {a b c:Nat}:c+3*(b+1)<600->a<=c+3->a+3*b<600:=by grind
theorem Wa {a b c:Nat}:c+(b+1)<90->a=c+1->a+b<90:=by omega
theorem Ok {a b c d:Nat}:d<=b+3->a<=d+3*c->a<=b+3*(c+1):=by grind
theorem Rs {a:Nat}:Min.min 40 a<=40:=by lia
theorem Hx:(0:Nat)<(900:Nat):=by decide
theorem Ly {a:Nat}:a<=0+1->a<900:=by grind
theorem Ql:(0:Nat)<(5:Nat):=by decide
theorem SA:(5:Nat)<(900:Nat):=by decide
theorem Pf {a b c:Nat}:c<=0+1->b<5->a<=c+1->a+2*b<800:=by grind
theorem EF {a:Nat}:a<3->2+a=2\/2+a=3\/2+a=4:=by lia
theorem MI {a b:Nat}:b<5->a=b->a<=20:=by lia
theorem L4 {a b c d:Nat}:b<=0+1->c<5->d<=b+1->a<=d+2*c->a<900:=by grind
theorem Q2:(0:Nat)<(7:Nat):=by decide
theorem WZ:(7:Nat)<(900:Nat):=by decide
theorem T7 {a b c d:Nat}:c<5->d=c->a<=3*d+6->b<7->a+b<200:=by lia
theorem K1 {a b c d e f:Nat}:c<=0+1->d<5->e<=c+1->f<=e+2*d->b<7->a<=f+1->a+3*b<600:=by grind
theorem W6 {a b c:Nat}:c<5->a=c->b<7->a+b<90:=by grind
theorem OC {a b c d:Nat}:b<5->c=b->d<7->a=c+d->a<=20:=by grind
theorem Nb {a b c d e f g:Nat}:b<=0+1->c<5->d<=b+1->e<=d+2*c->f<7->g<=e+1->a<=g+3*f->a<900:=by grind
theorem OO {a b c d e f g h:Nat}:b<=0+1->c<5->d<=b+1->e<=d+2*c->f<7->g<=e+1->h<=g+3*f->a<=h+1->a<900:=by grind
theorem Le:(0:Nat)<(2:Nat):=by decide
theorem N7:(2:Nat)<(900:Nat):=by decide
theorem Fq {a b c d:Nat}:c<5->d=c->a<=3*d+6->b<7->a+b<64:=by omega
theorem Pl {a:Nat}:-1-(a:Int)<0:=by omega
theorem Hn {a b c:Nat}:a=b->(a:Int)<(b:Int)+1+(c:Int):=by grind
theorem Wc {a b c d:Nat}:b<5->c=b->d<7->a=c+d->a<=1048576:=by grind
theorem MA {a:Nat}:a<=63->a<100:=by lia
theorem Mw {a:Nat}:a<5->a<1000000:=by lia
theorem It {a:Nat}:a<5->a<=1048576:=by grind
theorem Rl {a:Nat}:a<7->a<1000000:=by lia
theorem Ki {a:Nat}:a=0+a:=by grind
theorem Rg {a b c:Nat}:a+(b+c)=a+b+c:=by grind
theorem KN {a:Nat}:a+0=1*a:=by grind
theorem H1 {a:Nat}:0=0*a:=by grind
theorem S4 {a:Int}{b:Nat}:a+1+(b:Int)=a+((b:Int)+1):=by grind
theorem Hu {a:Int}{b c:Nat}:a+(b:Int)+(c:Int)=a+((b:Int)+(c:Int)):=by grind
theorem WW {a:Nat}{b:Int}:1<=b/\b<=(0:Int)->a<=0:=by lia
theorem Me {a:Int}{b:Nat}:1<=a/\a<=((b+1:Nat):Int)->a≠(b:Int)+1->1<=a/\a<=(b:Int):=by grind
theorem Oz {a:Int}{b c:Nat}:c<b->(c:Int)+1=a->1<=a/\a<=(b:Int):=by grind
theorem KV {a b:Nat}:a<=b->b<300->a<400:=by lia
theorem Nt {a b:Nat}:b<=a->a<300->a+b<=1048576:=by grind
theorem LB {a b c:Nat}:a<b+c->¬a<b->a-b<c:=by grind
theorem IY {a b c d:Nat}:¬a<b->a-b=c+d->a=b+c+d:=by grind
theorem Lz {a b:Nat}:a<=b->b=0->a=0:=by grind
theorem NZ {a b c:Nat}:b<300->a<=c->c+1<=b->a<900:=by grind
theorem M9 {a b:Nat}:¬b=0->a=b->a-1+1=a:=by grind
theorem Mk {a b:Nat}:¬b=0->a=b->a-1<b:=by lia
theorem BV {a b:Nat}:a<=b->¬a=b->a<b:=by omega
theorem JR {a b c d:Nat}:c<b/\(d=0/\a<b\/d=1/\a=b)->(a:Int)<=(b:Int):=by lia
theorem Vi {a b c:Nat}:c<b/\(0=0/\a<b\/0=1/\a=b)->¬(a:Int)=(b:Int):=by grind
theorem HJ {a b c:Nat}:c<b/\(1=0/\a<b\/1=1/\a=b)->(a:Int)=(b:Int):=by grind
theorem Wr {a b c:Nat}:c<a/\(0=0/\b<a\/0=1/\b=a)->¬(a:Int)-1<(b:Int):=by lia
theorem PT {a b:Nat}:b+0=a->(a:Int)=(b:Int):=by grind
theorem XE {a b c:Nat}:c<a/\(1=0/\b<a\/1=1/\b=a)->(a:Int)-1<(b:Int):=by omega
theorem Ky {a b c:Nat}:b+1=c->b<a/\(1=0/\c<a\/1=1/\c=a)->(a:Int)-1=(b:Int):=by grind
theorem HZ {a b c:Nat}:c+0=b->a=c->a=b:=by grind
theorem Ik {a b c:Nat}:c+1=b->a=c+1->a=b:=by grind
theorem AF {a:Int}{b:Nat}:1<=a/\a<=(b:Int)->a=(b:Int)+1->False:=by omega
theorem Pz {a:Int}{b:Nat}:a=(b:Int)+1->a<=(b:Int)->False:=by lia
theorem Uz {a:Nat}:a<250->a<1000:=by grind
theorem Sy {a:Nat}:a<10->a<800:=by lia
theorem VS {a b c:Nat}:b<250->c<=b->a<=c->a<900:=by lia
theorem SN {a:Nat}:a<250->a+1<=1048576:=by lia
theorem SG {a b:Nat}:a<=b->a+(b-a)=b:=by grind
theorem MK {a b:Nat}:b<a->0<(a:Int)-(b:Int):=by omega
theorem QR {a b:Nat}:(a:Int)-((b:Int)+1)=(a:Int)-(b:Int)-1:=by grind
theorem QJ {a:Nat}:(a:Int)-(a:Int)<=0:=by grind
theorem PA {a b:Nat}:b<a->(a:Int)-1-(b:Int)=((a-1-b:Nat):Int):=by grind
theorem Ee {a b:Nat}:(a:Int)-1-(b:Int)=((a-1-b:Nat):Int)->a-1-b<a:=by omega
theorem Il {a:Nat}:(a:Int)-1-(a:Int)= -1:=by grind
theorem LW {a b:Int}:a<b->a<=b:=by lia
theorem Jx {a b c:Int}:a<c->c<=b->a<=b:=by lia
theorem PC {a b:Int}:¬b<a->a<=b:=by lia
theorem HH {a:Nat}:a<64->a<=16777216:=by lia
theorem OV {a b:Nat}:b-a=0->a<=b->a=b:=by grind
theorem W8 {a b c:Nat}:b-a=c+1->a<b:=by omega
theorem Qx {a b:Nat}:Min.min a b<=b:=by lia
theorem OL {a b c d:Nat}:c<=b->d<=c->a<=d->a<=b:=by lia
theorem Oo {a b c:Nat}:a-b=c+1->a-(b+1)=c:=by omega
theorem Fv {a:Nat}:a<1000->a+(0+1)<=16777216+1:=by grind
theorem Qw {a b c:Nat}:c+(b+1)<1000->a=c+1->a+b<1000:=by grind
theorem TE {a:Nat}:a<900->0+a<1000:=by omega
theorem S7 {a b:Nat}:a<b+(0+1)->¬a<b->a=b:=by grind
theorem Qa {a:Nat}:a=0->a<=a-1:=by lia
theorem Kj {a:Nat}:0<a->a-1<a:=by lia
theorem Xs {a:Nat}:0<a->a-1+1=a:=by lia
theorem NS {a b c:Nat}:b<=1048576->c=b->a<c->(a:Int)<2^63-1:=by lia
theorem KQ {a b:Nat}:a+40<b->a+1+32<b:=by lia
theorem JT {a b c:Nat}:a+16*c+400<b->a+40<b:=by grind
theorem Jm {a:Int}:-1048576<=a-> -2^62<=a:=by lia
theorem Qy {a:Int}:a<=1048576->a<2^62:=by omega
theorem Tp {a b:Nat}:b<a->a-1-b<a:=by grind
theorem XV {a b:Nat}:b<a->a-(b+1)+1<a-b+1:=by lia
theorem Vl {a b c d e:Nat}:c<=d->a<=e->e<c->d<=b->a<=b:=by lia
theorem Ra {a b:Nat}:a<=b->a<=b:=by omega
theorem QZ {a b:Nat}:a<=b->¬a<b->a=b:=by lia
theorem Ct {a b c d e f:Nat}:d+e<=f->a=d->b=e->f<=c->a+b<=c:=by lia
theorem SB {a b:Nat}:b<a->a-(b+1)<a-b:=by omega
theorem VB {a:Nat}:a=1->a<1000:=by lia
theorem VG {a:Nat}:a%2=0->(a+1)%2=1:=by lia
theorem Xw {a b c:Nat}:a+2*(b+1)+8<c->a+2*b+8<c:=by lia
theorem Mc {a b c:Nat}:a+16*(b+1)+400<c->a+16*b+400<c:=by lia
theorem O4 {a:Nat}:a%2=0->a%2=1->False:=by lia
theorem H0 {a:Nat}:a%2=1->(a+2)%2=1:=by grind
theorem H5 {a b c:Nat}:a+2*(b+2)+8<c->a+1+2*b+8<c:=by lia
theorem H4 {a b c:Nat}:a+16*(b+2)+400<c->a+3+16*b+400<c:=by lia
theorem Iq {a:Int}:0<=a->¬a<0:=by omega
theorem Sz {a:Int}{b:Nat}:a.toNat<b->¬a<0->0<=a/\a<(b:Int):=by omega
theorem TW {a:Int}:¬0<=a->a<0:=by lia
theorem Ua {a:Int}{b:Nat}:0<=a+(b:Int)->a<0->0<=a+(b:Int)/\a+(b:Int)<(b:Int):=by lia
theorem KP {a:Int}{b:Nat}:0<=a+(b:Int)->a<0->(a+(b:Int)).toNat<b:=by grind
theorem Kd {a:Int}:a.natAbs<2^62-> -2^63<=a:=by omega
theorem IV {a:Int}:a.natAbs<2^62->a<2^63:=by grind
theorem QU {a:Nat}{b:Int}:0<=b+(a:Int)-> -(a:Int)<=b:=by lia
theorem TI {a b:Nat}:a+b.succ=a+1+b:=by grind
theorem QF {a b:Nat}:¬b<a->a<=b+1:=by grind
theorem N4 {a b:Nat}:a<=a+2*(b+2)+8:=by grind
end Mine
end
section
open PySem
namespace Mine
@[elab_as_elim] theorem B {α:Sort u} {a b:α} {p:α->Prop} (e:a=b) (h:p b):p a:=by cases e;exact h
@[elab_as_elim] theorem bt {α:Sort u} {a b:α} {p:α->Prop} (e:a=b) (h:p a):p b:=by cases e;exact h
theorem ln {G:Prop} (h:false=true):G:=Bool.noConfusion h
theorem Z {α:Type u} {a:α} {G:Prop} (h:none=some a):G:=nomatch h
theorem hM {α:Type u} {a:α} {G:Prop} (h:some a=none):G:=nomatch h
theorem oa {α:Type u} {a b:α} {G:Prop} (h:some a=some b) (k:b=a->G):G:=k (Option.some.inj h).symm
theorem zE {α:Type u} {ee:Type v} {a c:α} {b d:ee} {G:Prop} (h:some (a,b)=some (c,d)) (k:c=a->d=b->G):G:=k (congrArg Prod.fst (Option.some.inj h)).symm (congrArg Prod.snd (Option.some.inj h)).symm
@[elab_as_elim] theorem cG {α:Type u} {a b:α} {G:α->Prop} (h:some a=some b) (k:G a):G b:=by cases h;exact k
@[elab_as_elim] theorem b7 {α:Type u} {ee:Type v} {a c:α} {b d:ee} {G:α->ee->Prop} (h:some (a,b)=some (c,d)) (k:G a b):G c d:=by cases h;exact k
theorem cK {b3:Type w} {c:Prop} [Decidable c] {a:Option b3} {z:b3} {G:Prop} (h:(if c then a else none)=some z) (k:c->a=some z->G) (k0:(none:Option b3)=some z->G):G:=by
 by_cases q:c
 ·exact k q ((if_pos q).symm.trans h)
 ·exact k0 ((if_neg q).symm.trans h)
theorem yC {b3:Type w} {c:Prop} [Decidable c] {a:Option b3} {z:b3} {G:Prop} (h:(if c then none else a)=some z) (k:¬c->a=some z->G):G:=by
 by_cases q:c
 ·exact Z ((if_pos q).symm.trans h)
 ·exact k q ((if_neg q).symm.trans h)
theorem g5 {b3:Type w} {c:Prop} [Decidable c] {a b:Option b3} {z:b3} {G:Prop} (h:(if c then a else b)=some z) (k:c->a=some z->G) (cX:¬c->b=some z->G):G:=by
 by_cases q:c
 ·exact k q ((if_pos q).symm.trans h)
 ·exact cX q ((if_neg q).symm.trans h)
noncomputable def ob {α:Type u} {ee:Type v} {b3:Type w} (x:Option (α×ee)) (f:α->ee->Option b3):Option b3:=match x with
 |some (a,b)=>f a b
 |none=>none
noncomputable def br {α:Type u} {b3:Type w} (x:Option α) (f:α->Option b3):Option b3:=match x with
 |some a=>f a
 |none=>none
theorem bq {α:Type u} {b3:Type w} {x:Option α} {f:α->Option b3} {a:α} {o:Option b3} (h:x=some a) (k:f a=o):br x f=o:=by refine B h ?_;exact k
theorem b6 {α:Type u} {ee:Type v} {b3:Type w} {x:Option (α×ee)} {f:α->ee->Option b3} {z:b3} {G:Prop} (h:ob x f=some z) (k:∀a b,x=some (a,b)->f a b=some z->G) (k0:(none:Option b3)=some z->G):G:=by
 cases x with
 |none=>exact k0 h
 |some p=>exact k p.1 p.2 rfl h
theorem bG {α:Type u} {b3:Type w} {x:Option α} {f:α->Option b3} {z:b3} {G:Prop} (h:br x f=some z) (k:∀a,x=some a->f a=some z->G) (k0:(none:Option b3)=some z->G):G:=by
 cases x with
 |none=>exact k0 h
 |some a=>exact k a rfl h
noncomputable def fk {α:Type u} {ee:Type v} {b3:Type w} (x:Option α) (y:Option ee) (f:α->ee->Option b3):Option b3:=br x fun a=>br y fun b=>f a b
theorem hJ {α:Type u} {ee:Type v} {b3:Type w} {x:Option α} {y:Option ee} {f:α->ee->Option b3} {z:b3} {G:Prop} (h:fk x y f=some z) (k:∀a b,x=some a->y=some b->f a b=some z->G) (k0:(none:Option b3)=some z->G):G:=
 bG h (fun a bz q=>bG q (fun b ah q=>k a b bz ah q) k0) k0
theorem kM {α:Type u} {ee:Type v} {b3:Type w} {a:α} {b:ee} {f:α->ee->Option b3}:fk (some a) (some b) f=f a b:=rfl
theorem kz {α:Type u} {ee:Type v} {b3:Type w} {a:α} {b:ee} {f:α->ee->Option b3}:ob (some (a,b)) f=f a b:=rfl
theorem kL {α:Type u} {b3:Type w} {a:α} {f:α->Option b3}:br (some a) f=f a:=rfl
theorem cm {A ap:Prop} {G:Prop} (h:A/\ap) (k:A->ap->G):G:=k h.1 h.2
theorem eg {A ap C:Prop} {G:Prop} (h:A/\ap/\C) (k:A->ap->C->G):G:=k h.1 h.2.1 h.2.2
theorem nX {A ap C D:Prop} {G:Prop} (h:A/\ap/\C/\D) (k:A->ap->C->D->G):G:=k h.1 h.2.1 h.2.2.1 h.2.2.2
theorem j3 {A ap C D E:Prop} {G:Prop} (h:A/\ap/\C/\D/\E) (k:A->ap->C->D->E->G):G:=k h.1 h.2.1 h.2.2.1 h.2.2.2.1 h.2.2.2.2
theorem Wz {A ap C D E F:Prop} {G:Prop} (h:A/\ap/\C/\D/\E/\F) (k:A->ap->C->D->E->F->G):G:=k h.1 h.2.1 h.2.2.1 h.2.2.2.1 h.2.2.2.2.1 h.2.2.2.2.2
theorem bT {cN:Sort _} {A:cN->Prop} {G:Prop} (h:∃x0,A x0) (k:∀x0,A x0->G):G:=h.elim k
theorem ba {cN:Sort _} {A ap:cN->Prop} {G:Prop} (h:∃x0,A x0/\ap x0) (k:∀x0,A x0->ap x0->G):G:=h.elim fun x h=>cm h (k x)
theorem et {cN:Sort _} {A ap C:cN->Prop} {G:Prop} (h:∃x0,A x0/\ap x0/\C x0) (k:∀x0,A x0->ap x0->C x0->G):G:=h.elim fun x h=>eg h (k x)
theorem gw {cN:Sort _} {A ap C D:cN->Prop} {G:Prop} (h:∃x0,A x0/\ap x0/\C x0/\D x0) (k:∀x0,A x0->ap x0->C x0->D x0->G):G:=h.elim fun x h=>nX h (k x)
theorem EP {cN:Sort _} {A ap C D E:cN->Prop} {G:Prop} (h:∃x0,A x0/\ap x0/\C x0/\D x0/\E x0) (k:∀x0,A x0->ap x0->C x0->D x0->E x0->G):G:=h.elim fun x h=>j3 h (k x)
theorem TS {cN:Sort _} {A ap C D E F:cN->Prop} {G:Prop} (h:∃x0,A x0/\ap x0/\C x0/\D x0/\E x0/\F x0) (k:∀x0,A x0->ap x0->C x0->D x0->E x0->F x0->G):G:=h.elim fun x h=>Wz h (k x)
theorem jd {cN:Sort _} {du:Sort _} {A:cN->du->Prop} {G:Prop} (h:∃x0,∃aM,A x0 aM) (k:∀x0 aM,A x0 aM->G):G:=h.elim fun x h=>bT h (k x)
theorem hq {cN:Sort _} {du:Sort _} {A ap:cN->du->Prop} {G:Prop} (h:∃x0,∃aM,A x0 aM/\ap x0 aM) (k:∀x0 aM,A x0 aM->ap x0 aM->G):G:=h.elim fun x h=>ba h (k x)
theorem dN {cN:Sort _} {du:Sort _} {A ap C:cN->du->Prop} {G:Prop} (h:∃x0,∃aM,A x0 aM/\ap x0 aM/\C x0 aM) (k:∀x0 aM,A x0 aM->ap x0 aM->C x0 aM->G):G:=h.elim fun x h=>et h (k x)
theorem gn {cN:Sort _} {du:Sort _} {A ap C D:cN->du->Prop} {G:Prop} (h:∃x0,∃aM,A x0 aM/\ap x0 aM/\C x0 aM/\D x0 aM) (k:∀x0 aM,A x0 aM->ap x0 aM->C x0 aM->D x0 aM->G):G:=h.elim fun x h=>gw h (k x)
theorem qC {cN:Sort _} {du:Sort _} {A ap C D E:cN->du->Prop} {G:Prop} (h:∃x0,∃aM,A x0 aM/\ap x0 aM/\C x0 aM/\D x0 aM/\E x0 aM) (k:∀x0 aM,A x0 aM->ap x0 aM->C x0 aM->D x0 aM->E x0 aM->G):G:=h.elim fun x h=>EP h (k x)
theorem u3 {cN:Sort _} {du:Sort _} {A ap C D E F:cN->du->Prop} {G:Prop} (h:∃x0,∃aM,A x0 aM/\ap x0 aM/\C x0 aM/\D x0 aM/\E x0 aM/\F x0 aM) (k:∀x0 aM,A x0 aM->ap x0 aM->C x0 aM->D x0 aM->E x0 aM->F x0 aM->G):G:=h.elim fun x h=>TS h (k x)
theorem p5 {cN:Sort _} {du:Sort _} {ei:Sort _} {A:cN->du->ei->Prop} {G:Prop} (h:∃x0,∃aM,∃a3,A x0 aM a3) (k:∀x0 aM a3,A x0 aM a3->G):G:=h.elim fun x h=>jd h (k x)
theorem sZ {cN:Sort _} {du:Sort _} {ei:Sort _} {A ap:cN->du->ei->Prop} {G:Prop} (h:∃x0,∃aM,∃a3,A x0 aM a3/\ap x0 aM a3) (k:∀x0 aM a3,A x0 aM a3->ap x0 aM a3->G):G:=h.elim fun x h=>hq h (k x)
theorem dG {cN:Sort _} {du:Sort _} {ei:Sort _} {A ap C:cN->du->ei->Prop} {G:Prop} (h:∃x0,∃aM,∃a3,A x0 aM a3/\ap x0 aM a3/\C x0 aM a3) (k:∀x0 aM a3,A x0 aM a3->ap x0 aM a3->C x0 aM a3->G):G:=h.elim fun x h=>dN h (k x)
theorem nJ {cN:Sort _} {du:Sort _} {ei:Sort _} {A ap C D:cN->du->ei->Prop} {G:Prop} (h:∃x0,∃aM,∃a3,A x0 aM a3/\ap x0 aM a3/\C x0 aM a3/\D x0 aM a3) (k:∀x0 aM a3,A x0 aM a3->ap x0 aM a3->C x0 aM a3->D x0 aM a3->G):G:=h.elim fun x h=>gn h (k x)
theorem t3 {cN:Sort _} {du:Sort _} {ei:Sort _} {A ap C D E:cN->du->ei->Prop} {G:Prop} (h:∃x0,∃aM,∃a3,A x0 aM a3/\ap x0 aM a3/\C x0 aM a3/\D x0 aM a3/\E x0 aM a3) (k:∀x0 aM a3,A x0 aM a3->ap x0 aM a3->C x0 aM a3->D x0 aM a3->E x0 aM a3->G):G:=h.elim fun x h=>qC h (k x)
theorem pa {cN:Sort _} {du:Sort _} {ei:Sort _} {A ap C D E F:cN->du->ei->Prop} {G:Prop} (h:∃x0,∃aM,∃a3,A x0 aM a3/\ap x0 aM a3/\C x0 aM a3/\D x0 aM a3/\E x0 aM a3/\F x0 aM a3) (k:∀x0 aM a3,A x0 aM a3->ap x0 aM a3->C x0 aM a3->D x0 aM a3->E x0 aM a3->F x0 aM a3->G):G:=h.elim fun x h=>u3 h (k x)
theorem jl {cN:Sort _} {du:Sort _} {ei:Sort _} {f1:Sort _} {A:cN->du->ei->f1->Prop} {G:Prop} (h:∃x0,∃aM,∃a3,∃b0,A x0 aM a3 b0) (k:∀x0 aM a3 b0,A x0 aM a3 b0->G):G:=h.elim fun x h=>p5 h (k x)
theorem pL {cN:Sort _} {du:Sort _} {ei:Sort _} {f1:Sort _} {A ap:cN->du->ei->f1->Prop} {G:Prop} (h:∃x0,∃aM,∃a3,∃b0,A x0 aM a3 b0/\ap x0 aM a3 b0) (k:∀x0 aM a3 b0,A x0 aM a3 b0->ap x0 aM a3 b0->G):G:=h.elim fun x h=>sZ h (k x)
theorem sd {cN:Sort _} {du:Sort _} {ei:Sort _} {f1:Sort _} {A ap C:cN->du->ei->f1->Prop} {G:Prop} (h:∃x0,∃aM,∃a3,∃b0,A x0 aM a3 b0/\ap x0 aM a3 b0/\C x0 aM a3 b0) (k:∀x0 aM a3 b0,A x0 aM a3 b0->ap x0 aM a3 b0->C x0 aM a3 b0->G):G:=h.elim fun x h=>dG h (k x)
theorem wW {cN:Sort _} {du:Sort _} {ei:Sort _} {f1:Sort _} {A ap C D:cN->du->ei->f1->Prop} {G:Prop} (h:∃x0,∃aM,∃a3,∃b0,A x0 aM a3 b0/\ap x0 aM a3 b0/\C x0 aM a3 b0/\D x0 aM a3 b0) (k:∀x0 aM a3 b0,A x0 aM a3 b0->ap x0 aM a3 b0->C x0 aM a3 b0->D x0 aM a3 b0->G):G:=h.elim fun x h=>nJ h (k x)
theorem Hh {cN:Sort _} {du:Sort _} {ei:Sort _} {f1:Sort _} {A ap C D E:cN->du->ei->f1->Prop} {G:Prop} (h:∃x0,∃aM,∃a3,∃b0,A x0 aM a3 b0/\ap x0 aM a3 b0/\C x0 aM a3 b0/\D x0 aM a3 b0/\E x0 aM a3 b0) (k:∀x0 aM a3 b0,A x0 aM a3 b0->ap x0 aM a3 b0->C x0 aM a3 b0->D x0 aM a3 b0->E x0 aM a3 b0->G):G:=h.elim fun x h=>t3 h (k x)
theorem Fn {cN:Sort _} {du:Sort _} {ei:Sort _} {f1:Sort _} {A ap C D E F:cN->du->ei->f1->Prop} {G:Prop} (h:∃x0,∃aM,∃a3,∃b0,A x0 aM a3 b0/\ap x0 aM a3 b0/\C x0 aM a3 b0/\D x0 aM a3 b0/\E x0 aM a3 b0/\F x0 aM a3 b0) (k:∀x0 aM a3 b0,A x0 aM a3 b0->ap x0 aM a3 b0->C x0 aM a3 b0->D x0 aM a3 b0->E x0 aM a3 b0->F x0 aM a3 b0->G):G:=h.elim fun x h=>pa h (k x)
theorem r1 {cN:Sort _} {du:Sort _} {ei:Sort _} {f1:Sort _} {l8:Sort _} {A:cN->du->ei->f1->l8->Prop} {G:Prop} (h:∃x0,∃aM,∃a3,∃b0,∃ew,A x0 aM a3 b0 ew) (k:∀x0 aM a3 b0 ew,A x0 aM a3 b0 ew->G):G:=h.elim fun x h=>jl h (k x)
theorem xp {cN:Sort _} {du:Sort _} {ei:Sort _} {f1:Sort _} {l8:Sort _} {A ap:cN->du->ei->f1->l8->Prop} {G:Prop} (h:∃x0,∃aM,∃a3,∃b0,∃ew,A x0 aM a3 b0 ew/\ap x0 aM a3 b0 ew) (k:∀x0 aM a3 b0 ew,A x0 aM a3 b0 ew->ap x0 aM a3 b0 ew->G):G:=h.elim fun x h=>pL h (k x)
theorem Ys {cN:Sort _} {du:Sort _} {ei:Sort _} {f1:Sort _} {l8:Sort _} {A ap C D:cN->du->ei->f1->l8->Prop} {G:Prop} (h:∃x0,∃aM,∃a3,∃b0,∃ew,A x0 aM a3 b0 ew/\ap x0 aM a3 b0 ew/\C x0 aM a3 b0 ew/\D x0 aM a3 b0 ew) (k:∀x0 aM a3 b0 ew,A x0 aM a3 b0 ew->ap x0 aM a3 b0 ew->C x0 aM a3 b0 ew->D x0 aM a3 b0 ew->G):G:=h.elim fun x h=>wW h (k x)
theorem vE {cN:Sort _} {du:Sort _} {ei:Sort _} {f1:Sort _} {l8:Sort _} {zU:Sort _} {A:cN->du->ei->f1->l8->zU->Prop} {G:Prop} (h:∃x0,∃aM,∃a3,∃b0,∃ew,∃mf,A x0 aM a3 b0 ew mf) (k:∀x0 aM a3 b0 ew mf,A x0 aM a3 b0 ew mf->G):G:=h.elim fun x h=>r1 h (k x)
theorem Vw {cN:Sort _} {du:Sort _} {ei:Sort _} {f1:Sort _} {l8:Sort _} {zU:Sort _} {A ap:cN->du->ei->f1->l8->zU->Prop} {G:Prop} (h:∃x0,∃aM,∃a3,∃b0,∃ew,∃mf,A x0 aM a3 b0 ew mf/\ap x0 aM a3 b0 ew mf) (k:∀x0 aM a3 b0 ew mf,A x0 aM a3 b0 ew mf->ap x0 aM a3 b0 ew mf->G):G:=h.elim fun x h=>xp h (k x)
noncomputable abbrev aw:Program:=PySem.Challenge.pw_og0185_01
noncomputable abbrev o (s:String):Str:=Str.ofString s
noncomputable def aI (i:Nat):Stmt:=(aw.main.body[i]?).getD default
noncomputable def cH (i j:Nat):Stmt:=match aI i with
 |.ClassDef _ _ _ b _ _ _ _ _ _ _=>(b[j]?).getD default
 |s=>s
noncomputable def s0:Stmt->Arguments
 |.FunctionDef _ a _ _ _ _ _ _ _ _=>a
 |_=>default
noncomputable def g3:Stmt->List Stmt
 |.FunctionDef _ _ b _ _ _ _ _ _ _=>b
 |_=>[]
noncomputable def bN:Stmt->Scope
 |.FunctionDef _ _ _ _ _ _ J _ _ _=>J
 |_=>default
inductive al where
 |int (i:Int)|str (s:Str)
 deriving DecidableEq,Repr,Inhabited
inductive H where
 |none|bool (b:Bool)|int (i:Int)|str (s:Str)
 |aF (l:List H)|am (l:List H)|V (l:List (al×H))
 |dV (c:Str) (fs:List (Str×H))|per (k:Nat)
 deriving Repr,Inhabited
inductive cg where
 |U (v:H)|aD (v:H)
 deriving Repr,Inhabited
inductive aV where
 |U (v:H)|b5 (v:H)|var (x:Str)
 deriving Repr,Inhabited
structure X where
 loc:List (Str×cg)
 per:List H
 deriving Repr,Inhabited
inductive bE where
 |next|brk|ret (r:aV)|dB
 deriving Repr,Inhabited
noncomputable def getL (x:Str):List (Str×cg)->Option cg
 |[]=>none
 |(y,v)::r=>if x=y then some v else getL x r
noncomputable def bX (x:Str) (v:cg):List (Str×cg)->List (Str×cg)
 |[]=>[(x,v)]
 |(y,w)::r=>if x=y then(y,v)::r else(y,w)::bX x v r
noncomputable def jI (x:Str):List (Str×cg)->List (Str×cg)
 |[]=>[]
 |(y,w)::r=>if x=y then jI x r else(y,w)::jI x r
noncomputable def iu (x:Str):List (Str×H)->Option H
 |[]=>none
 |(y,v)::r=>if x=y then some v else iu x r
noncomputable def bb (k:al):List (al×H)->Option H
 |[]=>none
 |(y,v)::r=>if k=y then some v else bb k r
noncomputable def cU (k:al) (v:H):List (al×H)->List (al×H)
 |[]=>[(k,v)]
 |(y,w)::r=>if k=y then(y,v)::r else(y,w)::cU k v r
noncomputable def hY (k:al):List (al×H)->List (al×H)
 |[]=>[]
 |(y,w)::r=>if k=y then r else(y,w)::hY k r
noncomputable def Wq (v:cg):Option H:=match v with
 |.aD v=>some v
 |.U _=>none
noncomputable def nf (x:Str) (fs:X):Option H:=br (getL x fs.loc) Wq
theorem oX {x:Str} {fs:X} {v:H} (h:nf x fs=some v):getL x fs.loc=some (.aD v):=
 bG h (fun bh e h=>by
  cases bh with
  |aD u=>refine B e ?_;exact cG (show some u=some v from h) rfl
  |U _=>exact Z h) Z
noncomputable def X.val (fs:X) (r:aV):Option H:=match r with
 |.U v=>some v
 |.b5 v=>some v
 |.var x=>nf x fs
noncomputable def X.nt (fs:X) (v:H):Option H:=match v with
 |.per k=>fs.per[k]?
 |v=>some v
noncomputable def X.cE (fs:X) (r:aV):Option H:=br (fs.val r) fs.nt
noncomputable def X.nL (fs:X) (r:aV):Option (H×X):=match r with
 |.U v=>some (v,fs)
 |.b5 v=>some (v,fs)
 |.var x=>br (nf x fs) fun v=>some (v,{fs with loc:=bX x (.U v) fs.loc})
noncomputable def X.take (fs:X) (r:aV):Option (aV×X):=match r with
 |.U v=>some (.U v,fs)
 |.b5 v=>some (.b5 v,fs)
 |.var x=>br (nf x fs) fun v=>some (.b5 v,{fs with loc:=jI x fs.loc})
noncomputable def fW (v:H):Option Int:=match v with
 |.int b=>some b
 |_=>none
noncomputable def ui (v:H):Option Str:=match v with
 |.str b=>some b
 |_=>none
noncomputable def rz (v:H):Option (List H):=match v with
 |.aF b=>some b
 |_=>none
noncomputable def qG (v:H):Option (List H):=match v with
 |.am b=>some b
 |_=>none
noncomputable def tf (v:H):Option (List (al×H)):=match v with
 |.V b=>some b
 |_=>none
theorem jP {v:H} {i:Int} (h:fW v=some i):v=.int i:=by cases v<;>first|exact Z h|exact cG h rfl
theorem yj {v:H} {i:Str} (h:ui v=some i):v=.str i:=by cases v<;>first|exact Z h|exact cG h rfl
theorem vU {v:H} {i:List H} (h:rz v=some i):v=.aF i:=by cases v<;>first|exact Z h|exact cG h rfl
theorem ri {v:H} {i:List H} (h:qG v=some i):v=.am i:=by cases v<;>first|exact Z h|exact cG h rfl
theorem y3 {v:H} {i:List (al×H)} (h:tf v=some i):v=.V i:=by cases v<;>first|exact Z h|exact cG h rfl
noncomputable def fP:H->Bool
 |.none=>true
 |_=>false
theorem wg {v:H} (h:fP v=true):v=.none:=by cases v<;>first|rfl|exact ln h
noncomputable def lT (f:H->H->Option Bool):List H->List H->Option Bool
 |[],cl=>some cl.isEmpty
 |x::r,cl=>match cl with
  |[]=>some false
  |y::t=>fk (f x y) (lT f r t) fun a b=>some (a&&b)
noncomputable def SH:H->Option Bool
 |.none=>some true
 |.int _=>some false
 |_=>none
noncomputable def Mq (a:Int):H->Option Bool
 |.none=>some false
 |.int b=>some (a==b)
 |_=>none
noncomputable def eP:Nat->H->H->Option Bool
 |0,_,_=>none
 |n+1,x,y=>match x with
  |.none=>SH y
  |.int a=>Mq a y
  |.str a=>br (ui y) fun b=>some (a==b)
  |.aF a=>br (rz y) fun b=>lT (eP n) a b
  |.am a=>br (qG y) fun b=>if a.length=b.length then lT (eP n) a b else some false
  |_=>none
@[elab_as_elim] theorem xR {n:Nat} {P:H->H->Bool->Prop} {x y:H} {b:Bool} (h:eP (n+1) x y=some b) (Vm:P .none .none true) (HT:∀i,P .none (.int i) false) (IT:∀i,P (.int i) .none false) (QN:∀i j,P (.int i) (.int j) (i==j)) (Lg:∀i j,P (.str i) (.str j) (i==j))
  (Bi:∀i j b,lT (eP n) i j=some b->P (.aF i) (.aF j) b) (NQ:∀i j b,i.length=j.length->lT (eP n) i j=some b->P (.am i) (.am j) b) (Pv:∀i j,¬i.length=j.length->P (.am i) (.am j) false):P x y b:=by
 cases x with
 |none=>cases y with
  |none=>exact cG h Vm
  |int i=>exact cG h (HT i)
  |_=>exact Z h
 |int i=>cases y with
  |none=>exact cG h (IT i)
  |int j=>exact cG h (QN i j)
  |_=>exact Z h
 |str i=>exact bG h (fun j e q=>by refine B (yj e) ?_;exact cG q (Lg i j)) Z
 |aF i=>exact bG h (fun j e q=>by refine B (vU e) ?_;exact Bi i j b q) Z
 |am i=>
  refine bG h (fun j e q=> ?_) Z
  refine B (ri e) ?_
  by_cases aq:i.length=j.length
  ·exact NQ i j b aq ((if_pos aq).symm.trans q)
  ·exact cG ((if_neg aq).symm.trans q) (Pv i j aq)
 |_=>exact Z h
noncomputable def eG:Nat:=32
noncomputable def zX (a b:List (al×H)):Option Bool:=if(a.isEmpty||b.isEmpty)=true then some (a.isEmpty&&b.isEmpty) else none
noncomputable def tw (x y:H):Option Bool:=match x with
 |.V a=>br (tf y) fun b=>zX a b
 |_=>eP eG x y
theorem QL {x y:H} {b:Bool} {G:Prop} (h:tw x y=some b) (k1:∀i j,x=.V i->y=.V j->zX i j=some b->G) (k2:eP eG x y=some b->G):G:=by
 cases x with
 |V i=>exact bG h (fun j e q=>k1 i j rfl (y3 e) q) Z
 |_=>exact k2 h
noncomputable def f8:H->Option al
 |.int i=>some (.int i)
 |.str s=>some (.str s)
 |_=>none
noncomputable def pt:al->H
 |.int i=>.int i
 |.str s=>.str s
noncomputable def a4:Nat:=1048576
noncomputable def qH (a:Int):Bool:=decide (a.natAbs<2^64)
noncomputable def AD (bW:Operator) (x y:Int):Option Int:=match bW with
 |.Add=>some (x+y)
 |.Sub=>some (x-y)
 |.Mult=>if qH x||qH y then some (x*y) else none
 |.FloorDiv=>if y=0||1073741824<=y.natAbs then none else some (x.fdiv y)
 |.Mod=>if y=0 then none else some (x.fmod y)
 |.Pow=>if 0<=y&&y<64&&x.natAbs<2^1024 then some (x^y.toNat) else none
 |_=>none
noncomputable def xx:Operator->Bool
 |.Add=>true
 |_=>false
theorem AQ {bW:Operator} (h:xx bW=true):bW=.Add:=by cases bW<;>first|rfl|exact Bool.noConfusion h
noncomputable def kh (bW:Operator) (a b:H):Option aV:=match a with
 |.int x=>br (fW b) fun y=>br (AD bW x y) fun z=>some (.U (.int z))
 |.aF x=>br (rz b) fun y=>if(xx bW&&decide (x.length+y.length<=a4))=true then some (.U (.aF (x++y))) else none
 |.am x=>br (qG b) fun y=>if(xx bW&&decide (x.length+y.length<=a4))=true then some (.b5 (.am (x++y))) else none
 |_=>none
noncomputable def y2 (s:Str):List H->Option Bool
 |[]=>some false
 |v::r=>br (ui v) fun t=>(y2 s r).map fun b=>decide (t=s)||b
noncomputable def MZ (a b:H):Option Bool:=match b with
 |.V l=>(f8 a).map fun k=>(bb k l).isSome
 |.aF l=>br (ui a) fun s=>y2 s l
 |_=>none
noncomputable def eK (bW:CmpOp) (a b:H):Option Bool:=
 match bW with
 |.Lt=>fk (fW a) (fW b) fun x y=>some (decide (x<y))
 |.LtE=>fk (fW a) (fW b) fun x y=>some (decide (x<=y))
 |.Gt=>fk (fW a) (fW b) fun x y=>some (decide (y<x))
 |.GtE=>fk (fW a) (fW b) fun x y=>some (decide (y<=x))
 |.Eq=>tw a b
 |.NotEq=>(tw a b).map (!·)
 |.Is=>if fP b=true then some (fP a) else none
 |.IsNot=>if fP b=true then some (!fP a) else none
 |.In=>MZ a b
 |.NotIn=>br (tf b) fun l=>(f8 a).map fun k=> !(bb k l).isSome
noncomputable def Hf:H->Option Bool
 |.bool b=>some b
 |.am l=>if l.length<=a4 then some (!l.isEmpty) else none
 |_=>none
noncomputable def hB:List Str:=["Name","Reference","Page","Spot","Decimal","String","Stream"]
noncomputable def rq:List Str:=["bool","int","list","dict"]
noncomputable def gz (v:H) (c:Str):Option Bool:=
 if rq.contains c||hB.contains c then match v with
  |.per _=>none
  |.dV d _=>if d=("Shelf":Str)||hB.contains d then some (decide (c=d)) else none
  |.bool _=>some (decide (c=("bool":Str))||decide (c=("int":Str)))
  |.int _=>some (decide (c=("int":Str)))
  |.am _=>some (decide (c=("list":Str)))
  |.V _=>some (decide (c=("dict":Str)))
  |_=>some false
 else none
noncomputable def jN (c:Str):Option (List Str):=
 if c=("Name":Str) then some ["text"]
 else if c=("Reference":Str) then some ["number","generation"]
 else if c=("Page":Str) then some ["reference","fields"]
 else if c=("Spot":Str) then some ["reference","head","above","inherited","is_page"]
 else none
noncomputable def ql (c a:Str):Bool:=match jN c with
 |some l=>l.contains a
 |none=>c=("Shelf":Str)&&(a=("table":Str)||a=("trailer":Str))
noncomputable def qt (c m:Str):Option Str:=
 if c=("Reference":Str) then(if m=("pair":Str) then some "Reference.pair" else none)
 else if c=("Shelf":Str) then
  (if m=("fetch":Str) then some "Lookup.fetch"
  else if m=("get":Str) then some "Lookup.get"
  else if m=("put":Str) then some "Shelf.put"
  else if m=("add":Str) then some "Shelf.add"
  else if m=("numbers":Str) then some "Shelf.numbers"
  else if m=("root":Str) then some "Shelf.root"
  else if m=("told":Str) then some "Shelf.told"
  else none)
 else none
noncomputable def qZ:List (Str×(Nat×Option Nat)):=[
 (o "Reference.pair",12,some 1),(o "kind_of",13,none),(o "told_plain",14,none),(o "told",15,none),(o "told_objects",15,none),(o "copied",17,none),
 (o "Lookup.fetch",18,some 1),(o "Lookup.get",18,some 2),(o "Shelf.put",19,some 0),(o "Shelf.add",19,some 1),(o "Shelf.numbers",19,some 3),(o "Shelf.root",19,some 4),(o "Shelf.told",19,some 5),
 (o "turned",24,none),(o "home_of",25,none),(o "is_node",26,none),(o "kids_of",27,none),(o "met",28,none),(o "spots",29,none),(o "fields_of",30,none),(o "page_spots",31,none),(o "pages",32,none),
 (o "page_count",33,none),(o "is_count",34,none),(o "page_at",35,none),(o "kid_with",36,none),(o "counts_of",37,none),(o "is_parent",38,none),(o "page_faults",39,none),(o "settle",40,none),(o "lay",41,none),
 (o "grouped",42,none),(o "build_pages",43,none),(o "place_of",44,none),(o "kid_index",45,none),(o "put_reference",46,none),(o "insert_page",47,none),
 (o "_law_pen",49,none),(o "_law_draw",50,none),(o "_law_page",52,none),(o "_law_seen",53,none),(o "_law_refused",54,none),(o "law",55,none)]
noncomputable def ds (x:Str):Option Stmt:=(qZ.lookup x).map fun p=>match p.2 with|none=>aI p.1|some j=>cH p.1 j
noncomputable def jV (f:Str):Bool:=match qZ.lookup f with
 |some (_,none)=>true
 |_=>false
noncomputable def kS:Expr->Bool
 |.Call (.Name id _) [] [] _=>id !=("super":Str)
 |_=>true
noncomputable def oK (J aW:Scope):Bool:=
 aW.kind==.function&&aW.names.all fun(n,k)=>k !=.cell&&(k !=.local||aW.names.lookup n==some .local)&&(k !=.free||J.names.lookup n==some .cell)
noncomputable def Ce (x:Str):Option H:=
 if x=("INHERITED":Str) then some (.aF [.str "Resources",.str "MediaBox",.str "CropBox",.str "Rotate"])
 else if x=("MOST_HOPS":Str) then some (.int 30)
 else none
noncomputable def g8:Expr->Option Str
 |.Name x _=>some x
 |_=>none
theorem n6 {e:Expr} {x:Str} (h:g8 e=some x):∃p,e=.Name x p:=by cases e<;>first|exact Z h|(cases h;exact⟨_,rfl⟩)
noncomputable def xN:Expr->Option (Expr×List Expr)
 |.Call f args [] _=>some (f,args)
 |_=>none
theorem Gv {e f:Expr} {args:List Expr} (h:xN e=some (f,args)):∃p,e=.Call f args [] p:=by
 cases e with
 |Call O8 Y4 lv p=>cases lv with
  |nil=>cases h;exact⟨_,rfl⟩
  |cons _ _=>exact Z h
 |_=>exact Z h
noncomputable def ss (l:List Expr):Option Expr:=match l with
 |[a]=>some a
 |_=>none
theorem uo {l:List Expr} {a:Expr} (h:ss l=some a):l=[a]:=by
 cases l with
 |nil=>exact Z h
 |cons b r=>cases r with
  |nil=>cases h;rfl
  |cons _ _=>exact Z h
noncomputable def isStr:Expr->Bool
 |.Constant (.str _) _ _=>true
 |_=>false
theorem MJ {e:Expr} (h:isStr e=true):∃s k p,e=.Constant (.str s) k p:=by
 cases e with
 |Constant c k p=>cases c<;>first|exact⟨_,_,_,rfl⟩|(exact Bool.noConfusion h)
 |_=>exact Bool.noConfusion h
noncomputable def Fz (e:Option Expr):Option Str:=br e fun e=>match e with
 |.Constant c _ _=>match c with
  |.str s=>some s
  |_=>none
 |_=>none
theorem Ic {e:Option Expr} {n:Str} (h:Fz e=some n):∃k p,e=some (.Constant (.str n) k p):=by
 cases e with
 |none=>exact Z h
 |some e=>cases e with
  |Constant c k p=>cases c with
   |str s=>exact cG h ⟨k,p,rfl⟩
   |_=>exact Z h
  |_=>exact Z h
noncomputable def CJ (hs:List ExceptHandler) (gC cJ:List Stmt):Option (Str×List Stmt):=match hs with
 |[.ExceptHandler (some t) none ah _]=>match gC with
  |[]=>match cJ with
   |[]=>(g8 t).map fun c=>(c,ah)
   |_=>none
  |_=>none
 |_=>none
theorem Vu {hs:List ExceptHandler} {gC cJ:List Stmt} {c:Str} {ah:List Stmt} (h:CJ hs gC cJ=some (c,ah)):∃mH an,hs=[.ExceptHandler (some (.Name c mH)) none ah an]/\gC=[]/\cJ=[]:=by
 cases hs with
 |nil=>exact Z h
 |cons a l=>
  obtain⟨v9,nm,b,an⟩:=a
  cases v9 with
  |none=>exact Z h
  |some t=>cases nm with
   |some _=>exact Z h
   |none=>cases l with
    |cons _ _=>exact Z h
    |nil=>cases gC with
     |cons _ _=>exact Z h
     |nil=>cases cJ with
      |cons _ _=>exact Z h
      |nil=>
       have h:(g8 t).map (fun c=>(c,b))=some (c,ah):=h
       obtain⟨x,ae,e⟩:=Option.map_eq_some_iff.mp h
       cases e
       obtain⟨p,e⟩:=n6 ae
       subst e
       exact⟨_,_,rfl,rfl,rfl⟩
noncomputable abbrev ct:=Str->List H->List H->Option (bE×List H)
structure bk where
 a9:Expr->X->Option (aV×X)
 dD:Expr->X->Option (Bool×X)
 dg:Stmt->X->Option (bE×X)
section
variable(C:ct) (R:bk)
end
noncomputable def uP (r:aV):Option H:=match r with
 |.U v=>some v
 |_=>none
noncomputable def oe {b3:Type w} (x:Option (aV×X)) (f:H->X->Option b3):Option b3:=ob x fun r fs=>br (uP r) fun v=>f v fs
noncomputable def HB (v:H):Option Bool:=match v with
 |.bool b=>some b
 |_=>none
noncomputable def Mx (f:bE):Option aV:=match f with
 |.ret r=>some r
 |_=>none
noncomputable def tA {b3:Type w} (x:Option (aV×X)) (f:Bool->X->Option b3):Option b3:=oe x fun v fs=>br (HB v) fun b=>f b fs
noncomputable def pB {b3:Type w} (x:Option (aV×X)) (f:Int->X->Option b3):Option b3:=oe x fun v fs=>br (fW v) fun b=>f b fs
noncomputable def xc {b3:Type w} (x:Option (aV×X)) (f:List H->X->Option b3):Option b3:=oe x fun v fs=>br (rz v) fun b=>f b fs
noncomputable def sK {m5:Type u} {b3:Type w} (x:Option (bE×m5)) (f:aV->m5->Option b3):Option b3:=ob x fun v fs=>br (Mx v) fun b=>f b fs
section
variable{b3:Type w} {x:Option (aV×X)} {z:b3} {G:Prop}
theorem Go {r:aV} {v:H} (h:uP r=some v):r=.U v:=by cases r<;>cases h;rfl
theorem sf {f:H->X->Option b3} (h:oe x f=some z) (k:∀a b,x=some (.U a,b)->f a b=some z->G) (k0:(none:Option b3)=some z->G):G:=
 b6 h (fun r b e q=>bG q (fun v O q=>k v b (e.trans (by(refine B (Go O) ?_;rfl))) q) k0) k0
theorem FW {f:Bool->X->Option b3} (h:tA x f=some z) (k:∀a b,x=some (.U (.bool a),b)->f a b=some z->G) (k0:(none:Option b3)=some z->G):G:=
 sf h (fun r b e q=>bG q (fun v O q=>k v b (e.trans (by cases r<;>cases O;rfl)) q) k0) k0
theorem Di {f:Int->X->Option b3} (h:pB x f=some z) (k:∀a b,x=some (.U (.int a),b)->f a b=some z->G) (k0:(none:Option b3)=some z->G):G:=
 sf h (fun r b e q=>bG q (fun v O q=>k v b (e.trans (by cases r<;>cases O;rfl)) q) k0) k0
theorem Hr {f:List H->X->Option b3} (h:xc x f=some z) (k:∀a b,x=some (.U (.aF a),b)->f a b=some z->G) (k0:(none:Option b3)=some z->G):G:=
 sf h (fun r b e q=>bG q (fun v O q=>k v b (e.trans (by cases r<;>cases O;rfl)) q) k0) k0
theorem yV {m5:Type u} {x:Option (bE×m5)} {f:aV->m5->Option b3} (h:sK x f=some z) (k:∀a b,x=some (.ret a,b)->f a b=some z->G) (k0:(none:Option b3)=some z->G):G:=
 b6 h (fun r b e q=>bG q (fun v O q=>k v b (e.trans (by cases r<;>cases O;rfl)) q) k0) k0
theorem kB {v:H} {fs:X} {f:H->X->Option b3}:oe (some (.U v,fs)) f=f v fs:=rfl
theorem kA {v:Bool} {fs:X} {f:Bool->X->Option b3}:tA (some (.U (.bool v),fs)) f=f v fs:=rfl
theorem kF {v:Int} {fs:X} {f:Int->X->Option b3}:pB (some (.U (.int v),fs)) f=f v fs:=rfl
theorem kJ {v:List H} {fs:X} {f:List H->X->Option b3}:xc (some (.U (.aF v),fs)) f=f v fs:=rfl
theorem kR {m5:Type u} {v:aV} {fs:m5} {f:aV->m5->Option b3}:sK (some (.ret v,fs)) f=f v fs:=rfl
end
section
variable(C:ct) (R:bk)
noncomputable def d2 (e:Expr) (fs:X):Option (H×X):=ob (R.a9 e fs) fun r fs'=>fs'.nL r
noncomputable def v1 (x:Str):cg->aV
 |.U v=>.U v
 |.aD _=>.var x
noncomputable def dp:List Expr->X->Option (List H×X)
 |[],fs=>some ([],fs)
 |e::t,fs=>ob (d2 R e fs) fun v fs₁=>ob (dp t fs₁) fun vs fs₂=>some (v::vs,fs₂)
noncomputable def n0:List (Option Expr)->List Expr->X->Option (List (al×H)×X)
 |[],es,fs=>if es.isEmpty=true then some ([],fs) else none
 |k::ks,es,fs=>match es with
  |[]=>none
  |e::t=>br (Fz k) fun n=>ob (d2 R e fs) fun v fs₁=>ob (n0 ks t fs₁) fun vs fs₂=>some ((.str n,v)::vs,fs₂)
noncomputable def oR:List Expr->X->Option (Bool×X)
 |[],_=>none
 |e::t,fs=>tA (R.a9 e fs) fun b fs₁=>if(b&& !t.isEmpty)=true then oR t fs₁ else some (b,fs₁)
noncomputable def w9:BoolOp->Bool
 |.Or=>true
 |.And=>false
noncomputable def wV (bW:BoolOp):List Expr->X->Option (Bool×X)
 |[],fs=>some (!w9 bW,fs)
 |e::t,fs=>ob (R.dD e fs) fun b fs₁=>if(b==w9 bW)=true then some (b,fs₁) else wV bW t fs₁
noncomputable def fin2 (e0:List CmpOp) (es:List Expr):Option Bool:=match e0 with
 |[]=>if es.isEmpty=true then some true else none
 |_::_=>if es.isEmpty=true then none else some false
noncomputable def sQ (left:aV):List CmpOp->List Expr->X->Option (Bool×X)
 |[],_,_=>none
 |bW::e0,es,fs=>match es with
  |[]=>none
  |e::es=>ob (R.a9 e fs) fun r fs₁=>fk (fs₁.cE left) (fs₁.cE r) fun a b=>br (eK bW a b) fun c=>br (fin2 e0 es) fun z=>
    if z=true then some (c,fs₁) else br (uP r) fun v=>if c=true then sQ (.U v) e0 es fs₁ else some (false,fs₁)
noncomputable def jL (i:Int) (n:Nat):Nat:=if i<0 then(i+n).toNat else min i.toNat n
noncomputable def vL (n:Nat):Option Int->Nat
 |none=>0
 |some i=>jL i n
noncomputable def vg (n:Nat):Option Int->Nat
 |none=>n
 |some i=>jL i n
noncomputable def iU (l:List H) (c1 aR:Option Int):List H:=(l.take (vg l.length aR)).drop (vL l.length c1)
noncomputable def j8 (i:Int) (n:Nat):Option Nat:=if 0<=i then(if i.toNat<n then some i.toNat else none) else(if 0<=i+n then some (i+n).toNat else none)
noncomputable def qj (v:H):Option (List H):=match v with
 |.am l=>some l
 |.aF l=>some l
 |.V l=>some (l.map fun p=>pt p.1)
 |_=>none
noncomputable def IX (v:H):Option (List H):=br (fW v) fun n=>if(decide (-1048576<=n)&&decide (n<=1048576))=true then some ((List.range n.toNat).map fun(i:Nat)=>H.int i) else none
noncomputable def w1 (e:Expr):Option (Str×Expr):=ob (xN e) fun f args=>fk (g8 f) (ss args) fun f a=>some (f,a)
theorem AI {e a:Expr} {f:Str} (h:w1 e=some (f,a)):∃p q,e=.Call (.Name f p) [a] [] q:=
 b6 h (fun g args M h=>hJ h (fun O8 jk O Y h=>b7 h ((Gv M).elim fun q ak=>(n6 O).elim fun p ar=>⟨p,q,by(refine B ak ?_;refine B ar ?_;refine B (uo Y) ?_;rfl)⟩)) Z) Z
noncomputable def oj (g:H->Option (List H)) (e:Expr) (fs:X):Option (List H×X):=ob (d2 R e fs) fun v fs₁=>br (g v) fun l=>some (l,fs₁)
noncomputable def Nz (v:H):Option (List H):=br (qG v) fun l=>some l.reverse
noncomputable def HK (f:Str) (a e:Expr) (fs:X):Option (List H×X):=if f=("range":Str) then oj R IX a fs else if f=("reversed":Str) then oj R Nz a fs else oj R qj e fs
noncomputable def hy (J:Scope) (e:Expr) (fs:X):Option (List H×X):=match w1 e with
 |some p=>if J.names.lookup p.1=some .globalImplicit then HK R p.1 p.2 e fs else none
 |none=>oj R qj e fs
noncomputable def Bd:al->Option Int
 |.int i=>some i
 |.str _=>none
noncomputable def RT:al->Option Str
 |.str s=>some s
 |.int _=>none
noncomputable def oE:List (al×H)->Option (List Int)
 |[]=>some []
 |p::r=>fk (Bd p.1) (oE r) fun i t=>some (i::t)
noncomputable def uv:List (al×H)->Option (List Str)
 |[]=>some []
 |p::r=>fk (RT p.1) (uv r) fun i t=>some (i::t)
noncomputable def xm (a b:Str):Bool:=decide (a.cps.toList<b.cps.toList)
noncomputable def jK (a:Int):List Int->List Int
 |[]=>[a]
 |b::r=>if a<b then a::b::r else b::jK a r
noncomputable def kV (a:Str):List Str->List Str
 |[]=>[a]
 |b::r=>if xm a b then a::b::r else b::kV a r
noncomputable def pY (l:List Int):List Int:=l.foldl (fun cn a=>jK a cn) []
noncomputable def zy (l:List Str):List Str:=l.foldl (fun cn a=>kV a cn) []
noncomputable def ym (v:H):Option (H×H):=br (rz v) fun l=>match l with
 |[]=>none
 |k::t=>match t with
  |[]=>none
  |v::u=>if u.isEmpty=true then some (k,v) else none
theorem DS {v k x:H} (h:ym v=some (k,x)):v=.aF [k,x]:=bG h (fun l e q=>by
 refine B (vU e) ?_
 cases l with
 |nil=>exact Z q
 |cons a t=>cases t with
  |nil=>exact Z q
  |cons b u=>cases u with
   |nil=>exact b7 (show some (a,b)=some (k,x) from q) rfl
   |cons _ _=>exact Z q) Z
noncomputable def np (v:H):Bool:=(ob (ym v) fun k w=>fk (fW k) (fW w) fun _ _=>some ()).isSome
theorem CB {v:H} (h:np v=true):∃i j,v=.aF [.int i,.int j]:=
 (Option.isSome_iff_exists.mp h).elim fun u q=>b6 q (fun k w e q=>hJ q (fun i j M O _=>⟨i,j,by(refine B (DS e) ?_;refine B (jP M) ?_;refine B (jP O) ?_;rfl)⟩) Z) Z
noncomputable def pairsOf:List H->Option (List (al×H))
 |[]=>some []
 |x::r=>ob (ym x) fun k v=>fk (f8 k) (pairsOf r) fun k t=>some ((k,v)::t)
noncomputable def vd:List H->Option (List Int)
 |[]=>some []
 |x::r=>fk (fW x) (vd r) fun i t=>some (i::t)
noncomputable def m2 (x:H):List H->Option Nat
 |[]=>none
 |y::r=>br (eP eG y x) fun b=>if b=true then some 0 else br (m2 x r) fun n=>some (n+1)
noncomputable def pP:List Str->List H->Option (List (Str×H))
 |[],vs=>if vs.isEmpty=true then some [] else none
 |x::r,vs=>match vs with
  |[]=>none
  |v::t=>br (pP r t) fun l=>some ((x,v)::l)
noncomputable def yw (v:H):Option Nat:=match v with
 |.am l=>some l.length
 |.aF l=>some l.length
 |.V l=>some l.length
 |_=>none
noncomputable def B5 (v:H):Option aV:=match v with
 |.int i=>some (.U (.int i))
 |.bool b=>some (.U (.int (if b then 1 else 0)))
 |_=>none
noncomputable def sC (l:List (al×H)):Option aV:=match oE l with
 |some ns=>some (.b5 (.am ((pY ns).map .int)))
 |none=>br (uv l) fun ns=>some (.b5 (.am ((zy ns).map .str)))
@[elab_as_elim] theorem Ie {l:List (al×H)} {r:aV} {G:aV->Prop} (h:sC l=some r) (k1:∀ns,oE l=some ns->G (.b5 (.am ((pY ns).map .int)))) (k2:∀ns,uv l=some ns->G (.b5 (.am ((zy ns).map .str)))):G r:=by
 unfold sC at h
 cases q:oE l with
 |some ns=>replace h:=q▸h;exact cG h (k1 ns q)
 |none=>replace h:=q▸h;exact bG h (fun ns e h=>cG h (k2 ns e)) Z
noncomputable def Lv (v:H):Option aV:=match v with
 |.V l=>if l.length<=a4 then some (.b5 (.V l)) else none
 |.am l=>if l.length<=a4 then br (pairsOf l) fun ps=>some (.b5 (.V (ps.foldl (fun d p=>cU p.1 p.2 d) []))) else none
 |_=>none
noncomputable def HF (v:H):Option aV:=br (yw v) fun n=>if n<=a4 then some (.U (.int n)) else none
noncomputable def KE (v:H):Option aV:=br (fW v) fun i=>some (.U (.int (if i<0 then-i else i)))
noncomputable def HG (v:H):Option aV:=br (qG v) fun l=>br (vd l) fun ns=>some (.U (.int ns.sum))
noncomputable def N5 (v:H):Option aV:=br (tf v) fun l=>if l.length<64 then sC l else none
noncomputable def MY (v:H):Option aV:=br (qG v) fun l=>if l.length<=a4 then some (.U (.aF l)) else none
noncomputable def W3 (f:Str) (v:H):Option aV:=if f=("dict":Str) then Lv v else none
noncomputable def HV (f:Str) (v:H):Option aV:=if f=("tuple":Str) then MY v else W3 f v
noncomputable def VH (f:Str) (v:H):Option aV:=if f=("sorted":Str) then N5 v else HV f v
noncomputable def Hz (f:Str) (v:H):Option aV:=if f=("sum":Str) then HG v else VH f v
noncomputable def PB (f:Str) (v:H):Option aV:=if f=("abs":Str) then KE v else Hz f v
noncomputable def gB (f:Str) (v:H):Option aV:=if f=("len":Str) then HF v else if f=("int":Str) then B5 v else PB f v
noncomputable def ml:List Str:=["len","int","abs","sum","sorted","tuple","dict"]
noncomputable def tr (vs:List H):Option H:=match vs with
 |[]=>none
 |v::t=>if t.isEmpty=true then some v else none
theorem xt {vs:List H} {v:H} (h:tr vs=some v):vs=[v]:=by
 cases vs with
 |nil=>exact Z h
 |cons a t=>cases t with
  |nil=>exact cG (show some a=some v from h) rfl
  |cons _ _=>exact Z h
noncomputable def FS (l:List Expr):Option (Expr×Str):=match l with
 |[]=>none
 |e::t=>br (ss t) fun n=>br (g8 n) fun c=>some (e,c)
theorem Jq {l:List Expr} {e:Expr} {c:Str} (h:FS l=some (e,c)):∃p,l=[e,.Name c p]:=by
 cases l with
 |nil=>exact Z h
 |cons a t=>exact bG h (fun n M h=>bG h (fun d O h=>b7 h ((n6 O).elim fun p ak=>⟨p,by(refine B (uo M) ?_;refine B ak ?_;rfl)⟩)) Z) Z
noncomputable def B4 (l:List H):Option (Int×Int):=match l with
 |[]=>none
 |a::t=>br (tr t) fun b=>fk (fW a) (fW b) fun i j=>some (i,j)
theorem HP {l:List H} {i j:Int} (h:B4 l=some (i,j)):l=[.int i,.int j]:=by
 cases l with
 |nil=>exact Z h
 |cons a t=>exact bG h (fun b M h=>hJ h (fun x y O Y h=>b7 h (by(refine B (xt M) ?_;refine B (jP O) ?_;refine B (jP Y) ?_;rfl))) Z) Z
noncomputable def J3 (J:Scope) (args:List Expr) (fs:X):Option (aV×X):=ob (FS args) fun e c=>ob (R.a9 e fs) fun r fs₁=>br (fs₁.cE r) fun v=>br (gz v c) fun b=>if J.names.lookup c=some .globalImplicit then some (.U (.bool b),fs₁) else none
noncomputable def Pu (args:List Expr) (fs:X):Option (aV×X):=ob (dp R args fs) fun vs fs₁=>ob (B4 vs) fun a b=>some (.U (.int (if b<a then b else a)),fs₁)
noncomputable def UI (f:Str) (args:List Expr) (fs:X):Option (aV×X):=br (ss args) fun e=>ob (R.a9 e fs) fun r fs₁=>br (fs₁.cE r) fun v=>br (gB f v) fun r'=>some (r',fs₁)
noncomputable def Ry (args:List Expr) (fs:X):Option (aV×X):=if args.isEmpty=true then some (.U (.dV "Shelf" [("table",.per fs.per.length),("trailer",.per (fs.per.length+1))]),{fs with per:=fs.per++[.V [],.V []]}) else none
noncomputable def GW (f:Str) (names:List Str) (args:List Expr) (fs:X):Option (aV×X):=ob (dp R args fs) fun vs fs₁=>br (pP names vs) fun l=>some (.U (.dV f l),fs₁)
noncomputable def EJ (f:Str) (args:List Expr) (fs:X):Option (aV×X):=if jV f=true then ob (dp R args fs) fun vs fs₁=>sK (C f vs fs₁.per) fun r per=>some (r,{fs₁ with per:=per}) else none
noncomputable def rG (f:Str) (args:List Expr) (fs:X):Option (aV×X):=match jN f with
 |some names=>GW R f names args fs
 |none=>EJ C R f args fs
noncomputable def HL (f:Str) (args:List Expr) (fs:X):Option (aV×X):=if f=("Shelf":Str) then Ry args fs else rG C R f args fs
noncomputable def Bn (f:Str) (args:List Expr) (fs:X):Option (aV×X):=if ml.contains f=true then UI R f args fs else HL C R f args fs
noncomputable def Q1 (f:Str) (args:List Expr) (fs:X):Option (aV×X):=if f=("min":Str) then Pu R args fs else Bn C R f args fs
noncomputable def Vb (J:Scope) (f:Str) (args:List Expr) (fs:X):Option (aV×X):=if f=("isinstance":Str) then J3 R J args fs else Q1 C R f args fs
noncomputable def pU (J:Scope) (f:Str) (args:List Expr) (fs:X):Option (aV×X):=if J.names.lookup f=some .globalImplicit then Vb C R J f args fs else none
noncomputable def qp (d:Option H):Option (List (al×H)):=match d with
 |some (.V l)=>some l
 |_=>none
noncomputable def lm (d:Option H):Option (List H):=match d with
 |some (.am l)=>some l
 |_=>none
noncomputable def s1 (r:aV):Option Str:=match r with
 |.var x=>some x
 |_=>none
theorem He {d:Option H} {l:List (al×H)} (h:qp d=some l):d=some (.V l):=by
 cases d with
 |none=>cases h
 |some d=>cases d<;>cases h;rfl
theorem tx {d:Option H} {l:List H} (h:lm d=some l):d=some (.am l):=by
 cases d with
 |none=>cases h
 |some d=>cases d<;>cases h;rfl
theorem zx {r:aV} {x:Str} (h:s1 r=some x):r=.var x:=by cases r<;>cases h;rfl
noncomputable def OQ (c:Str) (l:List (Str×H)) (m:Str) (r:aV) (args:List Expr) (fs:X):Option (aV×X):=
 if(iu m l).isNone=true then br (qt c m) fun f=>ob (fs.nL r) fun self kf=>ob (dp R args kf) fun vs fs₁=>sK (C f (self::vs) fs₁.per) fun r per=>some (r,{fs₁ with per:=per}) else none
noncomputable def xZ (vs:List H):Option (H×Option H):=match vs with
 |[]=>none
 |v::t=>match t with
  |[]=>some (v,none)
  |d::u=>if u.isEmpty=true then some (v,some d) else none
theorem z4 {vs:List H} {v:H} {d:Option H} (h:xZ vs=some (v,d)):vs=v::d.toList:=by
 cases vs with
 |nil=>exact Z h
 |cons a t=>cases t with
  |nil=>exact b7 (show some (a,none)=some (v,d) from h) rfl
  |cons b u=>cases u with
   |nil=>exact b7 (show some (a,some b)=some (v,d) from h) rfl
   |cons _ _=>exact Z h
noncomputable def CS (d:Option H):Bool:=match d with
 |some v=>fP v
 |none=>false
theorem UH {d:Option H} (h:CS d=true):d=some .none:=by
 cases d with
 |none=>exact ln h
 |some v=>(refine B (wg h) ?_;rfl)
noncomputable def Fm (r:aV) (args:List Expr) (fs:X):Option (aV×X):=ob (dp R args fs) fun vs fs₁=>ob (xZ vs) fun k d=>fk (qp (fs₁.cE r)) (f8 k) fun l k=>some (.U ((bb k l).getD (d.getD .none)),fs₁)
noncomputable def Bo (r:aV) (args:List Expr) (fs:X):Option (aV×X):=br (s1 r) fun x=>ob (dp R args fs) fun vs fs₁=>ob (xZ vs) fun k d=>fk (qp (nf x fs₁)) (f8 k) fun l k=>
 if(CS d&&decide (l.length<=a4))=true then some (.U ((bb k l).getD .none),{fs₁ with loc:=bX x (.aD (.V (hY k l))) fs₁.loc}) else none
noncomputable def AE (r:aV) (args:List Expr) (fs:X):Option (aV×X):=br (s1 r) fun x=>ob (dp R args fs) fun vs fs₁=>fk (tr vs) (lm (nf x fs₁)) fun v l=>if l.length<=a4 then some (.U .none,{fs₁ with loc:=bX x (.aD (.am (l++[v]))) fs₁.loc}) else none
noncomputable def Bf (r:aV) (args:List Expr) (fs:X):Option (aV×X):=br (s1 r) fun x=>br (lm (nf x fs)) fun l=>br l.getLast? fun v=>if(args.isEmpty&&decide (l.length<=a4))=true then some (.U v,{fs with loc:=bX x (.aD (.am l.dropLast)) fs.loc}) else none
noncomputable def F4 (r:aV) (args:List Expr) (fs:X):Option (aV×X):=ob (dp R args fs) fun vs fs₁=>fk (tr vs) (lm (fs₁.cE r)) fun v l=>if(decide (l.length<=a4)&&l.all (fun y=>np y&&(eP eG y v).isSome))=true then br (m2 v l) fun(i:Nat)=>some (aV.U (.int (i:Int)),fs₁) else none
noncomputable def W5 (m:Str) (r:aV) (args:List Expr) (fs:X):Option (aV×X):=if m=("get":Str) then Fm R r args fs else if m=("pop":Str) then Bo R r args fs else none
noncomputable def O6 (m:Str) (r:aV) (args:List Expr) (fs:X):Option (aV×X):=if m=("append":Str) then AE R r args fs else if m=("pop":Str) then Bf r args fs else if m=("index":Str) then F4 R r args fs else none
noncomputable def M6 (m:Str) (r:aV) (args:List Expr) (fs:X) (d:Option H):Option (aV×X):=br d fun d=>match d with
 |.dV c l=>OQ C R c l m r args fs
 |.V _=>W5 R m r args fs
 |.am _=>O6 R m r args fs
 |_=>none
noncomputable def iK (m:Str) (r:aV) (args:List Expr) (fs:X):Option (aV×X):=M6 C R m r args fs (fs.cE r)
noncomputable def mY (e:Option Expr) (fs:X):Option (Option Int×X):=match e with
 |none=>some (none,fs)
 |some e=>pB (R.a9 e fs) fun i fs₁=>some (some i,fs₁)
noncomputable def qO (l:List H) (k:H):Option H:=br (fW k) fun i=>if i.natAbs<2^62 then br (j8 i l.length) fun j=>l[j]? else none
noncomputable def o5 (v:H) (i:H):Option H:=match v with
 |.am l=>qO l i
 |.aF l=>qO l i
 |.V l=>br (f8 i) fun k=>bb k l
 |_=>none
theorem Ej {l:List H} {k y:H} {G:Prop} (h:qO l k=some y) (g:∀i j,k=.int i->i.natAbs<2^62->j8 i l.length=some j->l[j]? =some y->G):G:=
 bG h (fun i e q=>cK q (fun M q=>bG q (fun j ar q=>g i j (jP e) M ar q) Z) Z) Z
noncomputable def WJ (ifs:List Expr) (fs:X):Option (Bool×X):=match ifs with
 |[]=>some (true,fs)
 |c::t=>if t.isEmpty=true then R.dD c fs else none
noncomputable def gd (x:Str) (ifs:List Expr) (elt:Expr):List H->X->Option (List H×X)
 |[],fs=>some ([],fs)
 |v::t,fs=>ob (WJ R ifs {fs with loc:=bX x (.U v) fs.loc}) fun b fs₁=>if b=true then ob (d2 R elt fs₁) fun y fs₂=>ob (gd x ifs elt t fs₂) fun cl fs₃=>some (y::cl,fs₃) else gd x ifs elt t fs₁
noncomputable def ls (aW:Scope) (loc:List (Str×cg)):List (Str×cg):=loc.filterMap fun p=>if aW.names.lookup p.1=some .free then(match getL p.1 loc with
 |some (.U v)=>some (p.1,.U v)
 |_=>none) else none
noncomputable def F8 (J:Scope) (x:Str) (fs:X):Option (aV×X):=br (J.names.lookup x) fun k=>
 if k=.globalImplicit then br (Ce x) fun v=>some (.U v,fs) else if(x==("__debug__":Str))=true then none else br (getL x fs.loc) fun bh=>some (v1 x bh,fs)
noncomputable def Dg (gens:List Comprehension):Option (Str×Expr×List Expr):=match gens with
 |[]=>none
 |g::t=>br (g8 g.target) fun x=>if(t.isEmpty&&decide (g.is_async=0))=true then some (x,g.iter,g.ifs) else none
theorem Ev {gens:List Comprehension} {x:Str} {iter:Expr} {ifs:List Expr} (h:Dg gens=some (x,iter,ifs)):∃p,gens=[⟨.Name x p,iter,ifs,0⟩]:=by
 cases gens with
 |nil=>exact Z h
 |cons g t=>
  obtain⟨a,b,c,d⟩:=g
  refine bG h (fun y M h=>cK h (fun O h=> ?_) Z) Z
  cases h
  exact(n6 M).elim fun p e=>⟨p,by(refine B (show a=_ from e) ?_;refine B (List.isEmpty_iff.mp (Bool.and_eq_true_iff.mp O).1) ?_;refine B (show d=0 from of_decide_eq_true (Bool.and_eq_true_iff.mp O).2) ?_;rfl)⟩
noncomputable def Ui (cb:Scope->bk) (J:Scope) (elt:Expr) (x:Str) (iter:Expr) (ifs:List Expr) (aW:Scope) (fs:X):Option (aV×X):=ob (hy (cb J) J iter fs) fun items fs₁=>if(decide (items.length<=a4)&&(aW.names.lookup x==some .local&&oK J aW))=true then
    ob (gd (cb aW) x ifs elt items {fs₁ with loc:=ls aW fs₁.loc}) fun cl fs₂=>some (.b5 (.am cl),{fs₁ with per:=fs₂.per})
   else none
noncomputable def yx (cb:Scope->bk) (J:Scope) (elt:Expr) (gens:List Comprehension) (aW:Scope) (fs:X):Option (aV×X):=br (Dg gens) fun g=>Ui cb J elt g.1 g.2.1 g.2.2 aW fs
noncomputable def BB (d:Option H):Option (Str×List (Str×H)):=br d fun v=>match v with
 |.dV c l=>some (c,l)
 |_=>none
theorem O1 {d:Option H} {c:Str} {l:List (Str×H)} (h:BB d=some (c,l)):d=some (.dV c l):=
 bG h (fun v e h=>by
  cases v with
  |dV c' dc=>refine B e ?_;exact b7 (show some (c',dc)=some (c,l) from h) rfl
  |_=>exact Z h) Z
noncomputable def CZ (c:Const) (fs:X):Option (aV×X):=match c with
 |.none=>some (.U .none,fs)
 |.bool b=>some (.U (.bool b),fs)
 |.int i=>some (.U (.int i),fs)
 |.str s=>some (.U (.str s),fs)
 |_=>none
noncomputable def Vd (bW:BoolOp) (vs:List Expr) (fs:X):Option (aV×X):=if w9 bW=true then none else ob (oR R vs fs) fun b fs₁=>some (.U (.bool b),fs₁)
noncomputable def TL (l:Expr) (bW:Operator) (r:Expr) (fs:X):Option (aV×X):=ob (R.a9 l fs) fun a fs₁=>ob (R.a9 r fs₁) fun b fs₂=>fk (fs₂.cE a) (fs₂.cE b) fun a b=>br (kh bW a b) fun c=>some (c,fs₂)
noncomputable def Dl (bW:UnaryOp) (x:Expr) (fs:X):Option (aV×X):=match bW with
 |.Not=>tA (R.a9 x fs) fun b fs₁=>some (.U (.bool (!b)),fs₁)
 |.USub=>pB (R.a9 x fs) fun i fs₁=>some (.U (.int (-i)),fs₁)
 |.Invert=>none
 |.UAdd=>none
noncomputable def O0 (c a b:Expr) (fs:X):Option (aV×X):=ob (R.dD c fs) fun t fs₁=>if t=true then R.a9 a fs₁ else R.a9 b fs₁
noncomputable def Sm (ks:List (Option Expr)) (vs:List Expr) (fs:X):Option (aV×X):=ob (n0 R ks vs fs) fun l fs₁=>if ks.length<=15 then some (.b5 (.V (l.foldl (fun d p=>cU p.1 p.2 d) [])),fs₁) else none
noncomputable def Mu (es:List Expr) (fs:X):Option (aV×X):=ob (dp R es fs) fun vs fs₁=>if vs.length<=a4 then some (.b5 (.am vs),fs₁) else none
noncomputable def Nd (es:List Expr) (fs:X):Option (aV×X):=ob (dp R es fs) fun vs fs₁=>if vs.length<=a4 then some (.U (.aF vs),fs₁) else none
noncomputable def UX (l:Expr) (e0:List CmpOp) (lF:List Expr) (fs:X):Option (aV×X):=ob (R.a9 l fs) fun a fs₁=>ob (sQ R a e0 lF fs₁) fun b fs₂=>some (.U (.bool b),fs₂)
noncomputable def Tx (e:Expr) (m:Str) (hg pos:Pos) (args:List Expr) (fs:X):Option (aV×X):=if(kS e&&hg.endLine==pos.line&&args.length<30)=true then ob (R.a9 e fs) fun r fs₁=>iK C R m r args fs₁ else none
noncomputable def Rv (e:Expr) (a:Str) (fs:X):Option (aV×X):=ob (R.a9 e fs) fun r fs₁=>ob (BB (fs₁.cE r)) fun c l=>if(ql c a&&kS e)=true then br (iu a l) fun v=>some (.U v,fs₁) else none
noncomputable def z5 (e:Expr) (c1 aR:Option Expr) (fs:X):Option (aV×X):=ob (R.a9 e fs) fun r fs₁=>ob (mY R c1 fs₁) fun a fs₂=>ob (mY R aR fs₂) fun b fs₃=>br (lm (fs₃.cE r)) fun l=>if l.length<=a4 then some (.b5 (.am (iU l a b)),fs₃) else none
noncomputable def Eh (e i:Expr) (fs:X):Option (aV×X):=ob (R.a9 e fs) fun r fs₁=>oe (R.a9 i fs₁) fun k fs₂=>br (fs₂.cE r) fun v=>br (o5 v k) fun w=>some (.U w,fs₂)
noncomputable def nU (i:Expr):Option (Option Expr×Option Expr):=match i with
 |.Slice c1 aR ao _=>if ao.isNone=true then some (c1,aR) else none
 |_=>none
theorem Wv {i:Expr} {c1 aR:Option Expr} (h:nU i=some (c1,aR)):∃p,i=.Slice c1 aR none p:=by
 cases i with
 |Slice a b ao p=>cases ao with
  |none=>exact b7 (show some (a,b)=some (c1,aR) from h) ⟨p,rfl⟩
  |some _=>exact Z h
 |_=>exact Z h
theorem SC {i:Expr} (h:nU i=none) (l u:Option Expr) (p:Pos):i≠.Slice l u none p:=fun e=>hM ((congrArg nU e).symm.trans h)
noncomputable def xU (e i:Expr) (fs:X):Option (aV×X):=match nU i with
 |some s=>z5 R e s.1 s.2 fs
 |none=>Eh R e i fs
noncomputable def Mv (J:Scope) (f:Expr) (args:List Expr) (pos:Pos) (fs:X):Option (aV×X):=match f with
 |.Attribute e m hO=>Tx C R e m hO pos args fs
 |.Name f _=>pU C R J f args fs
 |_=>none
noncomputable def iT (cb:Scope->bk) (J:Scope) (e:Expr) (fs:X):Option (aV×X):=match e with
 |.Constant c _ _=>CZ c fs
 |.Name x _=>F8 J x fs
 |.BoolOp bW vs _=>Vd (cb J) bW vs fs
 |.BinOp l bW r _=>TL (cb J) l bW r fs
 |.UnaryOp bW x _=>Dl (cb J) bW x fs
 |.IfExp c a b _=>O0 (cb J) c a b fs
 |.Dict ks vs _=>Sm (cb J) ks vs fs
 |.List es _=>Mu (cb J) es fs
 |.Tuple es _ _=>Nd (cb J) es fs
 |.ListComp elt gens aW _=>yx cb J elt gens aW fs
 |.Compare l e0 lF _=>UX (cb J) l e0 lF fs
 |.Call f args lv pos=>if lv.isEmpty=true then Mv C (cb J) J f args pos fs else none
 |.Attribute e a _=>Rv (cb J) e a fs
 |.Subscript e i _=>xU (cb J) e i fs
 |_=>none
noncomputable def uQ (R:bk) (e:Expr) (fs:X):Option (Bool×X):=ob (R.a9 e fs) fun r fs₁=>br (fs₁.cE r) fun v=>br (Hf v) fun b=>some (b,fs₁)
noncomputable def Vg (R:bk) (bW:UnaryOp) (x e:Expr) (fs:X):Option (Bool×X):=match bW with
 |.Not=>ob (R.dD x fs) fun b fs₁=>some (!b,fs₁)
 |_=>uQ R e fs
noncomputable def r7 (cb:Scope->bk) (J:Scope) (e:Expr) (fs:X):Option (Bool×X):=match e with
 |.UnaryOp bW x _=>Vg (cb J) bW x e fs
 |.BoolOp bW vs _=>wV (cb J) bW vs fs
 |.Compare l e0 lF _=>ob ((cb J).a9 l fs) fun a fs₁=>sQ (cb J) a e0 lF fs₁
 |.IfExp ..=>none
 |e=>uQ (cb J) e fs
noncomputable def E1 (k:NameKind):Option Bool:=match k with
 |.local=>some false
 |.cell=>some true
 |_=>none
theorem Od {k:NameKind} {c:Bool} (h:E1 k=some c):k=(if c=true then .cell else .local):=by cases k<;>first|exact Z h|exact cG h rfl
noncomputable def yf (c:Bool) (x:Str) (r:aV) (fs:X):Option X:=match r with
 |.U v=>some {fs with loc:=bX x (.U v) fs.loc}
 |.b5 v=>if c=true then some {loc:=bX x (.U (.per fs.per.length)) fs.loc,per:=fs.per++[v]} else some {fs with loc:=bX x (.aD v) fs.loc}
 |.var _=>none
noncomputable def eQ (J:Scope) (x:Str) (r:aV) (fs:X):Option X:=br (J.names.lookup x) fun k=>br (E1 k) fun c=>yf c x r fs
theorem yG {J:Scope} {x:Str} {r:aV} {fs fs':X} {G:Prop} (h:eQ J x r fs=some fs') (k1:J.names.lookup x=some .local->yf false x r fs=some fs'->G) (k2:J.names.lookup x=some .cell->yf true x r fs=some fs'->G):G:=
 bG h (fun k ag h=>bG h (fun c hc h=>by
  replace ag:=(Od hc)▸ag
  cases c with
  |true=>exact k2 ag h
  |false=>exact k1 ag h) Z) Z
noncomputable def hr (J:Scope):List Expr->List H->X->Option X
 |[],vs,fs=>if vs.isEmpty=true then some fs else none
 |e::r,vs,fs=>match vs with
  |[]=>none
  |v::t=>br (g8 e) fun x=>br (eQ J x (.U v) fs) fun fs₁=>hr J r t fs₁
noncomputable def uA:Expr->Bool
 |.Tuple vs _ _=> !vs.all (constantsAlone 8)
 |_=>true
noncomputable def ur (ts:List Expr):Bool:=ts.all (fun t=>(g8 t).isSome)&&decide (ts.filterMap g8).Nodup
noncomputable def GK (v:H):Option Nat:=match v with
 |.per k=>some k
 |_=>none
theorem IQ {v:H} {k:Nat} (h:GK v=some k):v=.per k:=by cases v<;>first|exact Z h|exact cG h rfl
noncomputable def BD (base:aV) (fs:X):Option (H×(H->X)):=match base with
 |.var x=>br (nf x fs) fun v=>some (v,fun w=>{fs with loc:=bX x (.aD w) fs.loc})
 |.U v=>br (GK v) fun k=>br fs.per[k]? fun v=>some (v,fun w=>{fs with per:=fs.per.set k w})
 |.b5 _=>none
noncomputable def JD (l:List (al×H)) (k v:H) (jF:H->X):Option X:=br (f8 k) fun k=>if l.length<=a4 then some (jF (.V (cU k v l))) else none
noncomputable def P0 (l:List H) (k v:H) (jF:H->X):Option X:=br (fW k) fun i=>if(decide (0<=i)&&(decide (i<1048576)&&decide (i.toNat<l.length)))=true then some (jF (.am (l.set i.toNat v))) else none
noncomputable def p8 (base:aV) (k:H) (v:H) (fs:X):Option X:=ob (BD base fs) fun c jF=>match c with
 |.V l=>JD l k v jF
 |.am l=>P0 l k v jF
 |_=>none
noncomputable def cR:List Stmt->X->Option (bE×X)
 |[],fs=>some (.next,fs)
 |s::r,fs=>ob (R.dg s fs) fun ai fs₁=>match ai with
  |.next=>cR r fs₁
  |.brk=>some (.brk,fs₁)
  |.ret v=>some (.ret v,fs₁)
  |.dB=>some (.dB,fs₁)
noncomputable def qf (ai:bE) (fs:X) (k:X->Option (bE×X)):Option (bE×X):=match ai with
 |.next=>k fs
 |.brk=>some (.next,fs)
 |.ret r=>some (.ret r,fs)
 |.dB=>none
noncomputable def gN (G6:Expr) (body:List Stmt):Nat->X->Option (bE×X)
 |0,_=>none
 |n+1,fs=>ob (R.dD G6 fs) fun t fs₁=>if t=true then ob (cR R body fs₁) fun ai fs₂=>qf ai fs₂ (gN G6 body n) else some (.next,fs₁)
noncomputable def f4 (J:Scope) (x:Str) (body:List Stmt):List H->X->Option (bE×X)
 |[],fs=>some (.next,fs)
 |v::t,fs=>br (eQ J x (.U v) fs) fun kf=>ob (cR R body kf) fun ai fs₁=>qf ai fs₁ (f4 J x body t)
noncomputable def lx:Nat:=1000000
noncomputable def pR (x:Option X):Option (bE×X):=br x fun fs=>some (.next,fs)
@[elab_as_elim] theorem qD {x:Option X} {ai:bE} {fs:X} {G:bE->Prop} (h:pR x=some (ai,fs)) (k:x=some fs->G .next):G ai:=bG h (fun f e h=>by cases h;exact k e) Z
noncomputable def Fh (J:Scope) (x:Str) (r:aV) (fs:X):Option (bE×X):=match r with
 |.U v=>pR (eQ J x (.U v) fs)
 |.b5 v=>pR (eQ J x (.b5 v) fs)
 |.var y=>ob (fs.nL (.var y)) fun v fs₂=>pR (eQ J x (.U v) fs₂)
noncomputable def Lo (J:Scope) (ts:List Expr) (e:Expr) (fs:X):Option (bE×X):=if(uA e&&ur ts)=true then xc (R.a9 e fs) fun vs fs₁=>if vs.length<=a4 then pR (hr J ts vs fs₁) else none else none
noncomputable def Ml (b i e:Expr) (fs:X):Option (bE×X):=ob (d2 R e fs) fun v fs₁=>ob (R.a9 b fs₁) fun r fs₂=>oe (R.a9 i fs₂) fun k fs₃=>pR (p8 r k v fs₃)
noncomputable def Vs (J:Scope) (t e:Expr) (fs:X):Option (bE×X):=match t with
 |.Name x _=>ob (R.a9 e fs) fun r fs₁=>Fh J x r fs₁
 |.Tuple ts _ _=>Lo R J ts e fs
 |.Subscript b i _=>Ml R b i e fs
 |_=>none
noncomputable def z7 {α:Type u} (l:List α):Option α:=match l with
 |[]=>none
 |a::t=>if t.isEmpty=true then some a else none
theorem H3 {α:Type u} {l:List α} {a:α} (h:z7 l=some a):l=[a]:=by
 cases l with
 |nil=>exact Z h
 |cons b t=>cases t with
  |nil=>exact cG (show some b=some a from h) rfl
  |cons _ _=>exact Z h
noncomputable def Fp (ai:bE) (fs:X):Option (bE×X):=match ai with
 |.ret _=>some (.next,fs)
 |.dB=>some (.dB,fs)
 |.next=>none
 |.brk=>none
noncomputable def Rw (J:Scope) (f:Str) (args:List Expr) (fs:X):Option (bE×X):=if(decide (J.names.lookup f=some .globalImplicit)&&jV f)=true then ob (dp R args fs) fun vs fs₁=>ob (C f vs fs₁.per) fun ai per=>Fp ai {fs₁ with per:=per} else none
noncomputable def T1 (J:Scope) (f:Expr) (args:List Expr) (p:Pos) (fs:X):Option (bE×X):=match f with
 |.Name f _=>Rw C R J f args fs
 |.Attribute o m hg=>ob (R.a9 (.Call (.Attribute o m hg) args [] p) fs) fun _ fs₁=>some (.next,fs₁)
 |_=>none
noncomputable def Of (J:Scope) (e:Expr) (fs:X):Option (bE×X):=match e with
 |.Call f args lv p=>if lv.isEmpty=true then T1 C R J f args p fs else none
 |_=>none
noncomputable def UN (b:Bool) (J:Scope) (e d:Option Expr) (fs:X):Option (bE×X):=br e fun e=>ob (xN e) fun f args=>br (g8 f) fun c=>br (ss args) fun a=>
 if(isStr a&&(d.isNone&&(b&&(decide (c=("TreeFault":Str))&&J.names.lookup c==some .globalImplicit))))=true then some (.dB,fs) else none
noncomputable def FC (ai:bE) (fs:X) (h:X->Option (bE×X)):Option (bE×X):=match ai with
 |.dB=>sK (h fs) fun r fs₂=>some (.ret r,fs₂)
 |.next=>some (.next,fs)
 |.brk=>some (.brk,fs)
 |.ret r=>some (.ret r,fs)
noncomputable def Su (Rh:Option (Scope->bk)) (J:Scope) (body:List Stmt) (hs:List ExceptHandler) (gC cJ:List Stmt) (fs:X):Option (bE×X):=br Rh fun Rh=>ob (CJ hs gC cJ) fun c ah=>
 if(decide (c=("TreeFault":Str))&&(J.names.lookup c==some .globalImplicit&&(J.names.all (fun p=>p.2 !=.free)&& !ah.isEmpty)))=true then ob (cR R body fs) fun ai fs₁=>FC ai fs₁ (cR (Rh J) ah) else none
noncomputable def Lu (e:Option Expr) (fs:X):Option (bE×X):=br e fun e=>ob (R.a9 e fs) fun r fs₁=>ob (fs₁.take r) fun r fs₂=>some (.ret r,fs₂)
noncomputable def UO (c:Expr) (a b:List Stmt) (fs:X):Option (bE×X):=ob (R.dD c fs) fun t fs₁=>if t=true then cR R a fs₁ else cR R b fs₁
noncomputable def PF (J:Scope) (t iter:Expr) (body gC:List Stmt) (fs:X):Option (bE×X):=br (g8 t) fun x=>if gC.isEmpty=true then ob (hy R J iter fs) fun items fs₁=>f4 R J x body items fs₁ else none
noncomputable def pl (cb:Scope->bk) (Rh:Option (Scope->bk)) (J:Scope) (s:Stmt) (fs:X):Option (bE×X):=match s with
 |.Return e _=>Lu (cb J) e fs
 |.Break _=>some (.brk,fs)
 |.If c a b _=>UO (cb J) c a b fs
 |.While c body gC _=>if gC.isEmpty=true then gN (cb J) c body lx fs else none
 |.For t iter body gC _=>PF (cb J) J t iter body gC fs
 |.Assign ts e _=>br (z7 ts) fun t=>Vs (cb J) J t e fs
 |.Expr e _=>Of C (cb J) J e fs
 |.Raise e d _=>UN Rh.isSome J e d fs
 |.Try body hs gC cJ _=>Su (cb J) Rh J body hs gC cJ fs
 |_=>none
end
noncomputable def aJ:Bool->ct->ct->Nat->Scope->bk
 |_,_,_,0,_=>⟨fun _ _=>none,fun _ _=>none,fun _ _=>none⟩
 |b,C,CQ,n+1,J=>⟨iT C (aJ b C CQ n) J,r7 (aJ b C CQ n) J,pl C (aJ b C CQ n) (if b then some (aJ false CQ CQ n) else none) J⟩
noncomputable def params (ao:Stmt):List Str:=(s0 ao).args.map (·.arg)
noncomputable def jH:List Str->List H->Option (List (Str×cg))
 |[],vs=>if vs.isEmpty=true then some [] else none
 |x::r,vs=>match vs with
  |[]=>none
  |v::t=>br (jH r t) fun l=>some ((x,.U v)::l)
noncomputable def Ut (ai:bE) (fs:X):Option (bE×List H):=match ai with
 |.ret r=>some (.ret r,fs.per)
 |.next=>some (.ret (.U .none),fs.per)
 |.dB=>some (.dB,fs.per)
 |.brk=>none
noncomputable def lu:Nat:=40
noncomputable def jj (b:Bool) (C CQ:ct) (ao:Stmt) (args per:List H):Option (bE×List H):=
 br (jH (params ao) args) fun loc=>ob (cR (aJ b C CQ lu (bN ao)) (g3 ao) ⟨loc,per⟩) Ut
noncomputable def aH (b:Bool):Nat->ct
 |0=>fun _ _ _=>none
 |k+1=>fun f args per=>br (ds f) fun ao=>jj b (aH b k) (aH false k) ao args per
end Mine
end
section
open PySem PySem.W PySem.Calls PyProof.Rows
namespace Mine
noncomputable def ix:al->Value->Bool
 |.int i,v=>Value.isInt i v
 |.str s,v=>Value.isStrOf s v
noncomputable def keyHash (w:World):al->Int
 |.int i=>hashInt i
 |.str s=>hashStr w s
theorem jg {i:Int} {v:Value} (h:ix (.int i) v=true):∃t,v=.int i t:=Value.isInt_shape h
theorem jE {x:Str} {v:Value} (h:ix (.str x) v=true):∃t,v=.str x t:=Value.isStrOf_shape h
theorem S3 (i:Int) (t:Tok):ix (.int i) (.int i t)=true:=by simp [ix,Value.isInt]
theorem Fl (x:Str) (t:Tok):ix (.str x) (.str x t)=true:=by simp [ix,Value.isStrOf]
section
variable{prog:Program} {w:World} {A:Around} {E:Value->Shared->Prop} {s:Shared}
theorem JI {a:Int} {b:Str} {t u:Tok} {Q:Bool->Shared->Prop} (h:Q false s):wpAny (model prog w) A (eqBool (.int a t) (.str b u)) Q E s:=by
 unfold eqBool
 refine wpAny_holding ?_
 refine B (if_neg (show¬((Value.int a t==Value.str b u)=true) from by simp)) ?_
 exact wpAny_bind (EqMixed.eq_int_str (wpAny_truthy_bool h))
theorem RD {a:Str} {b:Int} {t u:Tok} {Q:Bool->Shared->Prop} (h:Q false s):wpAny (model prog w) A (eqBool (.str a t) (.int b u)) Q E s:=by
 unfold eqBool
 refine wpAny_holding ?_
 refine B (if_neg (show¬((Value.str a t==Value.int b u)=true) from by simp)) ?_
 exact wpAny_bind (EqMixed.eq_str_int (wpAny_truthy_bool h))
end
noncomputable def Sf (prog:Program) (w:World):KeyKind prog w al where
 is:=ix
 hash:=keyHash w
 inj:=fun v a b bz ah=>by
  cases a with
  |int i=>
   refine bT (jg bz) ?_;intro t u;subst u
   cases b with
   |int j=>obtain⟨u,b2⟩:=jg ah;injection b2 with h;(refine B h ?_;rfl)
   |str y=>obtain⟨u,b2⟩:=jE ah;cases b2
  |str x=>
   refine bT (jE bz) ?_;intro t u;subst u
   cases b with
   |int j=>obtain⟨u,b2⟩:=jg ah;cases b2
   |str y=>obtain⟨u,b2⟩:=jE ah;injection b2 with h;(refine B h ?_;rfl)
 byValue:=fun k v h=>by
  cases k with
  |int i=>obtain⟨t,rfl⟩:=jg h;rfl
  |str x=>obtain⟨t,rfl⟩:=jE h;rfl
 pyHash:=fun{A E s k v Q} ay h=>by
  cases k with
  |int i=>obtain⟨t,rfl⟩:=jg ay;exact wpAny_pyHash_int h
  |str x=>obtain⟨t,rfl⟩:=jE ay;exact wpAny_pyHash_str h
 eqBool:=fun{A E s a b u v Q} b2 ay h=>by
  cases a with
  |int i=>
   refine bT (jg b2) ?_;intro t u;subst u
   cases b with
   |int j=>obtain⟨dW,rfl⟩:=jg ay;exact wpAny_eqBool_int (by refine B (show(i==j)=decide (al.int i=al.int j) from by(by_cases zB:i=j<;>simp [zB])) ?_;exact h)
   |str y=>obtain⟨dW,rfl⟩:=jE ay;refine JI ?_;simpa using h
  |str x=>
   refine bT (jE b2) ?_;intro t u;subst u
   cases b with
   |int j=>obtain⟨dW,rfl⟩:=jg ay;refine RD ?_;simpa using h
   |str y=>obtain⟨dW,rfl⟩:=jE ay;exact wpAny_eqBool_str (by refine B (show decide (x=y)=decide (al.str x=al.str y) from by(by_cases zB:x=y<;>simp [zB])) ?_;exact h)
 «strs»:=fun k x t v h=>by
  cases k with
  |int i=>obtain⟨u,b2⟩:=jg h;cases b2
  |str y=>
   refine bT (jE h) ?_;intro u b2
   injection b2 with ae
   subst ae
   cases v<;>rfl
inductive cV where
 |free|aU|be (ob:Obj)|per (k:Nat)|aD (x:Str)|frame|cell|stack
noncomputable abbrev a5:=Addr->cV
noncomputable def cV.lf:cV->Nat
 |.free=>0
 |.aU=>1
 |.be _=>2
 |.per _=>3
 |.aD _=>4
 |.frame=>5
 |.cell=>6
 |.stack=>7
theorem bI {x r r':cV} (e:x=r) (h:(r.lf==r'.lf)=false:=by rfl):x≠r':=fun q=>by
 (replace h:=(Eq.symm e)▸h;replace h:=q▸h;rw [beq_self_eq_true] at h);exact Bool.noConfusion h
theorem d6 {ρ:a5} {a b:Addr} {r r':cV} (e:ρ b=r) (hd:ρ a=r') (h:(r.lf==r'.lf)=false:=by rfl):b≠a:=fun q=>by
 (replace e:=q▸e;replace e:=hd▸e);(replace h:=e▸h;rw [beq_self_eq_true] at h);exact Bool.noConfusion h
noncomputable abbrev kk (w:World):KeyKind aw w al:=Sf aw w
noncomputable abbrev mq (vs:List Value) (n:Nat):Obj:={cls:=.type "list",dict:=none,data:=.seq (Array.mk vs) n,slots:= #[]}
noncomputable abbrev qk (vs:List Value) (n:Nat):Obj:={cls:=.type "tuple",dict:=none,data:=.seq (Array.mk vs) n,slots:= #[]}
noncomputable abbrev cp:=Str->Option Addr
section
variable(w:World) (CM:cp) (ρ:a5)
mutual
noncomputable def bY:H->Value->Prop
 |.none,v=>v=.none
 |.bool b,v=>v=.bool b
 |.int i,v=>∃t,v=.int i t
 |.str x,v=>∃t,v=.str x t
 |.aF l,v=>∃a vs n,v=.ref a/\ρ a=.be (qk vs n)/\a8 l vs
 |.am l,v=>∃a vs n,v=.ref a/\ρ a=.be (mq vs n)/\a8 l vs
 |.V l,v=>∃a ob es cs aS,v=.ref a/\(a==sysModules)=false/\ρ a=.be ob/\ob.ExactDict/\ob.data=.dict es cs/\KeysOf (kk w) es/\Pairs (kk w) es.toList aS/\(aS.map (·.1)).Nodup/\dU l aS
 |.dV c fs,v=>∃a d gZ C,v=.ref a/\CM c=some C/\ρ a=.be (instObj C d)/\ρ d=.be gZ/\(∀n,iu n fs=none->lookIn n gZ=some none)/\kq fs (fun n=>(lookIn n gZ).join)
 |.per k,v=>∃a,v=.ref a/\ρ a=.per k
noncomputable def a8:List H->List Value->Prop
 |[],vs=>vs=[]
 |x::r,vs=>∃v t,vs=v::t/\bY x v/\a8 r t
noncomputable def dU:List (al×H)->List (al×Value)->Prop
 |[],aS=>aS=[]
 |(k,x)::r,aS=>∃v t,aS=(k,v)::t/\bY x v/\dU r t
noncomputable def kq:List (Str×H)->(Str->Option Value)->Prop
 |[],_=>True
 |(n,x)::r,m=>(∃v,m n=some v/\bY x v)/\kq r m
end
end
mutual
theorem bY.bu {w:World} {CM:cp} {ρ ρ':a5} (aB:∀a ob,ρ a=.be ob->ρ' a=.be ob) (an:∀a k,ρ a=.per k->ρ' a=.per k):∀{x:H} {v:Value},bY w CM ρ x v->bY w CM ρ' x v
 |.none,_,h=>h
 |.bool _,_,h=>h
 |.int _,_,h=>h
 |.str _,_,h=>h
 |.aF _,_,⟨a,vs,n,M,O,Y⟩=>⟨a,vs,n,M,aB _ _ O,a8.bu aB an Y⟩
 |.am _,_,⟨a,vs,n,M,O,Y⟩=>⟨a,vs,n,M,aB _ _ O,a8.bu aB an Y⟩
 |.V _,_,⟨a,ob,es,cs,aS,M,aL,O,Y,aC,bR,dL,f2,oc⟩=>⟨a,ob,es,cs,aS,M,aL,aB _ _ O,Y,aC,bR,dL,f2,dU.bu aB an oc⟩
 |.dV _ _,_,⟨a,d,gZ,C,M,O,Y,aC,bR,dL⟩=>⟨a,d,gZ,C,M,O,aB _ _ Y,aB _ _ aC,bR,kq.bu aB an dL⟩
 |.per _,_,⟨a,M,O⟩=>⟨a,M,an _ _ O⟩
theorem a8.bu {w:World} {CM:cp} {ρ ρ':a5} (aB:∀a ob,ρ a=.be ob->ρ' a=.be ob) (an:∀a k,ρ a=.per k->ρ' a=.per k):∀{l:List H} {vs:List Value},a8 w CM ρ l vs->a8 w CM ρ' l vs
 |[],_,h=>h
 |_::_,_,⟨v,t,M,O,Y⟩=>⟨v,t,M,bY.bu aB an O,a8.bu aB an Y⟩
theorem dU.bu {w:World} {CM:cp} {ρ ρ':a5} (aB:∀a ob,ρ a=.be ob->ρ' a=.be ob) (an:∀a k,ρ a=.per k->ρ' a=.per k):∀{l:List (al×H)} {vs:List (al×Value)},dU w CM ρ l vs->dU w CM ρ' l vs
 |[],_,h=>h
 |(_,_)::_,_,⟨v,t,M,O,Y⟩=>⟨v,t,M,bY.bu aB an O,dU.bu aB an Y⟩
theorem kq.bu {w:World} {CM:cp} {ρ ρ':a5} (aB:∀a ob,ρ a=.be ob->ρ' a=.be ob) (an:∀a k,ρ a=.per k->ρ' a=.per k):∀{l:List (Str×H)} {m:Str->Option Value},kq w CM ρ l m->kq w CM ρ' l m
 |[],_,_=>trivial
 |(_,_)::_,_,⟨⟨v,M,O⟩,Y⟩=>⟨⟨v,M,bY.bu aB an O⟩,kq.bu aB an Y⟩
end
end Mine
end
section
open PySem PySem.W PySem.Calls PyProof.Rows
namespace Mine
section
variable(w:World) (CM:cp)
noncomputable def dR (ρ:a5) (h:Heap) (a:Addr):H->Prop
 |.am l=>∃vs n,h.get? a=some (mq vs n)/\a8 w CM ρ l vs
 |.V l=>∃ob es cs aS,(a==sysModules)=false/\h.get? a=some ob/\ob.ExactDict/\ob.data=.dict es cs/\KeysOf (kk w) es/\Pairs (kk w) es.toList aS/\(aS.map (·.1)).Nodup/\dU w CM ρ l aS
 |_=>False
structure Top where
 f:Frag
 eH:Option (Addr×Obj)
 frames:List Addr
noncomputable def e3:cV->Prop
 |.frame=>True
 |.stack=>True
 |_=>False
noncomputable def AO (o:Obj):Prop:=∀vs,o.data≠.fields vs
structure cM (K:Top) (ρ:a5) (s:Shared) (per:List H):Prop where
 fV:∀a x,K.f.lookup a=some x->ρ a=.be x
 fC:∀a x,K.eH=some (a,x)->ρ a=.be x
 fl:∀a,a∈K.frames->e3 (ρ a)/\∃o,s.heap.get? a=some o/\AO o
 bL:∀a ob,ρ a=.be ob->s.heap.get? a=some ob
 c0:∀a,ρ a=.free↔s.heap.get? a=none
 gh:∀k,k<per.length->∃a,ρ a=.per k
 fT:∀a k,ρ a=.per k->∃x,per[k]? =some x/\dR w CM ρ s.heap a x
 inj:∀a b k,ρ a=.per k->ρ b=.per k->a=b
noncomputable def ii (ρ:a5):Prop:=∀a,(∀x,ρ a≠.aD x)/\ρ a≠.frame/\ρ a≠.cell
noncomputable def to (ρ:a5) (x:Str):cg->Value->Prop
 |.U v,val=>bY w CM ρ v val
 |.aD _,val=>∃a,val=.ref a/\ρ a=.aD x
noncomputable def e1 (env:Env) (J:Scope) (h:Heap) (x:Str) (v:Value):Prop:=
 (J.names.lookup x=some .local/\env.kindOf x=some .local/\∃m,h.Ns env.locals m/\m x=some v)\/
 ((J.names.lookup x=some .cell\/J.names.lookup x=some .free)/\env.kindOf x=some .cell/\∃c,env.cells.lookup x=some c/\h.IsCell c (some v))
structure oD (env:Env) (J:Scope):Prop where
 kind:env.scope.kind=.function
 u9:env.globals=mainGlobals
 lg:env.builtins=builtinsNs
 loc:∀x,J.names.lookup x=some .local->env.kindOf x=some .local
 ff:∀x,J.names.lookup x=some .cell->env.kindOf x=some .cell
 c0:∀x,J.names.lookup x=some .free->env.kindOf x=some .cell
 imp:∀x,J.names.lookup x=some .globalImplicit->env.kindOf x=some .globalImplicit
structure aK (K:Top) (env:Env) (J:Scope) (ρ:a5) (s:Shared) (fs:X):Prop where
 base:cM w CM K ρ s fs.per
 c2:oD env J
 cL:ρ env.locals=.frame
 fv:∃m,s.heap.Ns env.locals m
 eZ:∀x bh,getL x fs.loc=some bh->∃v,e1 env J s.heap x v/\to w CM ρ x bh v
 cells:∀x,J.names.lookup x=some .cell->∃c v,env.cells.lookup x=some c/\ρ c=.cell/\c≠env.locals/\s.heap.IsCell c v
 frees:∀x c,J.names.lookup x=some .free->env.cells.lookup x=some c->ρ c=.aU
 apart:∀x y c,env.cells.lookup x=some c->env.cells.lookup y=some c->x=y
 eX:∀a x,ρ a=.aD x->J.names.lookup x=some .local/\∃c,getL x fs.loc=some (.aD c)/\dR w CM ρ s.heap a c
 fq:∀a b x,ρ a=.aD x->ρ b=.aD x->a=b
end
structure a2 (ρ:a5) (s:Shared) (ρ':a5) (az:Shared):Prop where
 bL:∀a ob,ρ a=.be ob->ρ' a=.be ob
 aU:∀a,ρ a=.aU->ρ' a=.aU
 per:∀a k,ρ a=.per k->ρ' a=.per k
 cL:∀a,ρ a=.frame->ρ' a=.frame
 ff:∀a,ρ a=.cell->ρ' a=.cell
 stk:∀a,ρ a=.stack->ρ' a=.stack
 aD:∀a x,ρ a=.aD x->ρ' a=.aD x\/ρ' a=.aU\/∃ob,ρ' a=.be ob
 keep:∀a ob,ρ a=.aU->s.heap.get? a=some ob->az.heap.get? a=some ob
 ig:∀a ob,ρ a=.stack->s.heap.get? a=some ob->∃f6,az.heap.get? a=some {ob with slots:=f6}
 ao:∃h tk,az={s with heap:=h,toks:=tk}
structure ce (ρ:a5) (loc:List (Str×cg)) (ρ':a5) (DK:List (Str×cg)):Prop where
 U:∀x v,getL x loc=some (.U v)->getL x DK=some (.U v)
 aD:∀a x,ρ a=.aD x->ρ' a=.aD x\/∃v,getL x DK=some (.U v)
 gu:∀a x,ρ' a=.aD x->ρ a=.aD x
theorem a2.refl (ρ:a5) (s:Shared):a2 ρ s ρ s:=
 ⟨fun _ _ h=>h,fun _ h=>h,fun _ _ h=>h,fun _ h=>h,fun _ h=>h,fun _ h=>h,fun _ _ h=>.inl h,fun _ _ _ h=>h,fun _ _ _ h=>⟨_,h⟩,⟨_,_,rfl⟩⟩
theorem a2.trans {ρ aN b9:a5} {s aj cu:Shared} (x:a2 ρ s aN aj) (y:a2 aN aj b9 cu):a2 ρ s b9 cu where
 bL:=fun a ob h=>y.bL a ob (x.bL a ob h)
 aU:=fun a h=>y.aU a (x.aU a h)
 per:=fun a k h=>y.per a k (x.per a k h)
 cL:=fun a h=>y.cL a (x.cL a h)
 ff:=fun a h=>y.ff a (x.ff a h)
 stk:=fun a h=>y.stk a (x.stk a h)
 aD:=fun a n h=>by
  rcases x.aD a n h with h|h|⟨ob,h⟩
  ·exact y.aD a n h
  ·exact .inr (.inl (y.aU a h))
  ·exact .inr (.inr ⟨ob,y.bL a ob h⟩)
 keep:=fun a ob h e=>y.keep a ob (x.aU a h) (x.keep a ob h e)
 ig:=fun a ob h e=>let⟨_,Ls⟩:=x.ig a ob h e;let⟨f6,MT⟩:=y.ig a _ (x.stk a h) Ls;⟨f6,MT⟩
 ao:=by
  refine jd x.ao ?_;intro h tk u;subst u
  refine jd y.ao ?_;intro h' mj u;subst u
  exact⟨h',mj,rfl⟩
theorem ce.refl (ρ:a5) (l:List (Str×cg)):ce ρ l ρ l:=⟨fun _ _ h=>h,fun _ _ h=>.inl h,fun _ _ h=>h⟩
theorem ce.trans {ρ aN b9:a5} {l l₁ l₂:List (Str×cg)} (x:ce ρ l aN l₁) (y:ce aN l₁ b9 l₂):ce ρ l b9 l₂ where
 U:=fun n v h=>y.U n v (x.U n v h)
 aD:=fun a n h=>by
  rcases x.aD a n h with h|⟨v,h⟩
  ·exact y.aD a n h
  ·exact .inr ⟨v,y.U n v h⟩
 gu:=fun a n h=>x.gu a n (y.gu a n h)
section
variable{w:World} {CM:cp} {K:Top} {env:Env} {J:Scope} {ρ ρ₀ ρ':a5} {s db az:Shared} {fs:X} {h h':Heap}
theorem dR.bu {a:Addr} {x:H} (aB:∀a ob,ρ a=.be ob->ρ' a=.be ob) (an:∀a k,ρ a=.per k->ρ' a=.per k) (ag:∀ob,h.get? a=some ob->h'.get? a=some ob) (q:dR w CM ρ h a x):dR w CM ρ' h' a x:=by
 cases x with
 |am l=>obtain⟨vs,n,M,O⟩:=q;exact⟨vs,n,ag _ M,O.bu aB an⟩
 |V l=>obtain⟨ob,es,cs,aS,aL,M,O,Y,aC,bR,dL,f2⟩:=q;exact⟨ob,es,cs,aS,aL,ag _ M,O,Y,aC,bR,dL,f2.bu aB an⟩
 |_=>exact q.elim
theorem dR.eW {a:Addr} {x:H} (q:dR w CM ρ h a x):∃ob,h.get? a=some ob:=by
 cases x with
 |am l=>obtain⟨vs,n,M,_⟩:=q;exact⟨_,M⟩
 |V l=>obtain⟨ob,es,cs,aS,aL,M,_⟩:=q;exact⟨ob,M⟩
 |_=>exact q.elim
theorem dR.gf {a:Addr} {x:H} {ob:Obj} (q:dR w CM ρ h a x) (e:h.get? a=some ob) (aB:∀a ob,ρ a=.be ob->ρ' a=.be ob) (an:∀a k,ρ a=.per k->ρ' a=.per k) (bz:ρ' a=.be ob):bY w CM ρ' x (.ref a):=by
 cases x with
 |am l=>obtain⟨vs,n,M,O⟩:=q;replace e:=M▸e;cases e;exact⟨a,vs,n,rfl,bz,O.bu aB an⟩
 |V l=>obtain⟨hF,es,cs,aS,aL,M,O,Y,aC,bR,dL,f2⟩:=q;replace e:=M▸e;cases e;exact⟨a,ob,es,cs,aS,rfl,aL,bz,O,Y,aC,bR,dL,f2.bu aB an⟩
 |_=>exact q.elim
theorem e1.bu {x:Str} {v:Value} (q:e1 env J h x v) (ag:∀a ob,h.get? a=some ob->h'.get? a=some ob):e1 env J h' x v:=by
 rcases q with⟨M,O,m,Y,aC⟩|⟨M,O,c,Y,aC⟩
 ·exact .inl ⟨M,O,m,Y.keeps ag,aC⟩
 ·exact .inr ⟨M,O,c,Y,aC.keeps ag⟩
theorem to.bu {x:Str} {bh:cg} {v:Value} (q:to w CM ρ x bh v) (aB:∀a ob,ρ a=.be ob->ρ' a=.be ob) (an:∀a k,ρ a=.per k->ρ' a=.per k) (bx:∀a x,ρ a=.aD x->ρ' a=.aD x):to w CM ρ' x bh v:=by
 cases bh with
 |U y=>exact bY.bu aB an q
 |aD y=>obtain⟨a,M,O⟩:=q;exact⟨a,M,bx _ _ O⟩
open Classical in
noncomputable def bQ (ρ:a5) (h':Heap):a5:=fun a=>if ρ a=.free/\h'.get? a≠none then .aU else ρ a
theorem lZ {a:Addr} (aE:ρ a≠.free):bQ ρ h' a=ρ a:=if_neg fun q=>aE q.1
theorem gF {a:Addr} {o:Obj} (aL:ρ a=.free) (h:h'.get? a=some o):bQ ρ h' a=.aU:=if_pos ⟨aL,fun q=>hM (h.symm.trans q)⟩
theorem mO {a:Addr} {r:cV} (M:(r.lf==0)=false:=by rfl) (O:(r.lf==1)=false:=by rfl):bQ ρ h' a=r↔ρ a=r:=by
 unfold bQ
 by_cases q:ρ a=.free/\h'.get? a≠none
 ·refine B (if_pos q) ?_
  exact⟨fun e=>ln (O.symm.trans (by refine bt e ?_;rfl)),fun e=>ln (M.symm.trans (by(refine bt e ?_;refine B q.1 ?_);rfl))⟩
 ·(refine B (if_neg q) ?_;rfl)
theorem hU {a:Addr} {ob:Obj}:bQ ρ h' a=.be ob↔ρ a=.be ob:=mO
theorem gV {a:Addr} {k:Nat}:bQ ρ h' a=.per k↔ρ a=.per k:=mO
theorem gb {a:Addr} {x:Str}:bQ ρ h' a=.aD x↔ρ a=.aD x:=mO
theorem o8 {a:Addr}:bQ ρ h' a=.cell↔ρ a=.cell:=mO
theorem GR {a:Addr}:bQ ρ h' a=.stack↔ρ a=.stack:=mO
theorem ou {a:Addr}:bQ ρ h' a=.frame↔ρ a=.frame:=mO
theorem DB {a:Addr} (h:e3 (ρ a)):e3 (bQ ρ h' a):=by
 refine B (lZ (fun q=>by rw [q] at h;exact h)) ?_;exact h
theorem mG {a:Addr} (h:ρ a=.aU):bQ ρ h' a=.aU:=(lZ (fun q=>cV.noConfusion (h.symm.trans q))).trans h
theorem Ep {a:Addr} {h:Heap} (aB:ρ a=.free↔h.get? a=none) (ag:h'.get? a=none->h.get? a=none):bQ ρ h' a=.free↔h'.get? a=none:=by
 unfold bQ
 by_cases q:ρ a=.free/\h'.get? a≠none
 ·refine B (if_pos q) ?_;exact⟨fun e=>cV.noConfusion e,fun e=>absurd e q.2⟩
 ·refine B (if_neg q) ?_;exact⟨fun e=>Classical.byContradiction fun n=>q ⟨e,n⟩,fun e=>aB.mpr (ag e)⟩
theorem xb {a:Addr} {h:Heap} (aB:ρ a=.free↔h.get? a=none) (ag:∀ob,h.get? a=some ob->h'.get? a=some ob):bQ ρ h' a=.free↔h'.get? a=none:=Ep aB fun e=>by
 cases bx:h.get? a with
 |none=>rfl
 |some ob=>exact hM ((ag _ bx).symm.trans e)
theorem cM.dF {per:List H} {h':Heap} {tk:Nat} (ap:cM w CM K ρ s per) (ag:∀a ob,s.heap.get? a=some ob->h'.get? a=some ob):cM w CM K (bQ ρ h') {s with heap:=h',toks:=tk} per where
 fV:=fun a x e=>hU.mpr (ap.fV a x e)
 fC:=fun a x e=>hU.mpr (ap.fC a x e)
 fl:=fun a e=>let⟨M,o,O,Y⟩:=ap.fl a e;⟨DB M,o,ag _ _ O,Y⟩
 bL:=fun a ob e=>ag _ _ (ap.bL a ob (hU.mp e))
 c0:=fun a=>xb (ap.c0 a) (ag a)
 gh:=fun k cz=>let⟨a,e⟩:=ap.gh k cz;⟨a,gV.mpr e⟩
 fT:=fun a k e=>let⟨x,M,O⟩:=ap.fT a k (gV.mp e);⟨x,M,O.bu (fun _ _ q=>hU.mpr q) (fun _ _ q=>gV.mpr q) (fun ob=>ag a ob)⟩
 inj:=fun a b k ak ar=>ap.inj a b k (gV.mp ak) (gV.mp ar)
theorem aK.dF {h':Heap} {tk:Nat} (I:aK w CM K env J ρ s fs) (ag:∀a ob,s.heap.get? a=some ob->h'.get? a=some ob):aK w CM K env J (bQ ρ h') {s with heap:=h',toks:=tk} fs where
 base:=I.base.dF ag
 c2:=I.c2
 cL:=ou.mpr I.cL
 fv:=let⟨m,e⟩:=I.fv;⟨m,e.keeps ag⟩
 eZ:=fun x bh e=>let⟨v,M,O⟩:=I.eZ x bh e;⟨v,M.bu ag,O.bu (fun _ _ q=>hU.mpr q) (fun _ _ q=>gV.mpr q) (fun _ _ q=>gb.mpr q)⟩
 cells:=fun x e=>let⟨c,v,M,O,Y,aC⟩:=I.cells x e;⟨c,v,M,o8.mpr O,Y,aC.keeps ag⟩
 frees:=fun x c ak ar=>mG (I.frees x c ak ar)
 apart:=I.apart
 eX:=fun a x e=>let⟨aL,c,M,O⟩:=I.eX a x (gb.mp e);⟨aL,c,M,O.bu (fun _ _ q=>hU.mpr q) (fun _ _ q=>gV.mpr q) (fun ob=>ag a ob)⟩
 fq:=fun a b x ak ar=>I.fq a b x (gb.mp ak) (gb.mp ar)
theorem a2.dF {h':Heap} {tk:Nat} (ag:∀a ob,s.heap.get? a=some ob->h'.get? a=some ob):a2 ρ s (bQ ρ h') {s with heap:=h',toks:=tk} where
 bL:=fun a ob e=>hU.mpr e
 aU:=fun a e=>mG e
 per:=fun a k e=>gV.mpr e
 cL:=fun a e=>ou.mpr e
 ff:=fun a e=>o8.mpr e
 stk:=fun a e=>GR.mpr e
 aD:=fun a x e=>.inl (gb.mpr e)
 keep:=fun a ob _ e=>ag _ _ e
 ig:=fun a ob _ e=>⟨_,ag _ _ e⟩
 ao:=⟨_,_,rfl⟩
theorem ce.dF {h':Heap} {l:List (Str×cg)}:ce ρ l (bQ ρ h') l:=⟨fun _ _ e=>e,fun _ _ e=>.inl (gb.mpr e),fun _ _ e=>gb.mp e⟩
noncomputable def cx (ρ:a5) (a:Addr) (r:cV):a5:=fun b=>if b=a then r else ρ b
theorem dK {a:Addr} {r:cV}:cx ρ a r a=r:=if_pos rfl
theorem bp {a b:Addr} {r:cV} (aE:b≠a):cx ρ a r b=ρ b:=if_neg aE
noncomputable def eN (w:World) (CM:cp) (ρ₀ ρ:a5) (s:Shared) (fs:X):aV->Value->Prop
 |.U x,v=>bY w CM ρ x v
 |.b5 x,v=>∃a,v=.ref a/\ρ₀ a=.free/\ρ a=.aU/\dR w CM ρ s.heap a x
 |.var x,v=>∃a,v=.ref a/\(ρ a=.aD x\/∃y,getL x fs.loc=some (.U y))
theorem eN.bu {aN:a5} {aj:Shared} {fs₁:X} {r:aV} {v:Value} (q:eN w CM ρ₀ ρ s fs r v) (x:a2 ρ s aN aj) (y:ce ρ fs.loc aN fs₁.loc):eN w CM ρ₀ aN aj fs₁ r v:=by
 cases r with
 |U z=>exact bY.bu x.bL x.per q
 |b5 z=>obtain⟨a,M,O,Y,aC⟩:=q;exact⟨a,M,O,x.aU a Y,aC.bu x.bL x.per (fun ob=>x.keep a ob Y)⟩
 |var n=>
  refine ba q ?_;clear q;intro a M O
  refine⟨a,M,?_⟩
  rcases O with O|⟨g6,O⟩
  ·rcases y.aD a n O with Y|⟨e4,Y⟩
   ·exact .inl Y
   ·exact .inr ⟨e4,Y⟩
  ·exact .inr ⟨g6,y.U n g6 O⟩
theorem eN.g9 {aN:a5} {r:aV} {v:Value} (q:eN w CM aN ρ s fs r v) (ah:∀a,aN a=.free->ρ₀ a=.free):eN w CM ρ₀ ρ s fs r v:=by
 cases r with
 |U z=>exact q
 |b5 z=>obtain⟨a,M,O,Y⟩:=q;exact⟨a,M,ah a O,Y⟩
 |var n=>exact q
theorem a2.h3 (x:a2 ρ s ρ' az):∀a,ρ' a=.free->ρ a=.free:=fun a h=>by
 cases e:ρ a with
 |free=>rfl
 |aU=>replace h:=(x.aU a e)▸h;cases h
 |be ob=>replace h:=(x.bL a ob e)▸h;cases h
 |per k=>replace h:=(x.per a k e)▸h;cases h
 |frame=>replace h:=(x.cL a e)▸h;cases h
 |cell=>replace h:=(x.ff a e)▸h;cases h
 |stack=>replace h:=(x.stk a e)▸h;cases h
 |aD n=>rcases x.aD a n e with q|q|⟨ob,q⟩<;>replace h:=q▸h<;>cases h
inductive cv (w:World) (CM:cp) (ρ:a5) (s:Shared) (x:H) (v:Value):Prop where
 |gf (h:bY w CM ρ x v)
 |at(a:Addr) (ay:v=.ref a) (h:dR w CM ρ s.heap a x)
end
end Mine
end
section
open PySem PySem.W PySem.Calls PyProof.Rows
namespace Mine
theorem j9 {x:Str} {v:cg}:∀{l:List (Str×cg)},getL x (bX x v l)=some v
 |[]=>by simp [bX,getL]
 |(y,u)::r=>by
  unfold bX
  split
  ·rename_i h;simp [getL,h]
  ·rename_i h;simp only [getL,if_neg h];exact j9
theorem ip {x y:Str} {v:cg} (aE:y≠x):∀{l:List (Str×cg)},getL y (bX x v l)=getL y l
 |[]=>by simp [bX,getL,aE]
 |(z,u)::r=>by
  unfold bX
  split
  ·rename_i h;subst h;simp [getL,aE]
  ·rename_i h
   simp only [getL]
   split
   ·rfl
   ·exact ip aE
theorem qW {x:Str}:∀{l:List (Str×cg)},getL x (jI x l)=none
 |[]=>rfl
 |(y,u)::r=>by
  unfold jI
  split
  ·exact qW
  ·rename_i h;simp only [getL,if_neg h];exact qW
theorem qY {x y:Str} (aE:y≠x):∀{l:List (Str×cg)},getL y (jI x l)=getL y l
 |[]=>rfl
 |(z,u)::r=>by
  unfold jI
  split
  ·rename_i h;subst h;simp only [getL,if_neg aE];exact qY aE
  ·rename_i h
   simp only [getL]
   split
   ·rfl
   ·exact qY aE
section
variable{w:World} {CM:cp} {K:Top} {env:Env} {J:Scope} {ρ ρ₀ ρ':a5} {s db az:Shared} {fs fs':X} {h h':Heap}
theorem a8.length:∀{l:List H} {vs:List Value},a8 w CM ρ l vs->vs.length=l.length
 |[],_,h=>by refine B (show _=_ from h) ?_;rfl
 |_::_,_,⟨v,t,M,_,Y⟩=>by(refine B M ?_;refine B List.length_cons ?_;refine B List.length_cons ?_;refine B (a8.length Y) ?_;rfl)
theorem a8.gk:∀{l:List H} {vs:List Value} {i:Nat} {x:H},a8 w CM ρ l vs->l[i]? =some x->∃v,vs[i]? =some v/\bY w CM ρ x v
 |[],_,_,_,_,e=>by simp at e
 |y::r,_,0,x,⟨v,t,M,O,Y⟩,e=>by simp at e;subst e;exact⟨v,by refine B M ?_;rfl,O⟩
 |y::r,_,i+1,x,⟨v,t,M,O,Y⟩,e=>by
  simp at e
  refine ba (a8.gk Y e) ?_;intro u aC bR
  exact⟨u,by refine B M ?_;simpa using aC,bR⟩
theorem a8.nil:a8 w CM ρ [] []:=rfl
theorem a8.cons {x:H} {v:Value} {l:List H} {vs:List Value} (M:bY w CM ρ x v) (O:a8 w CM ρ l vs):a8 w CM ρ (x::l) (v::vs):=⟨v,vs,rfl,M,O⟩
theorem a8.append:∀{l k:List H} {vs c3:List Value},a8 w CM ρ l vs->a8 w CM ρ k c3->a8 w CM ρ (l++k) (vs++c3)
 |[],_,_,_,M,O=>by refine B (show _=_ from M) ?_;exact O
 |_::_,_,_,_,⟨v,t,M,O,Y⟩,aC=>by refine B M ?_;exact⟨v,t++_,rfl,O,a8.append Y aC⟩
theorem a8.take:∀{l:List H} {vs:List Value} (n:Nat),a8 w CM ρ l vs->a8 w CM ρ (l.take n) (vs.take n)
 |[],_,n,h=>by refine B (show _=_ from h) ?_;simp [a8]
 |_::_,_,0,_=>by simp [a8]
 |_::_,_,n+1,⟨v,t,M,O,Y⟩=>by refine B M ?_;exact⟨v,t.take n,rfl,O,a8.take n Y⟩
theorem a8.drop:∀{l:List H} {vs:List Value} (n:Nat),a8 w CM ρ l vs->a8 w CM ρ (l.drop n) (vs.drop n)
 |[],_,n,h=>by refine B (show _=_ from h) ?_;simp [a8]
 |_::_,_,0,h=>by simpa using h
 |_::_,_,n+1,⟨v,t,M,O,Y⟩=>by refine B M ?_;simpa using a8.drop n Y
theorem a8.set:∀{l:List H} {vs:List Value} {x:H} {v:Value} (i:Nat),a8 w CM ρ l vs->bY w CM ρ x v->a8 w CM ρ (l.set i x) (vs.set i v)
 |[],_,_,_,i,h,_=>by refine B (show _=_ from h) ?_;simp [a8]
 |_::_,_,_,_,0,⟨v,t,M,O,Y⟩,aC=>by refine B M ?_;exact⟨_,t,rfl,aC,Y⟩
 |_::_,_,_,_,i+1,⟨v,t,M,O,Y⟩,aC=>by refine B M ?_;exact⟨v,t.set i _,rfl,O,a8.set i Y aC⟩
theorem dU.length:∀{l:List (al×H)} {aS:List (al×Value)},dU w CM ρ l aS->aS.length=l.length
 |[],_,h=>by refine B (show _=_ from h) ?_;rfl
 |(_,_)::_,_,⟨v,t,M,_,Y⟩=>by(refine B M ?_;refine B List.length_cons ?_;refine B List.length_cons ?_;refine B (dU.length Y) ?_;rfl)
theorem dU.xX:∀{l:List (al×H)} {aS:List (al×Value)},dU w CM ρ l aS->aS.map (·.1)=l.map (·.1)
 |[],_,h=>by refine B (show _=_ from h) ?_;rfl
 |(_,_)::_,_,⟨v,t,M,_,Y⟩=>by(refine B M ?_;refine B List.map_cons ?_;refine B List.map_cons ?_;refine B (dU.xX Y) ?_;rfl)
theorem KL {K:Type} [DecidableEq K] {k cX:K} {v:Value} {t:List (K×Value)}:valueAt ((cX,v)::t) k=if k=cX then some v else valueAt t k:=by
 unfold valueAt
 refine B List.find?_cons ?_
 by_cases h:cX=k
 ·subst h;simp
 ·have h':¬k=cX:=fun e=>h e.symm
  simp [h,h']
theorem dU.gk:∀{l:List (al×H)} {aS:List (al×Value)} {k:al},dU w CM ρ l aS->match bb k l with
  |some x=>∃v,valueAt aS k=some v/\bY w CM ρ x v
  |none=>valueAt aS k=none
 |[],_,k,h=>by refine B (show _=_ from h) ?_;rfl
 |(cX,x)::r,_,k,⟨v,t,M,O,Y⟩=>by
  (refine B M ?_;refine B KL ?_)
  unfold bb
  by_cases e:k=cX
  ·(refine B (if_pos e) ?_;refine B (if_pos e) ?_);exact⟨v,rfl,O⟩
  ·(refine B (if_neg e) ?_;refine B (if_neg e) ?_);exact dU.gk Y
theorem dU.isSome {l:List (al×H)} {aS:List (al×Value)} {k:al} (h:dU w CM ρ l aS):(valueAt aS k).isSome=(bb k l).isSome:=by
 have:=h.gk (k:=k)
 cases e:bb k l with
 |none=>replace this:=e▸this;refine B this ?_;rfl
 |some x=>replace this:=e▸this;obtain⟨v,M,_⟩:=this;refine B M ?_;rfl
theorem we {K:Type} [DecidableEq K] {k cX:K} {v u:Value} {t:List (K×Value)} (aE:((cX,u)::t).map (·.1)|>.Nodup):stored ((cX,u)::t) k v=if k=cX then(cX,v)::t else(cX,u)::stored t k v:=by
 unfold stored
 by_cases h:cX=k
 ·subst h
  simp only [List.any_cons,decide_true,Bool.true_or,if_true,List.map_cons]
  (refine B (map_store_of_not_mem t cX v (by simpa using (List.nodup_cons.mp aE).1)) ?_;rfl)
 ·have h':¬k=cX:=fun e=>h e.symm
  simp only [List.any_cons,h,decide_false,Bool.false_or,List.map_cons,if_false,h']
  split<;>simp
theorem dU.set:∀{l:List (al×H)} {aS:List (al×Value)} {k:al} {x:H} {v:Value},dU w CM ρ l aS->(aS.map (·.1)).Nodup->bY w CM ρ x v->dU w CM ρ (cU k x l) (stored aS k v)
 |[],_,k,x,v,h,_,ae=>by refine B (show _=_ from h) ?_;exact⟨v,[],rfl,ae,rfl⟩
 |(cX,y)::r,_,k,x,v,⟨u,t,M,O,Y⟩,aE,ae=>by
  subst M
  refine B (we aE) ?_
  unfold cU
  by_cases e:k=cX
  ·(refine B (if_pos e) ?_;refine B (if_pos e) ?_);exact⟨v,t,rfl,ae,Y⟩
  ·(refine B (if_neg e) ?_;refine B (if_neg e) ?_);exact⟨u,_,rfl,O,dU.set Y (List.nodup_cons.mp aE).2 ae⟩
theorem kq.gk:∀{l:List (Str×H)} {m:Str->Option Value} {n:Str} {x:H},kq w CM ρ l m->iu n l=some x->∃v,m n=some v/\bY w CM ρ x v
 |[],_,_,_,_,e=>by simp [iu] at e
 |(i5,y)::r,m,n,x,⟨⟨v,M,O⟩,Y⟩,e=>by
  unfold iu at e
  by_cases q:n=i5
  ·replace e:=(if_pos q)▸e;cases e;subst q;exact⟨v,M,O⟩
  ·replace e:=(if_neg q)▸e;exact kq.gk Y e
theorem a2.fE {a:Addr} {ob:Obj} (av:a2 ρ₀ db ρ s) (aL:ρ₀ a=.free):a2 ρ₀ db (cx ρ a (.be ob)) s where
 bL:=fun b o e=>by
  by_cases q:b=a
  ·subst q;replace e:=aL▸e;cases e
  ·refine B (bp q) ?_;exact av.bL b o e
 aU:=fun b e=>by
  by_cases q:b=a
  ·subst q;replace e:=aL▸e;cases e
  ·refine B (bp q) ?_;exact av.aU b e
 per:=fun b k e=>by
  by_cases q:b=a
  ·subst q;replace e:=aL▸e;cases e
  ·refine B (bp q) ?_;exact av.per b k e
 cL:=fun b e=>by
  by_cases q:b=a
  ·subst q;replace e:=aL▸e;cases e
  ·refine B (bp q) ?_;exact av.cL b e
 ff:=fun b e=>by
  by_cases q:b=a
  ·subst q;replace e:=aL▸e;cases e
  ·refine B (bp q) ?_;exact av.ff b e
 stk:=fun b e=>by
  by_cases q:b=a
  ·subst q;replace e:=aL▸e;cases e
  ·refine B (bp q) ?_;exact av.stk b e
 aD:=fun b x e=>by
  by_cases q:b=a
  ·subst q;replace e:=aL▸e;cases e
  ·refine B (bp q) ?_;exact av.aD b x e
 keep:=av.keep
 ig:=av.ig
 ao:=av.ao
theorem ce.fE {a:Addr} {ob:Obj} {l dc:List (Str×cg)} (av:ce ρ₀ l ρ dc) (aL:ρ₀ a=.free):ce ρ₀ l (cx ρ a (.be ob)) dc where
 U:=av.U
 aD:=fun b x e=>by
  by_cases q:b=a
  ·subst q;replace e:=aL▸e;cases e
  ·refine B (bp q) ?_;exact av.aD b x e
 gu:=fun b x e=>by
  by_cases q:b=a
  ·subst q;replace e:=dK▸e;cases e
  ·replace e:=(bp q)▸e;exact av.gu b x e
theorem cM.fE {per:List H} {a:Addr} {ob:Obj} (ap:cM w CM K ρ s per) (hd:ρ a=.aU\/∃x,ρ a=.aD x) (cq:s.heap.get? a=some ob):cM w CM K (cx ρ a (.be ob)) s per:=by
 have Tr:∀k,ρ a≠.per k:=fun k e=>by rcases hd with q|⟨x,q⟩<;>replace e:=q▸e<;>cases e
 have d7:∀o,ρ a≠.be o:=fun k e=>by rcases hd with q|⟨x,q⟩<;>replace e:=q▸e<;>cases e
 have aB:∀b o,ρ b=.be o->cx ρ a (.be ob) b=.be o:=fun b o e=>by
  refine B (bp (fun q:b=a=>d7 o (by rw [<-q];exact e))) ?_;exact e
 have an:∀b k,ρ b=.per k->cx ρ a (.be ob) b=.per k:=fun b k e=>by
  refine B (bp (fun q:b=a=>Tr k (by rw [<-q];exact e))) ?_;exact e
 have sm:∀b k,cx ρ a (.be ob) b=.per k->ρ b=.per k:=fun b k e=>by
  by_cases q:b=a
  ·(replace e:=q▸e;replace e:=dK▸e);cases e
  ·rwa [bp q] at e
 refine⟨fun b x e=>aB _ _ (ap.fV b x e),fun b x e=>aB _ _ (ap.fC b x e),fun b e=>let⟨M,O⟩:=ap.fl b e;⟨by refine B (bp (fun q:b=a=>by rcases hd with cI|⟨x,cI⟩<;>rw [q,cI] at M<;>exact M)) ?_;exact M,O⟩,fun b o e=> ?_,fun b=> ?_,fun k ag=>let⟨b,e⟩:=ap.gh k ag;⟨b,an _ _ e⟩,fun b k e=> ?_,fun b c k ak ar=>ap.inj b c k (sm _ _ ak) (sm _ _ ar)⟩
 ·by_cases q:b=a
  ·subst q;replace e:=dK▸e;cases e;exact cq
  ·replace e:=(bp q)▸e;exact ap.bL b o e
 ·by_cases q:b=a
  ·subst q;(refine B dK ?_;refine B cq ?_);exact⟨fun e=>(nomatch e),fun e=>(nomatch e)⟩
  ·refine B (bp q) ?_;exact ap.c0 b
 ·refine ba (ap.fT b k (sm _ _ e)) ?_;intro x M O
  exact⟨x,M,O.bu aB an fun _ e=>e⟩
theorem aK.fE {a:Addr} {ob:Obj} (I:aK w CM K env J ρ s fs) (hd:ρ a=.aU) (eD:∀x c,J.names.lookup x=some .free->env.cells.lookup x=some c->c≠a) (cq:s.heap.get? a=some ob):aK w CM K env J (cx ρ a (.be ob)) s fs:=by
 have aB:∀b o,ρ b=.be o->cx ρ a (.be ob) b=.be o:=fun b o e=>by
  refine B (bp (d6 e hd)) ?_;exact e
 have an:∀b k,ρ b=.per k->cx ρ a (.be ob) b=.per k:=fun b o e=>by
  refine B (bp (d6 e hd)) ?_;exact e
 have bx:∀b k,ρ b=.aD k->cx ρ a (.be ob) b=.aD k:=fun b o e=>by
  refine B (bp (d6 e hd)) ?_;exact e
 have aY:∀b,ρ b=.frame->cx ρ a (.be ob) b=.frame:=fun b e=>by
  refine B (bp (d6 e hd)) ?_;exact e
 have pi:∀b,ρ b=.cell->cx ρ a (.be ob) b=.cell:=fun b e=>by
  refine B (bp (d6 e hd)) ?_;exact e
 have iz:∀b x,cx ρ a (.be ob) b=.aD x->ρ b=.aD x:=fun b x e=>by
  by_cases q:b=a
  ·(replace e:=q▸e;replace e:=dK▸e);cases e
  ·rwa [bp q] at e
 exact⟨I.base.fE (.inl hd) cq,I.c2,aY _ I.cL,I.fv,fun x bh e=>let⟨v,M,O⟩:=I.eZ x bh e;⟨v,M,O.bu aB an bx⟩,
  fun x e=>let⟨c,v,M,O,Y⟩:=I.cells x e;⟨c,v,M,pi _ O,Y⟩,
  fun x c ak ar=>(bp (eD x c ak ar)).trans (I.frees x c ak ar),I.apart,
  fun b x e=>let⟨aL,c,M,O⟩:=I.eX b x (iz _ _ e);⟨aL,c,M,O.bu aB an fun _ e=>e⟩,fun b c x ak ar=>I.fq b c x (iz _ _ ak) (iz _ _ ar)⟩
theorem h4 {a:Addr} (yZ:aK w CM K env J ρ₀ db fs) (aL:ρ₀ a=.free):∀x c,J.names.lookup x=some .free->env.cells.lookup x=some c->c≠a:=fun x c ak ar q=>by
 have:=yZ.frees x c ak ar;(replace this:=q▸this;replace this:=aL▸this);cases this
theorem aK.Nu {a:Addr} {ob:Obj} {x:Str} {c:H} (I:aK w CM K env J ρ s fs) (hd:ρ a=.aD x) (ae:getL x fs.loc=some (.aD c)) (hc:dR w CM ρ s.heap a c) (cq:s.heap.get? a=some ob):
  aK w CM K env J (cx ρ a (.be ob)) s {fs with loc:=bX x (.U c) fs.loc}/\bY w CM (cx ρ a (.be ob)) c (.ref a)/\a2 ρ s (cx ρ a (.be ob)) s/\ce ρ fs.loc (cx ρ a (.be ob)) (bX x (.U c) fs.loc):=by
 have aB:∀b o,ρ b=.be o->cx ρ a (.be ob) b=.be o:=fun b o e=>by
  refine B (bp (d6 e hd)) ?_;exact e
 have an:∀b k,ρ b=.per k->cx ρ a (.be ob) b=.per k:=fun b o e=>by
  refine B (bp (d6 e hd)) ?_;exact e
 have jU:∀b,ρ b=.aU->cx ρ a (.be ob) b=.aU:=fun b e=>by
  refine B (bp (d6 e hd)) ?_;exact e
 have aY:∀b,ρ b=.frame->cx ρ a (.be ob) b=.frame:=fun b e=>by
  refine B (bp (d6 e hd)) ?_;exact e
 have pi:∀b,ρ b=.cell->cx ρ a (.be ob) b=.cell:=fun b e=>by
  refine B (bp (d6 e hd)) ?_;exact e
 have eT:∀b,ρ b=.stack->cx ρ a (.be ob) b=.stack:=fun b e=>by
  refine B (bp (d6 e hd)) ?_;exact e
 have iz:∀b y,cx ρ a (.be ob) b=.aD y->ρ b=.aD y/\b≠a:=fun b y e=>by
  by_cases q:b=a
  ·(replace e:=q▸e;replace e:=dK▸e);cases e
  ·replace e:=(bp q)▸e;exact⟨e,q⟩
 have ga:bY w CM (cx ρ a (.be ob)) c (.ref a):=hc.gf cq aB an dK
 refine⟨⟨I.base.fE (.inr ⟨x,hd⟩) cq,I.c2,aY _ I.cL,I.fv,fun y bh e=> ?_,
  fun y e=>let⟨c,v,M,O,Y⟩:=I.cells y e;⟨c,v,M,pi _ O,Y⟩,fun y c ak ar=>jU _ (I.frees y c ak ar),I.apart,fun b y e=> ?_,
  fun b c y ak ar=>I.fq b c y (iz _ _ ak).1 (iz _ _ ar).1⟩,ga,⟨aB,jU,an,aY,pi,eT,fun b y e=> ?_,fun _ _ _ e=>e,fun _ _ _ e=>⟨_,e⟩,⟨_,_,rfl⟩⟩,⟨fun y v e=> ?_,fun b y e=> ?_,fun b y e=>(iz b y e).1⟩⟩
 ·by_cases q:y=x
  ·subst q
   replace e:=j9▸e;cases e
   obtain⟨v,M,b,rfl,O⟩:=I.eZ _ _ ae
   replace M:=(I.fq b a _ O hd)▸M
   exact⟨.ref a,M,ga⟩
  ·replace e:=(ip q)▸e
   refine ba (I.eZ _ _ e) ?_;intro v M O
   refine⟨v,M,?_⟩
   cases bh with
   |U z=>exact bY.bu aB an O
   |aD z=>
    refine ba O ?_;clear O;intro b Y aC
    refine⟨b,Y,?_⟩
    refine B (bp (fun cI=>by subst cI;rw [hd] at aC;cases aC;exact q rfl)) ?_;exact aC
 ·refine cm (iz _ _ e) ?_;intro M O
  obtain⟨aL,c',Y,aC⟩:=I.eX b y M
  have q:y≠x:=fun q=>O (I.fq b a x (q▸M) hd)
  exact⟨aL,c',by refine B (ip q) ?_;exact Y,aC.bu aB an fun _ e=>e⟩
 ·by_cases q:b=a
  ·subst q;exact .inr (.inr ⟨ob,dK⟩)
  ·refine B (bp q) ?_;exact .inl e
 ·by_cases q:y=x
  ·subst q;replace e:=ae▸e;cases e
  ·refine B (ip q) ?_;exact e
 ·by_cases q:b=a
  ·subst q
   replace e:=hd▸e;cases e
   exact .inr ⟨c,j9⟩
  ·refine B (bp q) ?_;exact .inl e
theorem wU {r:aV} {v:Value} {x:H} {kf:X} (yZ:aK w CM K env J ρ₀ db kf) (I:aK w CM K env J ρ s fs) (av:a2 ρ₀ db ρ s) (dw:ce ρ₀ kf.loc ρ fs.loc) (aP:eN w CM ρ₀ ρ s fs r v) (e:fs.nL r=some (x,fs')):
  ∃ρ',aK w CM K env J ρ' s fs'/\a2 ρ₀ db ρ' s/\ce ρ₀ kf.loc ρ' fs'.loc/\bY w CM ρ' x v:=by
 cases r with
 |U y=>cases e;exact⟨ρ,I,av,dw,aP⟩
 |b5 y=>
  refine b7 e ?_;clear e
  refine gw aP ?_;clear aP;intro a u;subst u;intro M O Y
  refine bT Y.eW ?_;intro ob cq
  refine⟨_,I.fE (ob:=ob) O (h4 yZ M) cq,av.fE M,dw.fE M,?_⟩
  refine Y.gf cq (fun b o e=> ?_) (fun b o e=> ?_) dK
  ·refine B (bp (d6 e O)) ?_;exact e
  ·refine B (bp (d6 e O)) ?_;exact e
 |var n=>
  refine bG e (fun c hc e=>b7 e ?_) Z
  have bi:=oX hc
  refine ba aP ?_;clear aP;intro a u;subst u;intro O
  have O:ρ a=.aD n:=O.elim id fun O=>O.elim fun y O=>cg.noConfusion (Option.some.inj (bi.symm.trans O))
  refine ba (I.eX a n O).2 ?_;intro c' Y aC
  replace aC:=(cg.aD.inj (Option.some.inj (Y.symm.trans bi)))▸aC
  refine bT aC.eW ?_;intro ob cq
  refine nX (I.Nu (ob:=ob) O bi aC cq) ?_;intro e7 R hA nC
  exact⟨_,e7,av.trans hA,dw.trans nC,R⟩
theorem dR.nt {a:Addr} {y x:H} (h:dR w CM ρ s.heap a y) (e:fs.nt y=some x):dR w CM ρ s.heap a x:=by
 cases y with
 |am l=>exact cG (show some (H.am l)=some x from e) h
 |V l=>exact cG (show some (H.V l)=some x from e) h
 |_=>exact h.elim
theorem hT {r:aV} {v:Value} {x:H} (I:aK w CM K env J ρ s fs) (aP:eN w CM ρ₀ ρ s fs r v) (e:fs.cE r=some x):cv w CM ρ s x v:=by
 refine bG e (fun y aQ ci=> ?_) Z
 clear e
 cases r with
 |U z=>
  cases aQ
  cases y with
  |per k=>
   refine ba aP ?_;clear aP;intro a u;subst u;intro bz
   refine ba (I.base.fT a k bz) ?_;intro c M O
   exact .at a rfl (Option.some.inj (M.symm.trans ci)▸O)
  |_=>exact .gf (Option.some.inj ci▸aP)
 |b5 z=>
  cases aQ
  refine gw aP ?_;clear aP;intro a u;subst u;intro _ _ Y
  exact .at a rfl (Y.nt ci)
 |var n=>
  have bi:=oX aQ
  refine ba aP ?_;clear aP;intro a u;subst u;intro O
  have O:ρ a=.aD n:=O.elim id fun O=>O.elim fun y O=>cg.noConfusion (Option.some.inj (bi.symm.trans O))
  refine ba (I.eX a n O).2 ?_;intro c Y aC
  exact .at a rfl ((cg.aD.inj (Option.some.inj (Y.symm.trans bi))▸aC).nt ci)
section
variable{v:Value} (ap:cM w CM K ρ s fs.per)
theorem cv.none (q:cv w CM ρ s .none v):v=.none:=by
 cases q with
 |gf h=>exact h
 |«at» a _ h=>exact h.elim
theorem cv.bool {b:Bool} (q:cv w CM ρ s (.bool b) v):v=.bool b:=by
 cases q with
 |gf h=>exact h
 |«at» a _ h=>exact h.elim
theorem cv.int {i:Int} (q:cv w CM ρ s (.int i) v):∃t,v=.int i t:=by
 cases q with
 |gf h=>exact h
 |«at» a _ h=>exact h.elim
theorem cv.str {x:Str} (q:cv w CM ρ s (.str x) v):∃t,v=.str x t:=by
 cases q with
 |gf h=>exact h
 |«at» a _ h=>exact h.elim
theorem cv.dV {c:Str} {l:List (Str×H)} (q:cv w CM ρ s (.dV c l) v):bY w CM ρ (.dV c l) v:=by
 cases q with
 |gf h=>exact h
 |«at» a _ h=>exact h.elim
theorem cv.aF {l:List H} {per:List H} (ap:cM w CM K ρ s per) (q:cv w CM ρ s (.aF l) v):∃a vs n,v=.ref a/\s.heap.get? a=some (qk vs n)/\a8 w CM ρ l vs:=by
 cases q with
 |gf h=>obtain⟨a,vs,n,M,O,Y⟩:=h;exact⟨a,vs,n,M,ap.bL _ _ O,Y⟩
 |«at» a _ h=>exact h.elim
theorem cv.am {l:List H} {per:List H} (ap:cM w CM K ρ s per) (q:cv w CM ρ s (.am l) v):∃a vs n,v=.ref a/\s.heap.get? a=some (mq vs n)/\a8 w CM ρ l vs:=by
 cases q with
 |gf h=>obtain⟨a,vs,n,M,O,Y⟩:=h;exact⟨a,vs,n,M,ap.bL _ _ O,Y⟩
 |«at» a ay h=>obtain⟨vs,n,M,O⟩:=h;exact⟨a,vs,n,ay,M,O⟩
theorem cv.V {l:List (al×H)} {per:List H} (ap:cM w CM K ρ s per) (q:cv w CM ρ s (.V l) v):∃a aS,v=.ref a/\(a==sysModules)=false/\s.heap.DictOf (kk w) a aS/\dU w CM ρ l aS:=by
 cases q with
 |gf h=>obtain⟨a,ob,es,cs,aS,M,aL,O,Y,aC,bR,dL,f2,oc⟩:=h;exact⟨a,aS,M,aL,⟨ob,es,cs,ap.bL _ _ O,Y,aC,bR,dL,f2⟩,oc⟩
 |«at» a ay h=>obtain⟨ob,es,cs,aS,aL,M,O,Y,aC,bR,dL,f2⟩:=h;exact⟨a,aS,ay,aL,⟨ob,es,cs,M,O,Y,aC,bR,dL⟩,f2⟩
end
end
end Mine
end
section
open PySem PySem.W PySem.Calls PyProof.Rows
namespace Mine
section
variable(w:World) (CM:cp) (K:Top) (env:Env) (J:Scope)
noncomputable def b4 (ρ:a5) (s:Shared) (fs:X) (r:aV) (fs':X) (v:Value) (az:Shared):Prop:=
 ∃ρ',aK w CM K env J ρ' az fs'/\a2 ρ s ρ' az/\ce ρ fs.loc ρ' fs'.loc/\eN w CM ρ ρ' az fs' r v
noncomputable def JB (ρ:a5) (s:Shared) (fs:X) (x:H) (fs':X) (v:Value) (az:Shared):Prop:=
 ∃ρ',aK w CM K env J ρ' az fs'/\a2 ρ s ρ' az/\ce ρ fs.loc ρ' fs'.loc/\bY w CM ρ' x v
noncomputable def r6 (ρ:a5) (s:Shared) (fs:X) (x:List H) (fs':X) (v:List Value) (az:Shared):Prop:=
 ∃ρ',aK w CM K env J ρ' az fs'/\a2 ρ s ρ' az/\ce ρ fs.loc ρ' fs'.loc/\a8 w CM ρ' x v
noncomputable def kj (ρ:a5) (s:Shared) (fs:X) (b:Bool) (fs':X) (gj:Bool) (az:Shared):Prop:=
 gj=b/\∃ρ',aK w CM K env J ρ' az fs'/\a2 ρ s ρ' az/\ce ρ fs.loc ρ' fs'.loc
noncomputable abbrev cf:Value->Shared->Prop:=fun _ _=>False
structure cC (A:Around) (R:bk):Prop where
 a9:∀e fs r fs',R.a9 e fs=some (r,fs')->∀ρ s,aK w CM K env J ρ s fs->wpAny (model aw w) A (eval e env) (b4 w CM K env J ρ s fs r fs') cf s
 dD:∀e fs b fs',R.dD e fs=some (b,fs')->∀ρ s,aK w CM K env J ρ s fs->wpAny (model aw w) A (isTrue e env (eval e env)) (kj w CM K env J ρ s fs b fs') cf s
 rg:∀e p fs,R.a9 (.Starred e p) fs=none
 set:∀es k p fs,R.a9 (.Set es k p) fs=none
end
section
variable{w:World} {CM:cp} {K:Top} {env:Env} {J:Scope} {A:Around} {ρ ρ₀ ρ':a5} {s db az:Shared} {fs fs':X} {R:bk}
theorem cM.tok {per:List H} {tk:Nat} (ap:cM w CM K ρ s per):cM w CM K ρ {s with toks:=tk} per:=⟨ap.fV,ap.fC,ap.fl,ap.bL,ap.c0,ap.gh,ap.fT,ap.inj⟩
theorem aK.tok {tk:Nat} (I:aK w CM K env J ρ s fs):aK w CM K env J ρ {s with toks:=tk} fs:=⟨I.base.tok,I.c2,I.cL,I.fv,I.eZ,I.cells,I.frees,I.apart,I.eX,I.fq⟩
theorem a2.tok {tk:Nat}:a2 ρ s ρ {s with toks:=tk}:=⟨fun _ _ h=>h,fun _ h=>h,fun _ _ h=>h,fun _ h=>h,fun _ h=>h,fun _ h=>h,fun _ _ h=>.inl h,fun _ _ _ h=>h,fun _ _ _ h=>⟨_,h⟩,⟨_,_,rfl⟩⟩
theorem aK.in (I:aK w CM K env J ρ s fs):K.f.In s.heap:=fun a x e=>I.base.bL a x (I.base.fV a x e)
theorem eu {x:H} {v:Value} {tk:Nat} (I:aK w CM K env J ρ s fs) (h:bY w CM ρ x v):b4 w CM K env J ρ s fs (.U x) fs v {s with toks:=tk}:=
 ⟨ρ,I.tok,a2.tok,ce.refl ..,h⟩
theorem nI {x:H} {a:Addr} {h':Heap} {tk:Nat} (I:aK w CM K env J ρ s fs) (ag:∀b ob,s.heap.get? b=some ob->h'.get? b=some ob) (aE:s.heap.get? a=none)
  (h:dR w CM ρ h' a x):b4 w CM K env J ρ s fs (.b5 x) fs (.ref a) {s with heap:=h',toks:=tk}:=by
 have aL:ρ a=.free:=(I.base.c0 a).mpr aE
 refine⟨bQ ρ h',I.dF ag,a2.dF ag,ce.dF,a,rfl,aL,?_,h.bu (fun _ _ q=>hU.mpr q) (fun _ _ q=>gV.mpr q) fun _ q=>q⟩
 refine bT h.eW ?_;intro ob cq
 exact gF aL cq
theorem xA {x:H} {a:Addr} {h':Heap} {tk:Nat} {ob:Obj} (I:aK w CM K env J ρ s fs) (ag:∀b ob,s.heap.get? b=some ob->h'.get? b=some ob) (aE:s.heap.get? a=none) (cq:h'.get? a=some ob)
  (h:∀ρ',(∀b o,ρ b=.be o->ρ' b=.be o)->(∀b k,ρ b=.per k->ρ' b=.per k)->ρ' a=.be ob->bY w CM ρ' x (.ref a)):b4 w CM K env J ρ s fs (.U x) fs (.ref a) {s with heap:=h',toks:=tk}:=by
 have aL:ρ a=.free:=(I.base.c0 a).mpr aE
 have hd:bQ ρ h' a=.aU:=gF aL cq
 refine⟨cx (bQ ρ h') a (.be ob),(I.dF ag).fE hd (h4 I aL) cq,(a2.dF ag).fE aL,ce.dF.fE aL,?_⟩
 refine h _ (fun b o e=> ?_) (fun b k e=> ?_) dK
 ·refine B (bp (d6 e aL)) ?_;exact hU.mpr e
 ·refine B (bp (d6 e aL)) ?_;exact gV.mpr e
theorem b4.trans {aN:a5} {aj cu:Shared} {fs₁ fs₂:X} {r:aV} {v:Value} (av:a2 ρ s aN aj) (dw:ce ρ fs.loc aN fs₁.loc) (q:b4 w CM K env J aN aj fs₁ r fs₂ v cu):b4 w CM K env J ρ s fs r fs₂ v cu:=by
 refine gw q ?_;clear q;intro b9 I e6 g1 h
 exact⟨b9,I,av.trans e6,dw.trans g1,h.g9 av.h3⟩
theorem kj.trans {aN:a5} {aj cu:Shared} {fs₁ fs₂:X} {b gj:Bool} (av:a2 ρ s aN aj) (dw:ce ρ fs.loc aN fs₁.loc) (q:kj w CM K env J aN aj fs₁ b fs₂ gj cu):kj w CM K env J ρ s fs b fs₂ gj cu:=by
 obtain⟨h,b9,I,e6,g1⟩:=q
 exact⟨h,b9,I,av.trans e6,dw.trans g1⟩
theorem cC.eM (S:cC w CM K env J A R) {e:Expr} {r:aV} {Q:Value->Shared->Prop} {E:Value->Shared->Prop} (q:R.a9 e fs=some (r,fs')) (I:aK w CM K env J ρ s fs)
  (k:∀v aj aN,aK w CM K env J aN aj fs'->a2 ρ s aN aj->ce ρ fs.loc aN fs'.loc->eN w CM ρ aN aj fs' r v->Q v aj):wpAny (model aw w) A (eval e env) Q E s:=
 wpAny_mono (S.a9 e fs r fs' q ρ s I) (fun v aj h=>h.elim fun aN h=>k v aj aN h.1 h.2.1 h.2.2.1 h.2.2.2) fun _ _ f=>f.elim
theorem cC.mg (S:cC w CM K env J A R) {e:Expr} {b:Bool} {Q:Bool->Shared->Prop} {E:Value->Shared->Prop} (q:R.dD e fs=some (b,fs')) (I:aK w CM K env J ρ s fs)
  (k:∀aj aN,aK w CM K env J aN aj fs'->a2 ρ s aN aj->ce ρ fs.loc aN fs'.loc->Q b aj):wpAny (model aw w) A (isTrue e env (eval e env)) Q E s:=
 wpAny_mono (S.dD e fs b fs' q ρ s I) (fun v aj h=>h.2.elim fun aN z=>h.1▸k aj aN z.1 z.2.1 z.2.2) fun _ _ f=>f.elim
theorem iB {aN:a5} {aj:Shared} {fs₁ fs₂:X} {r:aV} {p:Sem Value} {E:Value->Shared->Prop} (av:a2 ρ s aN aj) (dw:ce ρ fs.loc aN fs₁.loc) (h:wpAny (model aw w) A p (b4 w CM K env J aN aj fs₁ r fs₂) cf aj):wpAny (model aw w) A p (b4 w CM K env J ρ s fs r fs₂) E aj:=
 wpAny_mono h (fun _ _ h=>h.trans av dw) fun _ _ f=>f.elim
theorem sr {aN:a5} {aj:Shared} {fs₁ fs₂:X} {b:Bool} {p:Sem Bool} {E:Value->Shared->Prop} (av:a2 ρ s aN aj) (dw:ce ρ fs.loc aN fs₁.loc) (h:wpAny (model aw w) A p (kj w CM K env J aN aj fs₁ b fs₂) cf aj):wpAny (model aw w) A p (kj w CM K env J ρ s fs b fs₂) E aj:=
 wpAny_mono h (fun _ _ h=>h.trans av dw) fun _ _ f=>f.elim
theorem I3 {aN:a5} {aj:Shared} {fs₁ fs₂:X} {r:aV} {p:Sem Value} {Q E:Value->Shared->Prop} (h:wpAny (model aw w) A p (b4 w CM K env J aN aj fs₁ r fs₂) cf aj)
  (k:∀v cu b9,aK w CM K env J b9 cu fs₂->a2 aN aj b9 cu->ce aN fs₁.loc b9 fs₂.loc->eN w CM aN b9 cu fs₂ r v->Q v cu):wpAny (model aw w) A p Q E aj:=
 wpAny_mono h (fun v aj h=>h.elim fun aN h=>k v aj aN h.1 h.2.1 h.2.2.1 h.2.2.2) fun _ _ f=>f.elim
theorem Vp (S:cC w CM K env J A R) {e:Expr} {x:H} (q:d2 R e fs=some (x,fs')) (I:aK w CM K env J ρ s fs):
  wpAny (model aw w) A (eval e env) (JB w CM K env J ρ s fs x fs') cf s:=by
 unfold d2 at q
 refine b6 q ?_ Z;clear q;intro r fs₁ bw q
 exact S.eM bw I fun v aj aN aZ a0 bv aP=>wU I aZ a0 bv aP q
theorem rE (S:cC w CM K env J A R) {e:Expr} {x:H} {Q E:Value->Shared->Prop} (q:d2 R e fs=some (x,fs')) (I:aK w CM K env J ρ s fs)
  (k:∀v aj aN,aK w CM K env J aN aj fs'->a2 ρ s aN aj->ce ρ fs.loc aN fs'.loc->bY w CM aN x v->Q v aj):wpAny (model aw w) A (eval e env) Q E s:=
 wpAny_mono (Vp S q I) (fun v aj h=>h.elim fun aN h=>k v aj aN h.1 h.2.1 h.2.2.1 h.2.2.2) fun _ _ f=>f.elim
theorem wl (S:cC w CM K env J A R) {e:Expr} {es:List Expr} {x:H} (q:d2 R e fs=some (x,fs')):starEach (e::es) env=(false,eval e env)::starEach es env:=by
 cases e with
 |Starred e p=>unfold d2 at q;rw [S.rg] at q;exact Z q
 |_=>rfl
theorem FT (S:cC w CM K env J A R) {pos:Pos} (es:List Expr):∀{xs:List H} {fs fs':X} {ρ:a5} {s:Shared},dp R es fs=some (xs,fs')->aK w CM K env J ρ s fs->
  wpAny (model aw w) A (spliced (backTo pos (starEach es env))) (r6 w CM K env J ρ s fs xs fs') cf s:=by
 induction es with
 |nil=>intro xs fs fs' ρ s q I;exact b7 q (wpAny_items_nil ⟨ρ,I,a2.refl ..,ce.refl ..,a8.nil⟩)
 |cons e es ih=>
  intro xs fs fs' ρ s q I
  refine b6 q (fun v fs₁ bw q=>b6 q (fun vs fs₂ dJ q=>b7 q ?_) Z) Z
  refine wpAny_items_cons (rE S bw I fun Lh aj aN aZ a0 bv gE=> ?_) (wl S bw)
  exact wpAny_mono (ih dJ aZ) (fun YK cu h=>h.elim fun b9 h=>⟨b9,h.1,a0.trans h.2.1,bv.trans h.2.2.1,a8.cons (bY.bu h.2.1.bL h.2.1.per gE) h.2.2.2⟩) fun _ _ f=>f
theorem FI (S:cC w CM K env J A R) {pos:Pos} {es:List Expr} {xs:List H} {Q:List Value->Shared->Prop} {E:Value->Shared->Prop} (q:dp R es fs=some (xs,fs')) (I:aK w CM K env J ρ s fs)
  (k:∀v aj aN,aK w CM K env J aN aj fs'->a2 ρ s aN aj->ce ρ fs.loc aN fs'.loc->a8 w CM aN xs v->Q v aj):wpAny (model aw w) A (spliced (backTo pos (starEach es env))) Q E s:=
 wpAny_mono (FT S es q I) (fun v aj h=>h.elim fun aN h=>k v aj aN h.1 h.2.1 h.2.2.1 h.2.2.2) fun _ _ f=>f.elim
theorem rK (S:cC w CM K env J A R) {pos:Pos} (es:List Expr):∀{xs:List H} {fs fs':X},dp R es fs=some (xs,fs')->(backTo pos (starEach es env)).any (·.1)=false/\(backTo pos (starEach es env)).length=es.length:=by
 induction es with
 |nil=>intro _ _ _ _;exact⟨rfl,rfl⟩
 |cons e es ih=>
  intro xs fs fs' q
  refine b6 q (fun v fs₁ bw q=>b6 q (fun vs fs₂ dJ q=> ?_) Z) Z
  refine B (wl S bw) ?_
  exact⟨(ih dJ).1,congrArg (· +1) (ih dJ).2⟩
theorem e8 {h:Heap}:h.get? h.objs.size=none:=by
 cases e:h.get? h.objs.size with
 |none=>rfl
 |some o=>exact absurd (Heap.lt_size e) (Nat.lt_irrefl _)
theorem cv.AK {l:List H} {v:Value} (q:cv w CM ρ s (.aF l) v):bY w CM ρ (.aF l) v:=by
 cases q with
 |gf h=>exact h
 |«at» a _ h=>exact h.elim
theorem x9 {a:Int} {n:Nat} (h:a.natAbs<2^n):Builtin.Int.intBits a<=n:=by
 unfold Builtin.Int.intBits
 split
 ·exact Nat.zero_le _
 ·rcases Nat.eq_zero_or_pos a.natAbs with aL|an
  ·rename_i b1;exact absurd (by simpa using Int.natAbs_eq_zero.mp aL) b1
  ·have:=(Nat.log2_lt (Nat.ne_of_gt an)).mpr h
   exact zj this
theorem iP:a4<=sizeLine:=by refine B sizeLine_eq ?_;decide
theorem Nn {bW:Operator} {x y z:Int} {t u:Nat} (q:AD bW x y=some z) (I:aK w CM K env J ρ s fs):
  wpAny (model aw w) A (binaryOp bW (.int x t) (.int y u)) (b4 w CM K env J ρ s fs (.U (.int z)) fs) cf s:=by
 cases bW with
 |Add=>exact cG q (PyProof.Rows.add_int (eu I ⟨_,rfl⟩))
 |Sub=>exact cG q (PyProof.Rows.sub_int (eu I ⟨_,rfl⟩))
 |Mult=>
  refine cK q (fun ah q=>cG q ?_) Z
  refine PyProof.Rows.mul_int (eu I ⟨_,rfl⟩) ?_
  exact(Bool.or_eq_true_iff.mp ah).elim (fun h=>IntMulOk.of_left (x9 (of_decide_eq_true h))) fun h=>IntMulOk.of_right (x9 (of_decide_eq_true h))
 |FloorDiv=>
  refine yC q (fun ah q=>cG q ?_)
  simp only [Bool.or_eq_true,decide_eq_true_eq,not_or,Nat.not_le] at ah
  exact PyProof.Rows.floordiv_int ah.1 (eu I ⟨_,rfl⟩) (.inl (PyProof.noPylong_small ah.2))
 |Mod=>exact yC q fun ah q=>cG q (PyProof.Rows.mod_int' ah (eu I ⟨_,rfl⟩))
 |Pow=>
  refine cK q (fun ah q=>cG q ?_) Z
  simp only [Bool.and_eq_true,decide_eq_true_eq] at ah
  refine PyProof.Rows.pow_int ah.1.1 ?_ (eu I ⟨_,rfl⟩)
  exact Int.le_trans (Int.mul_le_mul (Int.ofNat_le.mpr (x9 ah.2)) (Int.le_of_lt ah.1.2) ah.1.1 (by decide)) (by decide)
 |_=>exact Z q
theorem QH {x y:List H} {a b:Value} (ah:x.length+y.length<=a4) (I:aK w CM K env J ρ s fs) (ae:cv w CM ρ s (.aF x) a) (aQ:cv w CM ρ s (.aF y) b):
  wpAny (model aw w) A (binaryOp .Add a b) (b4 w CM K env J ρ s fs (.U (.aF (x++y))) fs) cf s:=by
 have Xe:=ae.AK
 have Xk:=aQ.AK
 refine dG (ae.aF I.base) ?_;intro a vs n u;subst u;intro M O
 refine dG (aQ.aF I.base) ?_;intro b c3 m u;subst u;intro Y aC
 have dv:(Array.mk vs).size+(Array.mk c3).size<=sizeLine:=by
  have:=O.length;have:=aC.length;have:=iP
  simp only [List.size_toArray];exact Ct ah (by assumption) (by assumption) this
 by_cases ak:vs=[]
 ·subst ak
  have jZ:=List.eq_nil_of_length_eq_zero (O.length.symm)
  refine concat_meets ⟨_,M,rfl⟩ ⟨_,Y,rfl⟩ noFill_tuple_add seq_tuple_add PySem.F.slot_tuple_add PySem.F.entry_tuple_add (PySem.F.args_tuple_add_2 _ _)
   (tuple_addW0 a b #[] (Array.mk c3) n m none none #[] #[] (by simp)) ⟨M,Y,?_⟩
  refine B jZ ?_
  exact eu (tk:=s.toks) I Xk
 ·by_cases ar:c3=[]
  ·subst ar
   have H8:=List.eq_nil_of_length_eq_zero (aC.length.symm)
   refine concat_meets ⟨_,M,rfl⟩ ⟨_,Y,rfl⟩ noFill_tuple_add seq_tuple_add PySem.F.slot_tuple_add PySem.F.entry_tuple_add (PySem.F.args_tuple_add_2 _ _)
    (tuple_addW1 a b (Array.mk vs) #[] n m none none #[] #[] (by simpa using ak) (by simp)) ⟨M,Y,?_⟩
   (refine B H8 ?_;refine B (List.append_nil _) ?_)
   exact eu (tk:=s.toks) I Xe
  ·refine concat_meets ⟨_,M,rfl⟩ ⟨_,Y,rfl⟩ noFill_tuple_add seq_tuple_add PySem.F.slot_tuple_add PySem.F.entry_tuple_add (PySem.F.args_tuple_add_2 _ _)
    (tuple_addW2 a b (Array.mk vs) (Array.mk c3) n m none none #[] #[] (by simpa using ak) (by simpa using ar) dv) ⟨M,Y,?_⟩
   refine xA (tk:=s.toks) I (fun b ob e=>Heap.get?_push_of_some _ e) e8 (by simpa using Heap.get?_push_size _ rfl) fun ρ' aB an cq=> ?_
   exact⟨_,vs++c3,0,rfl,cq,(O.append aC).bu aB an⟩
theorem Uo {x y:List H} {a b:Value} (ah:x.length+y.length<=a4) (I:aK w CM K env J ρ s fs) (ae:cv w CM ρ s (.am x) a) (aQ:cv w CM ρ s (.am y) b):
  wpAny (model aw w) A (binaryOp .Add a b) (b4 w CM K env J ρ s fs (.b5 (.am (x++y))) fs) cf s:=by
 refine dG (ae.am I.base) ?_;intro a vs n u;subst u;intro M O
 refine dG (aQ.am I.base) ?_;intro b c3 m u;subst u;intro Y aC
 have dv:(Array.mk vs).size+(Array.mk c3).size<=sizeLine:=by
  have:=O.length;have:=aC.length;have:=iP
  simp only [List.size_toArray];exact Ct ah (by assumption) (by assumption) this
 exact P.add_list M Y (nI (tk:=s.toks) I (fun b ob e=>Heap.get?_push_of_some _ e) e8 ⟨vs++c3,0,by simpa using Heap.get?_push_size _ rfl,O.append aC⟩) dv
theorem SQ {bW:Operator} {x y:H} {a b:Value} {r:aV} (q:kh bW x y=some r) (I:aK w CM K env J ρ s fs) (ae:cv w CM ρ s x a) (aQ:cv w CM ρ s y b):
  wpAny (model aw w) A (binaryOp bW a b) (b4 w CM K env J ρ s fs r fs) cf s:=by
 cases x with
 |int x=>
  refine bG q (fun mX M q=>bG q (fun z O q=>cG q ?_) Z) Z
  have aQ:=jP M▸aQ
  refine bT ae.int ?_;intro t u;subst u
  refine bT aQ.int ?_;intro u v;subst v
  exact Nn O I
 |aF x=>
  refine bG q (fun mX M q=>cK q (fun ah q=>cG q ?_) Z) Z
  refine B (AQ (Bool.and_eq_true_iff.mp ah).1) ?_
  exact QH (of_decide_eq_true (Bool.and_eq_true_iff.mp ah).2) I ae (vU M▸aQ)
 |am x=>
  refine bG q (fun mX M q=>cK q (fun ah q=>cG q ?_) Z) Z
  refine B (AQ (Bool.and_eq_true_iff.mp ah).1) ?_
  exact Uo (of_decide_eq_true (Bool.and_eq_true_iff.mp ah).2) I ae (ri M▸aQ)
 |_=>exact Z q
end
end Mine
end
section
open PySem PySem.W PySem.Calls PyProof.Rows
namespace Mine
open PySem.SeqAt (EqAt RcAt RcNeAt)
section
variable{w:World} {CM:cp} {K:Top} {env:Env} {J:Scope} {A:Around} {ρ ρ₀ ρ':a5} {s db az:Shared} {fs fs':X} {R:bk}
theorem fy {h:Heap} {a:Addr} {vs:List Value} {n:Nat} (e:h.get? a=some (mq vs n)):h.IsList a (Array.mk vs):=⟨_,e,rfl,n,rfl⟩
theorem lD {h:Heap} {a:Addr} {vs:List Value} {n:Nat} (e:h.get? a=some (qk vs n)):h.IsTuple a (Array.mk vs):=⟨_,e,rfl,n,rfl⟩
theorem tF {f:H->H->Option Bool} (xs:List H):∀{cl:List H} {b:Bool},lT f xs cl=some b->
  ∃e:Nat->Bool,(∀j x y,xs[j]? =some x->cl[j]? =some y->f x y=some (e j))/\((List.range (min xs.length cl.length)).all e&&xs.length==cl.length)=b:=by
 induction xs with
 |nil=>
  intro cl b q
  refine⟨fun _=>true,fun j x y h=>Z h,?_⟩
  cases cl with
  |nil=>exact Option.some.inj q
  |cons _ _=>(refine B List.length_nil ?_;refine B (Nat.zero_min _) ?_);exact Option.some.inj q
 |cons x r ih=>
  intro cl b q
  cases cl with
  |nil=>
   refine⟨fun _=>true,fun j x y _ h=>Z h,?_⟩
   (refine B List.length_nil ?_;refine B (Nat.min_zero _) ?_);exact Option.some.inj q
  |cons y t=>
   refine hJ q (fun a c bz hc q=>cG q ?_) Z
   obtain⟨e,M,O⟩:=ih hc
   refine⟨fun j=>Nat.rec a (fun j _=>e j) j,fun j u v b2 ay=> ?_,?_⟩
   ·cases j with
    |zero=>(refine bt (Option.some.inj b2) ?_;refine bt (Option.some.inj ay) ?_);exact bz
    |succ j=>exact M j u v b2 ay
   ·(refine bt O ?_;refine B List.length_cons ?_;refine B List.length_cons ?_;refine B (Nat.add_min_add_right _ _ _) ?_;refine B List.range_succ_eq_map ?_;refine B List.all_cons ?_;refine B List.all_map ?_;refine B (Bool.and_assoc _ _ _) ?_;refine B (show(r.length+1==t.length+1)=(r.length==t.length) by simp) ?_)
    rfl
theorem ux {f:H->H->Option Bool} {A:Around} {xs cl:List H} {vs c3:List Value} {e:Nat->Bool} (O:a8 w CM ρ xs vs) (aC:a8 w CM ρ cl c3) (ak:∀j x y,xs[j]? =some x->cl[j]? =some y->f x y=some (e j))
  (JK:∀{x y:H} {v u:Value} {b:Bool},bY w CM ρ x v->bY w CM ρ y u->f x y=some b->EqAt A s v u b) (j:Nat) (uL:j<(Array.mk vs).size) (qv:j<(Array.mk c3).size):EqAt A s (Array.mk vs)[j] (Array.mk c3)[j] (e j):=by
 have aM:=List.getElem?_eq_getElem (Nat.lt_of_lt_of_eq uL O.length)
 have a3:=List.getElem?_eq_getElem (Nat.lt_of_lt_of_eq qv aC.length)
 refine ba (O.gk aM) ?_;intro eR bZ bn
 refine ba (aC.gk a3) ?_;intro mX ef ib
 have eU:(Array.mk vs)[j]=eR:=Option.some.inj ((List.getElem?_eq_getElem uL).symm.trans bZ)
 have j1:(Array.mk c3)[j]=mX:=Option.some.inj ((List.getElem?_eq_getElem qv).symm.trans ef)
 (refine B eU ?_;refine B j1 ?_)
 exact JK bn ib (ak j _ _ aM a3)
theorem Ei {xs cl:List H} {vs c3:List Value} {e:Nat->Bool} {b:Bool} (O:a8 w CM ρ xs vs) (aC:a8 w CM ρ cl c3) (q:((List.range (min xs.length cl.length)).all e&&xs.length==cl.length)=b):((List.range (min vs.length c3.length)).all e&&vs.length==c3.length)=b:=by
 (refine bt q ?_;refine B O.length ?_;refine B aC.length ?_;rfl)
theorem Gw {xs cl:List H} {vs c3:List Value} {e:Nat->Bool} {b:Bool} (O:a8 w CM ρ xs vs) (aC:a8 w CM ρ cl c3) (aq:xs.length=cl.length) (q:((List.range (min xs.length cl.length)).all e&&xs.length==cl.length)=b):(List.range vs.length).all e=b:=by
 (refine bt q ?_;refine bt aq ?_;refine B (Nat.min_self _) ?_;refine B (beq_self_eq_true _) ?_;refine B (Bool.and_true _) ?_;refine B O.length ?_;rfl)
theorem Cg {f:H->H->Option Bool} (aB:∀{x y:H} {v:Value} {b:Bool},bY w CM ρ x v->bY w CM ρ y v->f x y=some b->b=true) (xs:List H):∀{cl:List H} {vs:List Value} {b:Bool},a8 w CM ρ xs vs->a8 w CM ρ cl vs->lT f xs cl=some b->b=true:=by
 induction xs with
 |nil=>
  intro cl vs b M O e
  replace O:=(show vs=[] from M)▸O
  cases cl with
  |nil=>exact(Option.some.inj e).symm
  |cons y t=>obtain⟨v,dW,q,_⟩:=O;cases q
 |cons x r ih=>
  intro cl vs b M O e
  refine dN M ?_;clear M;intro v dW u;subst u;intro Y aC
  cases cl with
  |nil=>cases(show _=[] from O)
  |cons y t=>
   refine dN O ?_;clear O;intro e4 Yj q bR dL
   cases q
   exact hJ e (fun a c bz hc e=>cG e (by(refine B (aB Y bR bz) ?_;refine B (ih aC dL hc) ?_);rfl)) Z
theorem Og (n:Nat):∀{x y:H} {v:Value} {b:Bool},bY w CM ρ x v->bY w CM ρ y v->eP n x y=some b->b=true:=by
 induction n with
 |zero=>intro x y v b _ _ e;exact Z e
 |succ n ih=>
  intro x y v b ae aQ e
  revert ae aQ
  refine xR e (fun _ _=>rfl) (fun i ae aQ=> ?_) (fun i ae aQ=> ?_) (fun i j ae aQ=> ?_) (fun i j ae aQ=> ?_) (fun i j b e ae aQ=> ?_) (fun i j b aq e ae aQ=> ?_) (fun i j aq ae aQ=> ?_)
  ·rw [show v=.none from ae] at aQ;obtain⟨u,q⟩:=aQ;cases q
  ·rw [show v=.none from aQ] at ae;obtain⟨u,q⟩:=ae;cases q
  ·obtain⟨t,rfl⟩:=ae;obtain⟨u,q⟩:=aQ;injection q with q;refine B q ?_;exact beq_self_eq_true _
  ·obtain⟨t,rfl⟩:=ae;obtain⟨u,q⟩:=aQ;injection q with q;refine B q ?_;exact beq_self_eq_true _
  ·obtain⟨a,vs,k,rfl,M,O⟩:=ae
   obtain⟨jk,c3,cX,q,Y,aC⟩:=aQ
   cases q;replace Y:=M▸Y;cases Y
   exact Cg ih i O aC e
  ·obtain⟨a,vs,k,rfl,M,O⟩:=ae
   obtain⟨jk,c3,cX,q,Y,aC⟩:=aQ
   cases q;replace Y:=M▸Y;cases Y
   exact Cg ih i O aC e
  ·obtain⟨a,vs,k,rfl,M,O⟩:=ae
   obtain⟨jk,c3,cX,q,Y,aC⟩:=aQ
   cases q;replace Y:=M▸Y;cases Y
   exact absurd (O.length.symm.trans aC.length) aq
theorem v8 {per:List H} (ap:cM w CM K ρ s per) (n:Nat):∀{A:Around} {x y:H} {v u:Value} {b:Bool},A.units+n<cLine->bY w CM ρ x v->bY w CM ρ y u->eP n x y=some b->EqAt A s v u b:=by
 induction n with
 |zero=>intro A x y v u b _ _ _ e;exact Z e
 |succ n ih=>
  intro A x y v u b b2 ae aQ e
  by_cases q0:v=u
  ·rw [<-q0] at aQ|-
   refine B (Og (n+1) ae aQ e) ?_
   exact EqAt.same v
  have sT:A.in1.units+n<cLine:=by(refine B (Around.in1_units _) ?_;refine B (Nat.add_assoc _ _ _) ?_;refine B (Nat.add_comm 1 _) ?_);exact b2
  have jp:A.units<cLine:=Nat.lt_of_le_of_lt (Nat.le_add_right _ _) b2
  revert ae aQ
  refine xR e (fun ae aQ=> ?_) (fun i ae aQ=> ?_) (fun i ae aQ=> ?_) (fun i j ae aQ=> ?_) (fun i j ae aQ=> ?_) (fun i j b e ae aQ=> ?_) (fun i j b aq e ae aQ=> ?_) (fun i j aq ae aQ=> ?_)
  ·exact absurd ((show v=.none from ae).trans (show u=.none from aQ).symm) q0
  ·refine B (show v=.none from ae) ?_;obtain⟨dW,rfl⟩:=aQ;exact EqAt.none_int _ _
  ·refine B (show u=.none from aQ) ?_;obtain⟨dW,rfl⟩:=ae;exact EqAt.int_none _ _
  ·obtain⟨t,rfl⟩:=ae;obtain⟨dW,rfl⟩:=aQ;exact EqAt.int_int _ _ _ _
  ·obtain⟨t,rfl⟩:=ae;obtain⟨dW,rfl⟩:=aQ;exact EqAt.str_str _ _ _ _
  ·obtain⟨a,vs,k,rfl,M,O⟩:=ae
   obtain⟨jk,c3,cX,rfl,Y,aC⟩:=aQ
   obtain⟨zN,ak,ar⟩:=tF i e
   exact EqAt.of_refs (fun q=>q0 (by(refine B q ?_;rfl))) (Ei O aC ar▸RcAt.tuples (lD (ap.bL _ _ M)) (lD (ap.bL _ _ Y)) jp (ux O aC ak (ih sT)))
  ·obtain⟨a,vs,k,rfl,M,O⟩:=ae
   obtain⟨jk,c3,cX,rfl,Y,aC⟩:=aQ
   obtain⟨zN,ak,ar⟩:=tF i e
   exact EqAt.of_refs (fun q=>q0 (by(refine B q ?_;rfl))) (Gw O aC aq ar▸RcAt.lists (fy (ap.bL _ _ M)) (fy (ap.bL _ _ Y)) (O.length.trans (aq.trans aC.length.symm)) jp (ux O aC ak (ih sT)))
  ·obtain⟨a,vs,k,rfl,M,O⟩:=ae
   obtain⟨jk,c3,cX,rfl,Y,aC⟩:=aQ
   exact EqAt.of_refs (fun q=>q0 (by(refine B q ?_;rfl))) (RcAt.lists_lengths (fy (ap.bL _ _ M)) (fy (ap.bL _ _ Y)) (bne_iff_ne.mpr fun q=>aq (O.length.symm.trans (Eq.trans q aC.length))) jp)
noncomputable def zA (w:World) (A:Around) (s:Shared) (v u:Value) (b:Bool):Prop:=
 (∀(E:Value->Shared->Prop) (Q:Value->Shared->Prop),Q (.bool b) s->wpAny (model aw w) A (compareOp .Eq v u) Q E s)/\∀(E:Value->Shared->Prop) (Q:Value->Shared->Prop),Q (.bool (!b)) s->wpAny (model aw w) A (compareOp .NotEq v u) Q E s
theorem zA.of {v u:Value} {b:Bool} (h:RcAt A s v u b) (h':RcNeAt A s v u (!b)):zA w A s v u b:=⟨fun E Q q=>h aw w E Q q,fun E Q q=>h' aw w E Q q⟩
theorem IP {i j:List (al×H)} {b:Bool} (h:zX i j=some b):(i.length=j.length->i=[])/\b=(i.length==j.length):=by
 cases i with
 |nil=>cases j<;>exact⟨fun _=>rfl,(Option.some.inj h).symm⟩
 |cons _ _=>cases j with
  |nil=>exact⟨fun q=>(nomatch q),(Option.some.inj h).symm⟩
  |cons _ _=>exact Z h
theorem Dr {per:List H} (ap:cM w CM K ρ s per) {A:Around} {x y:H} {v u:Value} {b:Bool} (b2:A.units+eG<cLine) (ae:cv w CM ρ s x v) (aQ:cv w CM ρ s y u) (e:tw x y=some b):zA w A s v u b:=by
 have jp:A.units<cLine:=Nat.lt_of_le_of_lt (Nat.le_add_right _ _) b2
 have sT:A.in1.units+31<cLine:=by(refine B (Around.in1_units _) ?_;refine B (Nat.add_assoc _ _ _) ?_);exact b2
 refine QL e (fun i j ak ar h=> ?_) (fun e=> ?_)
 ·obtain⟨M,O⟩:=IP h
  obtain⟨a,u7,rfl,bz,lC,lR⟩:=cv.V ap (ak▸ae)
  obtain⟨jk,xS,rfl,kC,F9,Ab⟩:=cv.V ap (ar▸aQ)
  have EH:∀jT,u7.length=xS.length->KeqHits (K:=al) jT s xS u7 true:=fun jT q=>by
   refine B (show u7=[] from List.eq_nil_of_length_eq_zero (by rw [lR.length,M (lR.length.symm.trans (q.trans Ab.length))];rfl)) ?_;exact .nil
  have ah:b=(u7.length==xS.length&&true):=by(refine B O ?_;refine B lR.length ?_;refine B Ab.length ?_;refine B (Bool.and_true _) ?_;rfl)
  refine B ah ?_
  exact⟨fun E Q q=>keq_eq bz kC lC F9 jp (EH _) q,fun E Q q=>keq_ne bz kC lC F9 jp (EH _) q⟩
 ·revert ae aQ
  refine xR (show eP (31+1) x y=some b from e) (fun ae aQ=> ?_) (fun i ae aQ=> ?_) (fun i ae aQ=> ?_) (fun i j ae aQ=> ?_) (fun i j ae aQ=> ?_) (fun i j b e ae aQ=> ?_) (fun i j b aq e ae aQ=> ?_) (fun i j aq ae aQ=> ?_)
  ·(refine B ae.none ?_;refine B aQ.none ?_);exact .of (RcAt.none_none) (RcNeAt.none_none)
  ·refine B ae.none ?_;obtain⟨dW,rfl⟩:=aQ.int;exact .of (RcAt.none_int _ _) (RcNeAt.none_int _ _)
  ·refine B aQ.none ?_;obtain⟨dW,rfl⟩:=ae.int;exact .of (RcAt.int_none _ _) (RcNeAt.int_none _ _)
  ·obtain⟨t,rfl⟩:=ae.int;obtain⟨dW,rfl⟩:=aQ.int;exact .of (RcAt.int_int _ _ _ _) (RcNeAt.int_int _ _ _ _)
  ·obtain⟨t,rfl⟩:=ae.str;obtain⟨dW,rfl⟩:=aQ.str;exact .of (RcAt.str_str _ _ _ _) (RcNeAt.str_str _ _ _ _)
  ·obtain⟨a,vs,k,rfl,M,O⟩:=ae.aF ap
   obtain⟨jk,c3,cX,rfl,Y,aC⟩:=aQ.aF ap
   obtain⟨zN,ak,ar⟩:=tF i e
   have aX:=ux O aC ak (v8 ap 31 sT)
   refine bt (Ei O aC ar) ?_
   exact .of (RcAt.tuples (lD M) (lD Y) jp aX) (RcNeAt.tuples (lD M) (lD Y) jp aX)
  ·obtain⟨a,vs,k,rfl,M,O⟩:=ae.am ap
   obtain⟨jk,c3,cX,rfl,Y,aC⟩:=aQ.am ap
   obtain⟨zN,ak,ar⟩:=tF i e
   have aX:=ux O aC ak (v8 ap 31 sT)
   have dv:(Array.mk vs).size=(Array.mk c3).size:=O.length.trans (aq.trans aC.length.symm)
   refine bt (Gw O aC aq ar) ?_
   exact .of (RcAt.lists (fy M) (fy Y) dv jp aX) (RcNeAt.lists (fy M) (fy Y) dv jp aX)
  ·obtain⟨a,vs,k,rfl,M,O⟩:=ae.am ap
   obtain⟨jk,c3,cX,rfl,Y,aC⟩:=aQ.am ap
   have dv:((Array.mk vs).size !=(Array.mk c3).size)=true:=bne_iff_ne.mpr fun q=>aq (O.length.symm.trans (Eq.trans q aC.length))
   exact .of (RcAt.lists_lengths (fy M) (fy Y) dv jp) (RcNeAt.lists_lengths (fy M) (fy Y) dv jp)
theorem Ho {x:Str} (l:List H):∀{b:Bool} {vs:List Value},a8 w CM ρ l vs->y2 x l=some b->(∀y∈vs,∃z t,y=.str z t)/\b=vs.any (fun y=>match y with|.str z _=>decide (z=x)|_=>false):=by
 induction l with
 |nil=>intro b vs h q;refine B (show vs=[] from h) ?_;exact⟨fun y aQ=>(nomatch aQ),(Option.some.inj q).symm⟩
 |cons y r ih=>
  intro b vs h q
  refine bG q (fun z hz q=> ?_) Z
  replace h:=(yj hz)▸h
  obtain⟨v,t,rfl,⟨tk,rfl⟩,O⟩:=h
  refine ba (Option.map_eq_some_iff.mp q) ?_;intro c hc u;subst u
  refine cm (ih O hc) ?_;intro Y aC
  refine⟨fun y aQ=> ?_,?_⟩
  ·rcases List.mem_cons.mp aQ with rfl|aQ
   ·exact⟨_,_,rfl⟩
   ·exact Y y aQ
  ·(refine B List.any_cons ?_;refine B aC ?_;rfl)
theorem bY.fP {x:H} {v:Value} (q:bY w CM ρ x v):(v==.none)=fP x:=by
 cases x with
 |none=>refine B (show v=.none from q) ?_;rfl
 |bool _=>refine B (show v=_ from q) ?_;rfl
 |int _=>exact q.elim fun t h=>by refine B h ?_;rfl
 |str _=>exact q.elim fun t h=>by refine B h ?_;rfl
 |aF _=>obtain⟨a,vs,n,h,_⟩:=q;refine B h ?_;rfl
 |am _=>obtain⟨a,vs,n,h,_⟩:=q;refine B h ?_;rfl
 |V _=>obtain⟨a,_,_,_,_,h,_⟩:=q;refine B h ?_;rfl
 |dV _ _=>obtain⟨a,_,_,_,h,_⟩:=q;refine B h ?_;rfl
 |per _=>obtain⟨a,h,_⟩:=q;refine B h ?_;rfl
theorem cv.fP {x:H} {v:Value} (q:cv w CM ρ s x v):(v==.none)=fP x:=by
 cases q with
 |gf h=>exact bY.fP h
 |«at» a ay h=>
  refine B ay ?_
  cases x<;>first|exact h.elim|rfl
theorem cv.key {x:H} {v:Value} {k:al} (q:cv w CM ρ s x v) (h:f8 x=some k):ix k v=true:=by
 cases x with
 |int i=>cases h;obtain⟨t,rfl⟩:=q.int;exact S3 i t
 |str i=>cases h;obtain⟨t,rfl⟩:=q.str;exact Fl i t
 |_=>cases h
theorem Sq {bW:CmpOp} {x y:H} {v u:Value} {b:Bool} (q:eK bW x y=some b) (b2:A.units+eG<cLine) (I:aK w CM K env J ρ s fs) (ae:cv w CM ρ s x v) (aQ:cv w CM ρ s y u):
  wpAny (model aw w) A (compareOp bW v u) (b4 w CM K env J ρ s fs (.U (.bool b)) fs) cf s:=by
 have cJ:∀{c:Bool},c=b->b4 w CM K env J ρ s fs (.U (.bool b)) fs (.bool c) s:=fun h=>h▸eu (tk:=s.toks) I rfl
 have Cx:∀{c:Bool},c=b->b4 w CM K env J ρ s fs (.U (.bool b)) fs (.bool c) {s with toks:=s.toks+1}:=fun h=>h▸eu I rfl
 have c8:∀{f:Int->Int->Bool},(fk (fW x) (fW y) fun i j=>some (f i j))=some b->∃i j t dW,v=.int i t/\u=.int j dW/\f i j=b:=fun q=>
  hJ q (fun i j M O q=>(cv.int (jP M▸ae)).elim fun t e=>(cv.int (jP O▸aQ)).elim fun dW ci=>⟨i,j,t,dW,e,ci,Option.some.inj q⟩) Z
 cases bW with
 |Lt=>obtain⟨i,j,t,dW,rfl,rfl,q⟩:=c8 q;exact PyProof.Rows.lt_int (cJ q)
 |LtE=>obtain⟨i,j,t,dW,rfl,rfl,q⟩:=c8 q;exact PyProof.Rows.le_int (cJ q)
 |Gt=>obtain⟨i,j,t,dW,rfl,rfl,q⟩:=c8 q;exact PyProof.Rows.gt_int (cJ q)
 |GtE=>obtain⟨i,j,t,dW,rfl,rfl,q⟩:=c8 q;exact PyProof.Rows.ge_int (cJ q)
 |Eq=>exact(Dr I.base b2 ae aQ q).1 _ _ (cJ rfl)
 |NotEq=>exact(Option.map_eq_some_iff.mp q).elim fun c e=>(Dr I.base b2 ae aQ e.1).2 _ _ (cJ e.2)
 |Is=>
  refine cK q (fun h q=> ?_) Z
  have aQ:cv w CM ρ s .none u:=wg h▸aQ
  refine B aQ.none ?_
  exact is_none (cJ (ae.fP.trans (Option.some.inj q)))
 |IsNot=>
  refine cK q (fun h q=> ?_) Z
  have aQ:cv w CM ρ s .none u:=wg h▸aQ
  refine B aQ.none ?_
  exact isNot_none (cJ (by refine B ae.fP ?_;exact Option.some.inj q))
 |In=>
  cases y with
  |V l=>
   refine ba (Option.map_eq_some_iff.mp q) ?_;intro k ag u;subst u
   refine gn (aQ.V I.base) ?_;intro a aS u;subst u;intro bz lC lR
   exact wpAny_in_of (knd:=kk w) (ae.key ag) bz lC.mapOf (Cx lR.isSome)
  |aF l=>
   refine bG q (fun z hz q=> ?_) Z
   obtain⟨t,rfl⟩:=cv.str (yj hz▸ae)
   refine dG (aQ.aF I.base) ?_;intro a vs n u;subst u;intro M O
   refine cm (Ho l O q) ?_;intro Y aC
   refine PySem.SeqAt.in_tupleAt _ (lD M) (fun y aQ=> ?_) (cJ (by refine B aC ?_;simp;rfl))
   obtain⟨z,dW,rfl⟩:=Y y (by simpa using aQ)
   exact EqAt.str_str _ _ _ _
  |_=>exact Z q
 |NotIn=>
  refine bG q (fun l aq q=> ?_) Z
  refine ba (Option.map_eq_some_iff.mp q) ?_;intro k ag u;subst u
  refine gn (cv.V I.base (y3 aq▸aQ)) ?_;intro a aS u;subst u;intro bz lC lR
  exact wpAny_notIn_of (knd:=kk w) (ae.key ag) bz lC.mapOf (Cx (by(refine B lR.isSome ?_;rfl)))
end
end Mine
end
section
open PySem PySem.W PySem.Calls PyProof.Rows
namespace Mine
section
variable{w:World} {CM:cp} {K:Top} {env:Env} {J:Scope} {A:Around} {ρ ρ₀ ρ':a5} {s db az:Shared} {fs fs':X} {R:bk}
theorem M0 {c:Const} {k:Nat} {pos:Pos} {r:aV} (q:CZ c fs=some (r,fs')) (I:aK w CM K env J ρ s fs):wpAny (model aw w) A (eval (.Constant c k pos) env) (b4 w CM K env J ρ s fs r fs') cf s:=by
 cases c with
 |none=>exact b7 q (wpAny_Constant_none (eu (tk:=s.toks) I rfl))
 |bool b=>exact b7 q (wpAny_Constant_bool (eu (tk:=s.toks) I rfl))
 |int i=>exact b7 q (wpAny_Constant_int (eu I ⟨_,rfl⟩))
 |str x=>exact b7 q (wpAny_Constant_str (eu I ⟨_,rfl⟩))
 |_=>exact Z q
theorem Ot {x:Str} {pos:Pos} {bh:cg} (q:getL x fs.loc=some bh) (hd:(x==("__debug__":Str))=false) (I:aK w CM K env J ρ s fs):
  wpAny (model aw w) A (eval (.Name x pos) env) (b4 w CM K env J ρ s fs (v1 x bh) fs) cf s:=by
 refine ba (I.eZ x bh q) ?_;intro v M O
 have cJ:b4 w CM K env J ρ s fs (v1 x bh) fs v s:=by
  refine⟨ρ,I,a2.refl ..,ce.refl ..,?_⟩
  cases bh with
  |U y=>exact O
  |aD y=>obtain⟨a,Y,aC⟩:=O;exact⟨a,Y,.inl aC⟩
 rcases M with⟨bV,cD,m,cZ,dX⟩|⟨bV,cD,c,cZ,dX⟩
 ·exact wpAny_Name (wpAny_loadName_local I.c2.kind cD cZ dX cJ) hd
 ·exact wpAny_Name (wpAny_loadName_cell I.c2.kind cD cZ dX cJ) hd
theorem Wn (S:cC w CM K env J A R) {pos:Pos} (es:List Expr):∀{b:Bool} {fs fs':X} {ρ:a5} {s:Shared},oR R es fs=some (b,fs')->aK w CM K env J ρ s fs->
  wpAny (model aw w) A (boolOp pos .And (evalEach es env)) (b4 w CM K env J ρ s fs (.U (.bool b)) fs') cf s:=by
 induction es with
 |nil=>intro b fs fs' ρ s q I;exact Z q
 |cons e es ih=>
  intro b fs fs' ρ s q I
  refine FW q (fun gj fs₁ bw q=> ?_) Z
  cases es with
  |nil=>exact b7 (show some (gj,fs₁)=some (b,fs') by cases gj<;>exact q) (S.a9 e fs _ fs₁ bw ρ s I)
  |cons ci es=>
   show wpAny _ A (eval e env>>=fun v=>standAt pos>>=fun _=>holding [v] (truthy v)>>=fun t=>match BoolOp.And,t with
    |.And,false|.Or,true=>pure v
    |_,_=>boolOp pos .And (evalEach (ci::es) env)) _ _ s
   refine wpAny_bind (S.eM bw I fun v aj aN aZ a0 bv aP=> ?_)
   refine B (show v=.bool gj from aP) ?_
   refine wpAny_bind (wpAny_standAt (wpAny_bind (wpAny_holding (wpAny_truthy_bool ?_))))
   cases gj with
   |false=>exact b7 (show some (false,fs₁)=some (b,fs') from q) (wpAny_pure ⟨aN,aZ,a0,bv,rfl⟩)
   |true=>exact iB a0 bv (ih q aZ)
theorem L1 (S:cC w CM K env J A R) {bW:BoolOp} (es:List Expr):∀{b:Bool} {fs fs':X} {ρ:a5} {s:Shared},wV R bW es fs=some (b,fs')->aK w CM K env J ρ s fs->
  wpAny (model aw w) A (allTrue bW es env) (kj w CM K env J ρ s fs b fs') cf s:=by
 induction es with
 |nil=>
  intro b fs fs' ρ s q I
  refine b7 q ?_
  cases bW
  ·exact wpAny_allTrue_And_nil ⟨rfl,ρ,I,a2.refl ..,ce.refl ..⟩
  ·exact wpAny_allTrue_Or_nil ⟨rfl,ρ,I,a2.refl ..,ce.refl ..⟩
 |cons e es ih=>
  intro b fs fs' ρ s q I
  refine b6 q (fun gj fs₁ bw q=> ?_) Z
  cases bW<;>cases gj
  ·refine wpAny_allTrue_And_cons (S.mg bw I fun aj aN aZ a0 bv=> ?_);exact b7 (show some (false,fs₁)=some (b,fs') from q) ⟨rfl,aN,aZ,a0,bv⟩
  ·exact wpAny_allTrue_And_cons (S.mg bw I fun aj aN aZ a0 bv=>sr a0 bv (ih q aZ))
  ·exact wpAny_allTrue_Or_cons (S.mg bw I fun aj aN aZ a0 bv=>sr a0 bv (ih q aZ))
  ·refine wpAny_allTrue_Or_cons (S.mg bw I fun aj aN aZ a0 bv=> ?_);exact b7 (show some (true,fs₁)=some (b,fs') from q) ⟨rfl,aN,aZ,a0,bv⟩
theorem Ma (S:cC w CM K env J A R) {bW:CmpOp} {e:Expr} {p:aV×X} (q:R.a9 e fs=some p):behindInMarks bW e=false:=by
 cases e with
 |Set es k p=>exact Z ((S.set es k p fs).symm.trans q)
 |_=>rfl
theorem t5 (b2:A.units+eG<cLine) {aN:a5} {aj:Shared} {fs₁:X} {bW:CmpOp} {left r:aV} {x y:H} {bh fn:Value} {c:Bool} {Q E:Value->Shared->Prop} (hc:eK bW x y=some c) (aq:eN w CM ρ₀ ρ s fs left bh)
  (ae:fs₁.cE left=some x) (aQ:fs₁.cE r=some y) (aZ:aK w CM K env J aN aj fs₁) (a0:a2 ρ s aN aj) (bv:ce ρ fs.loc aN fs₁.loc) (aP:eN w CM ρ aN aj fs₁ r fn)
  (k:∀cu b9,aK w CM K env J b9 cu fs₁->a2 ρ s b9 cu->ce ρ fs.loc b9 fs₁.loc->eN w CM ρ b9 cu fs₁ r fn->Q (.bool c) cu):wpAny (model aw w) A (compareOp bW bh fn) Q E aj:=
 I3 (Sq hc b2 aZ (hT aZ (aq.bu a0 bv) ae) (hT aZ aP aQ)) fun v cu b9 cP ca dH h=>by
  refine B (show v=.bool c from h) ?_;exact k cu b9 cP (a0.trans ca) (bv.trans dH) (aP.bu ca dH)
theorem Ca (S:cC w CM K env J A R) (b2:A.units+eG<cLine) {pos:Pos} (e0:List CmpOp):∀{ρ₀:a5} {es:List Expr} {left:aV} {b:Bool} {fs fs':X} {ρ:a5} {s:Shared} {bh:Value},sQ R left e0 es fs=some (b,fs')->aK w CM K env J ρ s fs->
  eN w CM ρ₀ ρ s fs left bh->
  wpAny (model aw w) A (compareChain pos bh e0 (markedEach e0 es (evalEach es env))) (b4 w CM K env J ρ s fs (.U (.bool b)) fs') cf s/\
  wpAny (model aw w) A (testChain pos bh e0 (markedEach e0 es (evalEach es env))) (kj w CM K env J ρ s fs b fs') cf s:=by
 induction e0 with
 |nil=>intro ρ₀ es left b fs fs' ρ s bh q;exact Z q
 |cons bW e0 ih=>
  intro ρ₀ es left b fs fs' ρ s bh q I aq
  cases es with
  |nil=>exact Z q
  |cons e es=>
   refine b6 q (fun r fs₁ bw q=>hJ q (fun x y ae aQ q=>bG q (fun c hc q=> ?_) Z) Z) Z
   cases e0 with
   |nil=>
    cases es with
    |cons _ _=>exact Z q
    |nil=>
     refine b7 (show some (c,fs₁)=some (b,fs') from q) ?_
     refine B (show markedEach [bW] [e] (evalEach [e] env)=[eval e env] by show [markedBehindIn bW e (eval e env)]=_;rw [markedBehindIn_of_false (Ma S bw)]) ?_
     constructor
     ·show wpAny _ A (holding [bh] (eval e env)>>=fun fn=>standAt pos>>=fun _=>operate [bh,fn] (compareOp bW bh fn)) _ _ s
      exact wpAny_bind (wpAny_holding (S.eM bw I fun fn aj aN aZ a0 bv aP=>wpAny_bind (wpAny_standAt (wpAny_operate' (t5 b2 hc aq ae aQ aZ a0 bv aP fun cu b9 cP ca dH _=>⟨b9,cP,ca,dH,rfl⟩)))))
     ·show wpAny _ A (holding [bh] (eval e env)>>=fun fn=>standAt pos>>=fun _=>operate [bh,fn] (compareOp bW bh fn)>>=fun c=>holding [c] (truthy c)) _ _ s
      exact wpAny_bind (wpAny_holding (S.eM bw I fun fn aj aN aZ a0 bv aP=>wpAny_bind (wpAny_standAt (wpAny_bind (wpAny_operate' (t5 b2 hc aq ae aQ aZ a0 bv aP fun cu b9 cP ca dH _=>wpAny_holding (wpAny_truthy_bool ⟨rfl,b9,cP,ca,dH⟩)))))))
   |cons kW e0=>
    cases es with
    |nil=>exact Z q
    |cons ci es=>
     have q:br (uP r) (fun v=>if c=true then sQ R (.U v) (kW::e0) (ci::es) fs₁ else some (false,fs₁))=some (b,fs'):=q
     refine bG q (fun v ay q=> ?_) Z
     rw [Go ay] at bw aQ
     refine B (show markedEach (bW::kW::e0) (e::ci::es) (evalEach (e::ci::es) env)=eval e env::markedEach (kW::e0) (ci::es) (evalEach (ci::es) env) from rfl) ?_
     constructor
     ·show wpAny _ A (holding [bh] (eval e env)>>=fun fn=>standAt pos>>=fun _=>holding [bh,fn] (compareOp bW bh fn)>>=fun c=>release [bh,fn] [c]>>=fun _=>holding [c,fn] (truthy c)>>=fun t=>if t=true then compareChain pos fn (kW::e0) _ else pure c) _ _ s
      refine wpAny_bind (wpAny_holding (S.eM bw I fun fn aj aN aZ a0 bv aP=>wpAny_bind (wpAny_standAt (wpAny_bind (wpAny_holding (t5 b2 hc aq ae aQ aZ a0 bv aP fun cu b9 cP ca dH od=>wpAny_bind (PyProof.Rows.wpAny_release' (wpAny_bind (wpAny_holding (wpAny_truthy_bool ?_))))))))))
      cases c with
      |true=>exact iB ca dH (ih ((if_pos rfl).symm.trans q) cP od).1
      |false=>exact b7 (show some (false,fs₁)=some (b,fs') from q) (wpAny_pure ⟨b9,cP,ca,dH,rfl⟩)
     ·show wpAny _ A (holding [bh] (eval e env)>>=fun fn=>standAt pos>>=fun _=>holding [bh,fn] (compareOp bW bh fn)>>=fun c=>release [bh,fn] [c]>>=fun _=>holding [c,fn] (truthy c)>>=fun t=>if t=true then testChain pos fn (kW::e0) _ else pure false) _ _ s
      refine wpAny_bind (wpAny_holding (S.eM bw I fun fn aj aN aZ a0 bv aP=>wpAny_bind (wpAny_standAt (wpAny_bind (wpAny_holding (t5 b2 hc aq ae aQ aZ a0 bv aP fun cu b9 cP ca dH od=>wpAny_bind (PyProof.Rows.wpAny_release' (wpAny_bind (wpAny_holding (wpAny_truthy_bool ?_))))))))))
      cases c with
      |true=>exact sr ca dH (ih ((if_pos rfl).symm.trans q) cP od).2
      |false=>exact b7 (show some (false,fs₁)=some (b,fs') from q) (wpAny_pure ⟨rfl,b9,cP,ca,dH⟩)
theorem Ou {l:List H} {vs:List Value} (h:a8 w CM ρ l vs):vs.isEmpty=l.isEmpty:=by
 have:=h.length
 cases vs<;>cases l<;>first|rfl|exact(nomatch this)
theorem Nw {x:H} {v:Value} {b:Bool} (q:Hf x=some b) (I:aK w CM K env J ρ s fs) (h:cv w CM ρ s x v):wpAny (model aw w) A (truthy v) (kj w CM K env J ρ s fs b fs) cf s:=by
 cases x with
 |bool c=>
  refine B h.bool ?_
  exact cG q (wpAny_truthy_bool ⟨rfl,ρ,I,a2.refl ..,ce.refl ..⟩)
 |am l=>
  refine cK q (fun hz q=>cG q ?_) Z
  refine dG (h.am I.base) ?_;intro a vs n u;subst u;intro M O
  refine wpAny_truthy_list (fy M) ?_ ⟨?_,ρ,I.tok,a2.tok,ce.refl ..⟩
  ·refine B (show(Array.mk vs).size=l.length from O.length) ?_;exact Int.ofNat_lt.mpr (Nat.lt_of_le_of_lt hz (by decide))
  ·refine bt (Ou O) ?_;cases vs<;>rfl
 |_=>exact Z q
end
end Mine
end
section
open PySem PySem.W PySem.Calls PyProof.Rows
namespace Mine
structure yJ (CM:cp) (K:Frag):Prop where
 sS:∀c C a,CM c=some C->ql c a=true->hasDictIn K C=true/\plainGet K C a=true/\∃oZ,findIn K (.ref C) a=some oZ/\noGet K oZ=true
section
variable{w:World} {CM:cp} {K:Top} {env:Env} {J:Scope} {A:Around} {ρ ρ₀ ρ':a5} {s db az:Shared} {fs fs':X} {R:bk}
theorem cM.hL {per:List H} {a:Addr} {h':Heap} {tk:Nat} (ap:cM w CM K ρ s per) (hd:ρ a=.aU) (hs:Heap.SameBut a s.heap h') (aq:h'.get? a≠none):cM w CM K ρ {s with heap:=h',toks:=tk} per where
 fV:=ap.fV
 fC:=ap.fC
 fl:=fun b e=>let⟨M,o,O,Y⟩:=ap.fl b e;⟨M,o,(hs.2 b (fun q=>by subst q;replace M:=hd▸M;exact M)).trans O,Y⟩
 bL:=fun b ob e=>(hs.2 b (d6 e hd)).trans (ap.bL b ob e)
 c0:=fun b=>by
  by_cases q:b=a
  ·subst q;refine B hd ?_;exact⟨fun e=>(nomatch e),fun e=>absurd e aq⟩
  ·show ρ b=.free↔h'.get? b=none
   refine B (hs.2 b q) ?_;exact ap.c0 b
 gh:=ap.gh
 fT:=fun b k e=>let⟨x,M,O⟩:=ap.fT b k e;⟨x,M,O.bu (fun _ _ q=>q) (fun _ _ q=>q) fun ob q=>(hs.2 b (d6 e hd)).trans q⟩
 inj:=ap.inj
theorem aK.hL {a:Addr} {h':Heap} {tk:Nat} (I:aK w CM K env J ρ s fs) (hd:ρ a=.aU) (eD:∀x c,J.names.lookup x=some .free->env.cells.lookup x=some c->c≠a) (hs:Heap.SameBut a s.heap h') (aq:h'.get? a≠none):
  aK w CM K env J ρ {s with heap:=h',toks:=tk} fs where
 base:=I.base.hL hd hs aq
 c2:=I.c2
 cL:=I.cL
 fv:=let⟨m,e⟩:=I.fv;⟨m,e.sameBut hs (d6 I.cL hd)⟩
 eZ:=fun x bh e=>by
  refine ba (I.eZ x bh e) ?_;intro v M O
  refine⟨v,?_,O⟩
  rcases M with⟨bV,cD,m,cZ,dX⟩|⟨bV,cD,c,cZ,dX⟩
  ·exact .inl ⟨bV,cD,m,cZ.sameBut hs (d6 I.cL hd),dX⟩
  ·refine .inr ⟨bV,cD,c,cZ,dX.sameBut hs ?_⟩
   rcases bV with bV|bV
   ·intro q
    refine dN (I.cells x bV) ?_;intro c' e4 cS dA _
    replace cS:=cZ▸cS;cases cS
    (replace dA:=q▸dA;replace dA:=hd▸dA);cases dA
   ·exact eD x c bV cZ
 cells:=fun x e=>let⟨c,v,M,O,Y,aC⟩:=I.cells x e;⟨c,v,M,O,Y,aC.sameBut hs (d6 O hd)⟩
 frees:=I.frees
 apart:=I.apart
 eX:=fun b x e=>let⟨aL,c,M,O⟩:=I.eX b x e;⟨aL,c,M,O.bu (fun _ _ q=>q) (fun _ _ q=>q) fun ob q=>(hs.2 b (d6 e hd)).trans q⟩
 fq:=I.fq
theorem a2.hL {a:Addr} {h':Heap} {tk:Nat} (av:a2 ρ₀ db ρ s) (aL:ρ₀ a=.free) (hs:Heap.SameBut a s.heap h'):a2 ρ₀ db ρ {s with heap:=h',toks:=tk} where
 bL:=av.bL
 aU:=av.aU
 per:=av.per
 cL:=av.cL
 ff:=av.ff
 stk:=av.stk
 aD:=av.aD
 keep:=fun b ob e q=>(hs.2 b (d6 e aL)).trans (av.keep b ob e q)
 ig:=fun b ob e q=>let⟨f6,ci⟩:=av.ig b ob e q;⟨f6,(hs.2 b (d6 e aL)).trans ci⟩
 ao:=by obtain⟨h,tk,rfl⟩:=av.ao;exact⟨h',_,rfl⟩
theorem bY.Ph {x:H} {v:Value} (q:bY w CM ρ x v):handedIn v=true:=by
 cases x with
 |none=>refine B (show v=.none from q) ?_;rfl
 |bool _=>refine B (show v=_ from q) ?_;rfl
 |int _=>exact q.elim fun t h=>by refine B h ?_;rfl
 |str _=>exact q.elim fun t h=>by refine B h ?_;rfl
 |aF _=>obtain⟨a,vs,n,h,_⟩:=q;refine B h ?_;rfl
 |am _=>obtain⟨a,vs,n,h,_⟩:=q;refine B h ?_;rfl
 |V _=>obtain⟨a,_,_,_,_,h,_⟩:=q;refine B h ?_;rfl
 |dV _ _=>obtain⟨a,_,_,_,h,_⟩:=q;refine B h ?_;rfl
 |per _=>obtain⟨a,h,_⟩:=q;refine B h ?_;rfl
theorem L2 (bl:yJ CM K.f) {c a:Str} {l:List (Str×H)} {x:H} {v:Value} (I:aK w CM K env J ρ s fs) (h:bY w CM ρ (.dV c l) v) (bz:ql c a=true) (q:iu a l=some x):
  wpAny (model aw w) A (getAttr v a true) (b4 w CM K env J ρ s fs (.U x) fs) cf s:=by
 obtain⟨ad,d,gZ,C,rfl,M,O,Y,aC,bR⟩:=h
 obtain⟨d8,fG,oZ,hu,kG⟩:=bl.sS c C a M bz
 refine ba (bR.gk q) ?_;intro u ak ar
 have bP:lookIn a gZ=some (some u):=by
  cases e:lookIn a gZ with
  |none=>replace ak:=e▸ak;exact Z ak
  |some y=>replace ak:=e▸ak;(refine B (show y=some u from ak) ?_;rfl)
 have In:InstAt s.heap ad (instObj C d) C (some gZ):=⟨I.base.bL _ _ O,rfl,rfl,I.base.bL _ _ Y⟩
 exact get_value I.in In (plainGet_of fG).1 (findObj_own d8 hu kG bP) (bY.Ph ar) (eu I ar)
theorem Hq {i:Int} {n j:Nat} (h:j8 i n=some j):seqIndex? i n=some j/\j<n:=by
 unfold j8 at h
 unfold seqIndex?
 split at h
 ·rename_i aL
  refine cK h ?_ Z;clear h;intro M h
  refine oa h ?_;clear h;intro u;subst u
  have bF:¬i<0:=by exact Iq aL
  simp only [bF,if_false]
  refine B (if_pos (by simp;exact Sz M bF)) ?_
  exact⟨rfl,M⟩
 ·rename_i aL
  refine cK h ?_ Z;clear h;intro M h
  refine oa h ?_;clear h;intro u;subst u
  have bF:i<0:=by exact TW aL
  simp only [bF,if_true]
  refine B (if_pos (by simp;exact Ua M bF)) ?_
  exact⟨rfl,by exact KP M bF⟩
theorem CH {i:Int} (h:i.natAbs<2^62): -(2:Int)^63<=i:=by exact Kd h
theorem Df {i:Int} (h:i.natAbs<2^62):i<(2:Int)^63:=by exact IV h
theorem QW {a:Addr} {items:Array Value} {i:Int} {t j:Nat} {v:Value} {Q E:Value->Shared->Prop} (dO:s.heap.IsList a items) (aR:i.natAbs<2^62) (hs:j8 i items.size=some j) (ay:items[j]? =some v) (h:Q v s):
  wpAny (model aw w) A (getItem (.ref a) (.int i t)) Q E s:=by
 unfold j8 at hs
 by_cases aL:0<=i
 ·replace hs:=(if_pos aL)▸hs
  exact cK hs (fun _ hs=>wpAny_getItem_list dO aL (Df aR) (Option.some.inj hs▸ay) h) Z
 ·replace hs:=(if_neg aL)▸hs
  exact cK hs (fun M hs=>wpAny_getItem_list_neg dO (Int.not_le.mp aL) (by exact QU M) (CH aR) (Option.some.inj hs▸ay) h) Z
theorem yR {pe:Expr} (h:∀l u p,pe≠.Slice l u none p) (o i:Value):subscripted pe false o i=operate [o,i] (getItem o i):=by
 cases pe<;>try rfl
 rename_i l u ao p
 cases ao with
 |none=>exact absurd rfl (h l u p)
 |some _=>rfl
theorem SY {x k y:H} {o i:Value} {value pe:Expr} (eA:∀l u p,pe≠.Slice l u none p) (q:o5 x k=some y) (I:aK w CM K env J ρ s fs) (ae:cv w CM ρ s x o) (ag:cv w CM ρ s k i):
  wpAny (model aw w) A (subscriptTail value pe o i) (b4 w CM K env J ρ s fs (.U y) fs) cf s:=by
 cases x with
 |am l=>
  refine Ej q fun l7 j e aR bF aQ=> ?_
  replace ag:=e▸ag
  refine bT ag.int ?_;intro t u;subst u
  refine dG (ae.am I.base) ?_;intro a vs n u;subst u;intro M O
  refine ba (O.gk aQ) ?_;intro v Y aC
  have dO:s.heap.IsList a (Array.mk vs):=fy M
  refine tail_any dO.typeIs slot_list_getitem.lookup ?_ (yR eA _ _)
  exact QW dO aR ((congrArg (j8 l7 ·) O.length).trans bF) ((List.getElem?_toArray ..).trans Y) (eu (tk:=s.toks) I aC)
 |aF l=>
  refine Ej q fun l7 j e aR bF aQ=> ?_
  replace ag:=e▸ag
  refine bT ag.int ?_;intro t u;subst u
  refine dG (ae.aF I.base) ?_;intro a vs n u;subst u;intro M O
  refine ba (O.gk aQ) ?_;intro v Y aC
  have dO:IsTup s.heap a (Array.mk vs):=⟨_,M,rfl,n,rfl⟩
  refine tail_any dO.typeIs slot_tuple_getitem.lookup ?_ (yR eA _ _)
  exact PyProof.Rows.getItem_tuple dO (CH aR) (Df aR) ((congrArg (seqIndex? l7 ·) O.length).trans (Hq bF).1) ((List.getElem?_toArray ..).trans Y) (eu (tk:=s.toks) I aC)
 |V l=>
  refine bG q (fun Qo sI q=> ?_) Z
  refine gn (ae.V I.base) ?_;intro a aS u;subst u;intro bz lC lR
  have:=lR.gk (k:=Qo)
  replace this:=q▸this
  refine ba this ?_;clear this;intro v Y aC
  refine tail_any lC.typeIs slot_dict_getitem.lookup ?_ (yR eA _ _)
  exact wpAny_getItem_of (knd:=kk w) (ag.key sI) lC.mapOf Y (eu I aC)
 |_=>exact Z q
theorem AX {α:Type} (l:List α):∀(n a:Nat),((List.range n).map fun k=>a+k).filterMap (fun j=>l[j]?)=(l.drop a).take n
 |0,a=>by simp
 |n+1,a=>by
  (refine B List.range_succ_eq_map ?_;refine B List.map_cons ?_;refine B List.map_map ?_;refine B List.filterMap_cons ?_)
  have e:(List.map ((fun k=>a+k)∘Nat.succ) (List.range n))=(List.range n).map fun k=>(a+1)+k:=List.map_congr_left fun k _=>by simp only [Function.comp];exact TI
  (refine B e ?_;refine B (AX l n (a+1)) ?_)
  by_cases h:a<l.length
  ·have ak:l[a+0]? =some l[a]:=by simp [h]
   (refine B ak ?_;refine B (List.drop_eq_getElem_cons h) ?_)
   rfl
  ·have ak:l[a+0]? =none:=by simp;exact u5 h
   have ar:l.drop a=[]:=List.drop_eq_nil_of_le (by exact u5 h)
   have bP:l.drop (a+1)=[]:=List.drop_eq_nil_of_le (by exact QF h)
   (refine B ak ?_;refine B ar ?_;refine B bP ?_);simp
theorem Ib {α:Type} (l:List α) (a b:Nat):(l.take b).drop a=(l.drop a).take (b-a):=by
 (refine B List.drop_take ?_;rfl)
theorem RO (i:Int) (n:Nat):max 0 (min (if i<0 then i+n else i) (n:Int))=(jL i n:Int):=by
 unfold jL
 by_cases h:i<0
 ·(refine B (if_pos h) ?_;refine B (if_pos h) ?_;refine B (Int.min_eq_left (Int.add_le_of_le_sub_right (by rw [Int.sub_self];exact Int.le_of_lt h))) ?_;refine B (Int.ofNat_toNat _) ?_;refine B (Int.max_comm _ _) ?_;rfl)
 ·(refine B (if_neg h) ?_;refine B (if_neg h) ?_)
  obtain⟨k,rfl⟩:=Int.eq_ofNat_of_zero_le (Int.not_lt.mp h)
  refine B (Int.toNat_natCast _) ?_
  exact(Nat.le_total k n).elim (fun h=>by(refine B (Int.min_eq_left (Int.ofNat_le.mpr h)) ?_;refine B (Nat.min_eq_left h) ?_;refine B (Int.max_eq_right (Int.natCast_nonneg _)) ?_;rfl)) fun h=>by(refine B (Int.min_eq_right (Int.ofNat_le.mpr h)) ?_;refine B (Nat.min_eq_right h) ?_;refine B (Int.max_eq_right (Int.natCast_nonneg _)) ?_;rfl)
theorem R5 {l:List H} {vs:List Value} {c1 aR:Option Int} (h:a8 w CM ρ l vs):a8 w CM ρ (iU l c1 aR) (slicePick (Array.mk vs) c1 aR none).toList:=by
 have bC:=h.length
 have ak:(sliceBounds c1 aR none (Array.mk vs).size)=((vL l.length c1:Int),(vg l.length aR:Int),1):=by
  unfold sliceBounds
  simp only [Option.getD_none,show(1:Int)>0 by decide,if_true,List.size_toArray]
  refine B bC ?_
  cases c1<;>cases aR<;>simp only [vL,vg,<-RO]<;>rfl
 generalize bc:vL l.length c1=a at ak
 generalize pG:vg l.length aR=b at ak
 have ar:iU l c1 aR=(l.drop a).take (b-a):=by
  unfold iU
  (refine B bc ?_;refine B pG ?_)
  exact Ib l a b
 have bP:(slicePick (Array.mk vs) c1 aR none).toList=(vs.drop a).take (b-a):=by
  unfold slicePick
  refine B ak ?_
  dsimp only
  refine B (sliceRange_one _ _) ?_
  have:=AX vs (b-a) a
  simpa using this
 (refine B ar ?_;refine B bP ?_)
 exact(h.drop a).take (b-a)
theorem Dp (S:cC w CM K env J A R) {e:Option Expr} {i:Option Int} {Q E:Value->Shared->Prop} (q:mY R e fs=some (i,fs')) (I:aK w CM K env J ρ s fs)
  (k:∀v az ρ',IsPart v i->aK w CM K env J ρ' az fs'->a2 ρ s ρ' az->ce ρ fs.loc ρ' fs'.loc->Q v az):wpAny (model aw w) A (evalPart e env) Q E s:=by
 cases e with
 |none=>exact b7 (G:=fun i fs'=>(∀v az ρ',IsPart v i->aK w CM K env J ρ' az fs'->a2 ρ s ρ' az->ce ρ fs.loc ρ' fs'.loc->Q v az)->_) q (fun k=>wpAny_evalPart_none (k _ s ρ .none I (a2.refl ..) (ce.refl ..))) k
 |some e=>
  refine Di q (fun j fs₁ bw q=> ?_) Z
  refine wpAny_evalPart_some (S.eM bw I fun v aj aN aZ a0 bv aP=> ?_)
  obtain⟨t,rfl⟩:=aP
  cases q
  exact k _ aj aN (.int j t) aZ a0 bv
theorem QG {l:List H} {vs:List Value} {a b:Option Int} {o:Obj} (I:aK w CM K env J ρ s fs) (O:a8 w CM ρ l vs):
  b4 w CM K env J ρ s fs (.b5 (.am (iU l a b))) fs (.ref (s.heap.push o).objs.size) {s with heap:=(s.heap.push o).push {cls:=.type "list",data:=.seq (slicePick (Array.mk vs) a b none)}}:=by
 refine nI (tk:=s.toks) I (fun b ob e=>Heap.get?_push_of_some _ (Heap.get?_push_of_some _ e)) ?_ ⟨(slicePick (Array.mk vs) a b none).toList,0,Heap.get?_push_size _ rfl,R5 O⟩
 cases e:s.heap.get? (s.heap.push o).objs.size with
 |none=>rfl
 |some ob=>exact absurd (Heap.lt_size e) (by refine B (Heap.size_push _ _) ?_;exact Nat.not_lt.mpr (Nat.le_succ _))
theorem RM (S:cC w CM K env J A R) {e:Expr} {c1 aR:Option Expr} {p pos:Pos} {r r':aV} {a b:Option Int} {fs₁ fs₂ fs₃:X} {l:List H}
  (bZ:R.a9 e fs=some (r,fs₁)) (bn:mY R c1 fs₁=some (a,fs₂)) (ef:mY R aR fs₂=some (b,fs₃)) (ib:fs₃.cE r=some (.am l)) (hz:l.length<=a4) (I:aK w CM K env J ρ s fs):
  wpAny (model aw w) A (eval (.Subscript e (.Slice c1 aR none p) pos) env) (b4 w CM K env J ρ s fs (.b5 (.am (iU l a b))) fs₃) cf s:=by
 refine Subscript_ (S.eM bZ I fun v aj aN aZ a0 bv aP=> ?_)
 refine wpAny_Slice (Dp S bn aZ fun DY cu b9 ju cP ca dH=>Dp S ef cP fun BS jQ jO Se gY eo ku=> ?_)
 have av:a2 ρ s jO jQ:=(a0.trans ca).trans eo
 have dw:ce ρ fs.loc jO fs₃.loc:=(bv.trans dH).trans ku
 refine dG ((hT gY ((aP.bu ca dH).bu eo ku) ib).am gY.base) ?_;intro ad vs n u;subst u;intro M O
 refine wpAny_of_eq (a:=.none) rfl ?_
 have dO:(jQ.heap.push {cls:=.type "slice",data:=.fields #[DY,BS,.none]}).IsList ad (Array.mk vs):=(fy M).push _
 refine tail_any (s:={jQ with heap:=jQ.heap.push {cls:=.type "slice",data:=.fields #[DY,BS,.none]}}) dO.typeIs slot_list_getitem.lookup (wpAny_getItem_list_slice dO (Heap.IsSliceOf.new ..) ju Se .none (by simp) ?_ ?_) rfl
 ·exact b4.trans av dw (QG gY O)
 ·exact Nat.le_trans (Nat.le_of_eq O.length) (Nat.le_trans hz iP)
theorem H2 (S:cC w CM K env J A R) {es:List Expr} {pos:Pos} {xs:List H} (q:dp R es fs=some (xs,fs')) (hz:xs.length<=a4) (I:aK w CM K env J ρ s fs):
  wpAny (model aw w) A (eval (.List es pos) env) (b4 w CM K env J ρ s fs (.b5 (.am xs)) fs') cf s:=by
 exact wpAny_List (FI S q I fun vs aj aN aZ a0 bv aP=>⟨by refine B aP.length ?_;exact Nat.le_trans hz iP,b4.trans a0 bv (nI (tk:=aj.toks) aZ (fun b ob e=>Heap.get?_push_of_some _ e) e8 ⟨vs,0,Heap.get?_push_size _ rfl,aP⟩)⟩)
theorem Lb (S:cC w CM K env J A R) {es:List Expr} {k:Nat} {pos:Pos} {xs:List H} (q:dp R es fs=some (xs,fs')) (hz:xs.length<=a4) (I:aK w CM K env J ρ s fs):
  wpAny (model aw w) A (eval (.Tuple es k pos) env) (b4 w CM K env J ρ s fs (.U (.aF xs)) fs') cf s:=by
 exact wpAny_Tuple (FI S q I fun vs aj aN aZ a0 bv aP=>⟨by refine B aP.length ?_;exact Nat.le_trans hz iP,b4.trans a0 bv (xA (tk:=aj.toks) aZ (fun b ob e=>Heap.get?_push_of_some _ e) e8 (Heap.get?_push_size _ rfl) fun ρ' aB an cq=>⟨_,vs,0,rfl,cq,aP.bu aB an⟩)⟩)
inductive p1 (w:World) (CM:cp) (ρ:a5):List (al×H)->List (Value×Value)->Prop
 |nil:p1 w CM ρ [] []
 |cons {k:al} {x:H} {eJ v:Value} {l:List (al×H)} {vs:List (Value×Value)}:ix k eJ=true->bY w CM ρ x v->p1 w CM ρ l vs->p1 w CM ρ ((k,x)::l) ((eJ,v)::vs)
theorem BZ {k:Option Expr} {ks:List (Option Expr)} {es:List Expr} {l:List (al×H)} {G:Prop} (q:n0 R (k::ks) es fs=some (l,fs'))
  (g:∀n c p e t v fs₁ vs,k=some (.Constant (.str n) c p)->es=e::t->d2 R e fs=some (v,fs₁)->n0 R ks t fs₁=some (vs,fs')->l=(.str n,v)::vs->G):G:=by
 cases es with
 |nil=>exact Z q
 |cons e t=>
  refine bG q (fun n aE q=>b6 q (fun v fs₁ bw q=>b6 q (fun vs fs₂ dJ q=> ?_) Z) Z) Z
  obtain⟨c,p,ak⟩:=Ic aE
  exact zE q fun u z=>g n c p e t v fs₁ vs ak rfl bw (by refine B z ?_;exact dJ) u
theorem L0 (ks:List (Option Expr)):∀{es:List Expr} {l:List (al×H)} {fs fs':X},n0 R ks es fs=some (l,fs')->ks.all (·.isSome)=true/\ks.length=es.length:=by
 induction ks with
 |nil=>
  intro es l fs fs' q
  cases es with
  |nil=>exact⟨rfl,rfl⟩
  |cons _ _=>exact Z q
 |cons k ks ih=>
  intro es l fs fs' q
  refine BZ q fun n c p e t v fs₁ vs ak ar bw dJ bP=> ?_
  (refine B ak ?_;refine B ar ?_)
  exact⟨(ih dJ).1,congrArg (· +1) (ih dJ).2⟩
theorem Q8 (S:cC w CM K env J A R) {pos:Pos} (ks:List (Option Expr)):∀{es:List Expr} {l:List (al×H)} {fs fs':X} {ρ:a5} {s:Shared} {Q:List (Value×Value)->Shared->Prop} {E:Value->Shared->Prop},n0 R ks es fs=some (l,fs')->aK w CM K env J ρ s fs->
  (∀vs az ρ',aK w CM K env J ρ' az fs'->a2 ρ s ρ' az->ce ρ fs.loc ρ' fs'.loc->p1 w CM ρ' l vs->vs.length=ks.length->Q vs az)->
  wpAny (model aw w) A (evalPairs (pairTrees ks es env pos)) Q E s:=by
 induction ks with
 |nil=>
  intro es l fs fs' ρ s Q E q I g
  cases es with
  |nil=>cases q;exact wpAny_pure (g [] s ρ I (a2.refl ..) (ce.refl ..) .nil rfl)
  |cons e es=>exact Z q
 |cons k ks ih=>
  intro es l fs fs' ρ s Q E q I g
  refine BZ q fun n c p e t v fs₁ vs ak ar bw dJ bP=> ?_
  (refine B ak ?_;refine B ar ?_)
  show wpAny _ A (eval (.Constant (.str n) c p) env>>=fun eJ=>holding [eJ] (eval e env>>=fun x=>standAt pos>>=fun _=>pure x)>>=fun qB=>(do return (eJ,qB)::(<-holding [eJ,qB] (evalPairs (pairTrees ks t env pos))))) _ _ s
  refine wpAny_bind (wpAny_Constant_str ?_)
  refine wpAny_bind (wpAny_holding (wpAny_bind (rE S bw (I.tok (tk:=s.toks+1)) fun v aj aN aZ a0 bv gE=>wpAny_bind (wpAny_standAt (wpAny_pure ?_)))))
  refine wpAny_bind (wpAny_holding (ih dJ aZ fun c3 cu b9 cP ca dH uT bC=>wpAny_pure ?_))
  refine g _ cu b9 cP ((a2.tok.trans a0).trans ca) (bv.trans dH) ?_ (congrArg (· +1) bC)
  refine B bP ?_
  exact .cons (Fl n _) (bY.bu ca.bL ca.per gE) uT
theorem p1.ND {l:List (al×H)} {vs:List (Value×Value)} (h:p1 w CM ρ l vs):∃aS,PySem.Carries (kk w) vs aS/\dU w CM ρ l aS:=by
 induction h with
 |nil=>exact⟨[],trivial,rfl⟩
 | @cons k x eJ v l vs M O _ ih=>
  refine ba ih ?_;clear ih;intro aS Y aC
  exact⟨(k,v)::aS,⟨M,rfl,Y⟩,v,aS,rfl,O,aC⟩
theorem V1 {aS:List (al×Value)} (h:(aS.map (·.1)).Nodup) (k:al) (v:Value):((stored aS k v).map (·.1)).Nodup:=by
 induction aS with
 |nil=>simp [stored]
 |cons p t ih=>
  obtain⟨cX,u⟩:=p
  refine B (we h) ?_
  split
  ·exact h
  ·rename_i b1
   refine cm (List.nodup_cons.mp h) ?_;intro M O
   refine List.nodup_cons.mpr ⟨fun aY=> ?_,ih O⟩
   have:∀{t:List (al×Value)},(t.map (·.1)).Nodup->cX∈(stored t k v).map (·.1)->cX∈t.map (·.1):=by
    intro t
    induction t with
    |nil=>intro _ aY;simp [stored] at aY;exact absurd aY.symm b1
    |cons p t ih=>
     obtain⟨Yo,sl⟩:=p
     intro aE aY
     replace aY:=(we aE)▸aY
     split at aY
     ·exact aY
     ·rcases List.mem_cons.mp aY with rfl|aY
      ·exact List.mem_cons_self
      ·exact List.mem_cons_of_mem _ (ih (List.nodup_cons.mp aE).2 aY)
   exact M (this O aY)
theorem dU.merged:∀{l:List (al×H)} {aS:List (al×Value)} {d:List (al×H)} {lL:List (al×Value)},dU w CM ρ l aS->dU w CM ρ d lL->(lL.map (·.1)).Nodup->
  dU w CM ρ (l.foldl (fun d p=>cU p.1 p.2 d) d) (PySem.merged lL aS)
 |[],aS,d,lL,h,hd,_=>by refine B (show aS=[] from h) ?_;exact hd
 |(k,x)::r,aS,d,lL,⟨v,t,M,O,Y⟩,hd,aE=>by
  refine B M ?_
  show dU w CM ρ (r.foldl _ (cU k x d)) (PySem.merged (stored lL k v) t)
  exact dU.merged Y (hd.set aE O) (V1 aE k v)
theorem q9 {a:Addr} (i3:∃ob,K.f.lookup sysModules=some ob) (I:aK w CM K env J ρ s fs) (aE:s.heap.get? a=none):(a==sysModules)=false:=by
 refine bT i3 ?_;clear i3;intro ob h
 rw [beq_eq_false_iff_ne]
 rintro rfl
 replace aE:=(I.in _ _ h)▸aE;exact hM aE
theorem RQ (i3:∃ob,K.f.lookup sysModules=some ob) (S:cC w CM K env J A R) {ks:List (Option Expr)} {es:List Expr} {pos:Pos} {l:List (al×H)} (q:n0 R ks es fs=some (l,fs')) (hz:ks.length<=15) (I:aK w CM K env J ρ s fs):
  wpAny (model aw w) A (eval (.Dict ks es pos) env) (b4 w CM K env J ρ s fs (.b5 (.V (l.foldl (fun d p=>cU p.1 p.2 d) []))) fs') cf s:=by
 by_cases aL:ks=[]
 ·subst aL
  cases es with
  |cons e es=>exact Z q
  |nil=>
   refine b7 (show some ([],fs)=some (l,fs') from q) ?_
   exact wpAny_Dict_empty (nI (tk:=s.toks) I (fun b ob e=>Heap.get?_push_of_some _ e) e8
    ⟨_,#[],0,[],q9 i3 I e8,Heap.get?_push_size _ rfl,⟨rfl,rfl,rfl⟩,rfl,fun e aX=>by simp at aX,.nil,.nil,rfl⟩)
 ·have eD:ρ s.heap.objs.size=.free:=(I.base.c0 _).mpr e8
  have hs:=L0 ks q
  refine wpAny_Dict_walk (knd:=kk w) hs.1 hs.2 aL hz (Q8 S (pos:=pos) ks q (I.dF (h':=s.heap.push {cls:=.type "dict",data:=.dict #[]}) (tk:=s.toks) (fun b ob e=>Heap.get?_push_of_some _ e)) fun vs aj aN aZ a0 bv gE bC=> ?_)
  refine ba gE.ND ?_;intro aS hc hd
  have FG:Heap.get? (s.heap.push {cls:=.type "dict",data:=.dict #[]}) s.heap.objs.size=some {cls:=.type "dict",data:=.dict #[]}:=Heap.get?_push_size _ rfl
  have sN:bQ ρ (s.heap.push {cls:=.type "dict",data:=.dict #[]}) s.heap.objs.size=.aU:=by unfold bQ;refine B eD ?_;simp [FG]
  have Gu:=a0.aU _ sN
  have fr:aj.heap.get? s.heap.objs.size=some {cls:=.type "dict",data:=.dict #[]}:=a0.keep _ _ sN FG
  refine⟨aS,hc,⟨_,#[],0,fr,⟨rfl,rfl,rfl⟩,rfl,fun e aX=>by simp at aX,.nil,.nil⟩,fun h' dQ pG=> ?_⟩
  have LS:a2 ρ s (bQ ρ (s.heap.push {cls:=.type "dict",data:=.dict #[]})) {s with heap:=s.heap.push {cls:=.type "dict",data:=.dict #[]}}:=a2.dF (tk:=s.toks) (fun b ob e=>Heap.get?_push_of_some _ e)
  have av:=LS.trans a0
  have dw:ce ρ fs.loc aN fs'.loc:=ce.dF.trans bv
  refine pa dQ ?_;clear dQ;intro ob d4 cs ak ar bP cY dn fb
  refine⟨aN,aZ.hL Gu (h4 I eD) pG (by refine B ak ?_;simp),av.hL eD pG,dw,_,rfl,eD,Gu,ob,d4,cs,_,q9 i3 I e8,ak,ar,bP,cY,dn,fb,?_⟩
  exact dU.merged hd rfl .nil
end
end Mine
end
section
open PySem PySem.W PySem.Calls PyProof.Rows
namespace Mine
noncomputable def l9:cV->Prop
 |.aU=>True
 |.aD _=>True
 |.frame=>True
 |.cell=>True
 |.stack=>True
 |.free=>False
 |.be _=>False
 |.per _=>False
noncomputable def e2:cV->cV
 |.aD _=>.aU
 |.cell=>.aU
 |.frame=>.stack
 |.free=>.free
 |.aU=>.aU
 |.be ob=>.be ob
 |.per k=>.per k
 |.stack=>.stack
noncomputable def bo (ρ:a5):a5:=fun a=>e2 (ρ a)
noncomputable def vO (r r':cV):cV:=match r with
 |.aD x=>.aD x
 |.cell=>.cell
 |.frame=>.frame
 |.free=>r'
 |.aU=>r'
 |.be _=>r'
 |.per _=>r'
 |.stack=>r'
noncomputable def fh (ρ ρ':a5):a5:=fun a=>vO (ρ a) (ρ' a)
structure CN (J:Scope) (ps:List Str):Prop where
 kind:J.kind=.function
 gen:J.isGenerator=false
 tJ:J.isCoroutine=false
 par:∀x∈ps,J.names.lookup x=some .local\/J.names.lookup x=some .cell
 ex:ps.Nodup
 c0:∀x,J.names.lookup x≠some .free
 ff:∀n x,J.names.lookup x=some .cell->((cellsFrom n J.names []).lookup x).isSome=true
 Y5:∀n x c,(cellsFrom n J.names []).lookup x=some c->J.names.lookup x=some .cell
structure kg (F:Frag) (ao:Stmt) (a:Addr) (ob:Obj) (bK:FuncData):Prop where
 gp:F.lookup a=some ob
 data:ob.data=.func bK
 body:bK.body=.stmts (g3 ao)
 scope:bK.scope=bN ao
 u9:bK.globals=mainGlobals
 lg:bK.builtins=builtinsNs
 tB:bK.closure=[]
 code:codeIn F bK.code bK.qualname=true
 keep:keepIn F (.ref a)=true
 bind:∀bf:List Value,bf.length=(params ao).length->bK.defaults=.none->bindArgs bK ⟨bf,[]⟩=pure ((params ao).zip bf)
 J:CN (bN ao) (params ao)
noncomputable abbrev dM:=Str->Option Addr
structure pO (CM:cp) (bj:dM) (F:Frag):Prop extends yJ CM F where
 rH:∃ob,F.lookup sysModules=some ob
 sq:∀h:Heap,F.In h->h.NoLimit
 rc:∀x ao,ds x=some ao->∃a ob bK,bj x=some a/\kg F ao a ob bK/\bK.defaults=.none
noncomputable def rJ (ob:Obj):Prop:=ob.isFreed=false/\∃vs,ob.data=.fields vs/\2<vs.size/\vs[2]? =some .none
noncomputable def f5 (K:Top) (A:Around):Prop:=match K.eH with
 |none=>A.handled=none
 |some (e,ob)=>A.handled=some (.ref e)/\rJ ob
noncomputable def xG (K:Top) (A:Around):Prop:=∃l,A.frames=some l/\∀env∈l,env.scope.kind≠.module/\∃L,env.frame=some L/\L∈K.frames
structure ek (K:Top) (k:Nat) (A:Around):Prop where
 eH:f5 K A
 frames:xG K A
 depth:A.depth+2*k+8<recursionLimit
 units:A.units+16*k+400<cLine
 xv:k%2=1->K.eH=none
noncomputable def ty (CM:cp) (P:Addr->Prop) (h:Heap) (a:Addr):Prop:=
 ∃C ob vs,CM "TreeFault"=some C/\h.get? a=some ob/\ob.isFreed=false/\ob.cls=.ref C/\ob.data=.fields vs/\2<vs.size/\vs[2]? =some .none/\
  (vs[1]? =some .none\/∃T lY ts,vs[1]? =some (.ref T)/\P T/\T≠a/\h.get? T=some lY/\lY.data=.fields ts/\ts[3]? =some .none)
theorem ty.imp {CM:cp} {P Ds:Addr->Prop} {h:Heap} {a:Addr} (an:∀T,P T->Ds T) (q:ty CM P h a):ty CM Ds h a:=
 Exists.imp (fun C=>Exists.imp fun ob=>Exists.imp fun vs q=>⟨q.1,q.2.1,q.2.2.1,q.2.2.2.1,q.2.2.2.2.1,q.2.2.2.2.2.1,q.2.2.2.2.2.2.1,q.2.2.2.2.2.2.2.imp id fun q=>q.imp fun T q=>q.imp fun lY q=>q.imp fun ts q=>⟨q.1,an T q.2.1,q.2.2⟩⟩) q
noncomputable def uk (aT ρ:a5) (a:Addr):Prop:=aT a=.free/\ρ a=.aU
noncomputable def gi (CM:cp) (aT ρ:a5) (h:Heap) (a:Addr):Prop:=uk aT ρ a/\ty CM (uk aT ρ) h a
theorem gi.imp {CM:cp} {aT ρ D0 ρ':a5} {h:Heap} {a:Addr} (an:∀T,uk aT ρ T->uk D0 ρ' T) (q:gi CM aT ρ h a):gi CM D0 ρ' h a:=⟨an a q.1,q.2.imp an⟩
section
variable(w:World) (CM:cp)
noncomputable def mA (ρ₀ ρ:a5) (s:Shared):aV->Value->Prop
 |.U x,v=>bY w CM ρ x v
 |.b5 x,v=>∃a,v=.ref a/\ρ₀ a=.free/\ρ a=.aU/\dR w CM ρ s.heap a x
 |.var _,_=>False
noncomputable def AH (K:Top) (ρ:a5) (s:Shared) (ai:bE) (per:List H) (v:Value) (az:Shared):Prop:=
 match ai with
 |.ret r=>∃ρ',cM w CM K ρ' az per/\a2 ρ s ρ' az/\ii ρ'/\mA w CM ρ ρ' az r v
 |_=>False
noncomputable def F2 (K:Top) (ρ:a5) (s:Shared) (ai:bE) (per:List H) (e:Value) (az:Shared):Prop:=
 ai=.dB/\∃ρ' a,cM w CM K ρ' az per/\a2 ρ s ρ' az/\ii ρ'/\e=.ref a/\gi CM ρ ρ' az.heap a
structure EY (bj:dM) (F:Frag) (K:Top) (A:Around) (f:Str) (args:List H) (per:List H) (ai:bE) (dh:List H) (a:Addr):Prop where
 yW:bj f=some a
 rc:∃ao ob bK,kg F ao a ob bK
 wp:∀ρ s bf,cM w CM K ρ s per->ii ρ->a8 w CM ρ args bf->wpAny (model aw w) A (call (.ref a) bf) (AH w CM K ρ s ai dh) (F2 w CM K ρ s ai dh) s
noncomputable def gJ (bj:dM) (F:Frag) (k:Nat) (C:ct):Prop:=
 ∀f args per ai dh,C f args per=some (ai,dh)->∀(K:Top) A,K.f=F->ek K k A->∃a,EY w CM bj F K A f args per ai dh a
noncomputable def ry (K:Top) (env:Env) (J:Scope) (ρ:a5) (s:Shared) (fs:X) (ai:bE) (fs':X) (v:Value) (az:Shared):Prop:=match ai with
 |.ret r=>b4 w CM K env J ρ s fs r fs' v az
 |_=>False
noncomputable def r5 (K:Top) (env:Env) (J:Scope) (ρ:a5) (s:Shared) (fs:X) (ai:bE) (fs':X) (e:Value) (az:Shared):Prop:=
 ai=.dB/\∃ρ' a,aK w CM K env J ρ' az fs'/\a2 ρ s ρ' az/\ce ρ fs.loc ρ' fs'.loc/\e=.ref a/\gi CM ρ ρ' az.heap a
end
section
variable{w:World} {CM:cp} {bj:dM} {F:Frag} {K:Top} {env:Env} {J:Scope} {A:Around} {ρ ρ₀ ρ':a5} {s db az:Shared} {fs fs':X} {R:bk}
theorem mh {a:Addr} {ob:Obj}:bo ρ a=.be ob↔ρ a=.be ob:=by
 show e2 (ρ a)=_↔_
 cases ρ a<;>first|exact Iff.rfl|exact⟨fun h=>cV.noConfusion h,fun h=>cV.noConfusion h⟩
theorem nw {a:Addr} {k:Nat}:bo ρ a=.per k↔ρ a=.per k:=by
 show e2 (ρ a)=_↔_
 cases ρ a<;>first|exact Iff.rfl|exact⟨fun h=>cV.noConfusion h,fun h=>cV.noConfusion h⟩
theorem gQ {a:Addr}:bo ρ a=.free↔ρ a=.free:=by
 show e2 (ρ a)=_↔_
 cases ρ a<;>first|exact Iff.rfl|exact⟨fun h=>cV.noConfusion h,fun h=>cV.noConfusion h⟩
theorem hX (ρ:a5):ii (bo ρ):=fun a=>by
 show(∀x,e2 (ρ a)≠.aD x)/\e2 (ρ a)≠.frame/\e2 (ρ a)≠.cell
 cases ρ a<;>exact⟨fun _ h=>cV.noConfusion h,fun h=>cV.noConfusion h,fun h=>cV.noConfusion h⟩
theorem jG {a:Addr} {r:cV} (e:ρ a=r):fh ρ ρ' a=vO r (ρ' a):=congrArg (fun r=>vO r (ρ' a)) e
theorem Ap {a:Addr} {r:cV} (e:ρ' a=r) (M:∀x,ρ a=.aD x->ρ' a≠r) (O:ρ a=.cell->ρ' a≠r) (Y:ρ a=.frame->ρ' a≠r):fh ρ ρ' a=r:=by
 cases q:ρ a with
 |aD x=>exact absurd e (M x q)
 |cell=>exact absurd e (O q)
 |frame=>exact absurd e (Y q)
 |_=>exact(jG q).trans e
theorem Un {a:Addr} {x:Str} (e:fh ρ ρ' a=.aD x):ρ a=.aD x\/ρ' a=.aD x:=by
 cases q:ρ a with
 |aD y=>exact .inl ((jG q).symm.trans e)
 |cell=>exact cV.noConfusion ((jG q).symm.trans e)
 |frame=>exact cV.noConfusion ((jG q).symm.trans e)
 |_=>exact .inr ((jG q).symm.trans e)
theorem kY {a:Addr} {r:cV} (h:ρ' a=ρ a\/(l9 (ρ a)/\l9 (ρ' a)/\(e3 (ρ a)->e3 (ρ' a)))) (aP:¬l9 r):ρ a=r↔ρ' a=r:=
 h.elim (fun q=>by(refine B q ?_;rfl)) fun q=>⟨fun e=>absurd (e▸q.1) aP,fun e=>absurd (e▸q.2.1) aP⟩
theorem cM.qi {per:List H} (ap:cM w CM K ρ s per) (h:∀a,ρ' a=ρ a\/(l9 (ρ a)/\l9 (ρ' a)/\(e3 (ρ a)->e3 (ρ' a)))):cM w CM K ρ' s per:=
 ⟨fun a x e=>(kY (h a) id).mp (ap.fV a x e),fun a x e=>(kY (h a) id).mp (ap.fC a x e),fun a e=>⟨(h a).elim (fun q=>q▸(ap.fl a e).1) fun q=>q.2.2 (ap.fl a e).1,(ap.fl a e).2⟩,fun a ob e=>ap.bL a ob ((kY (h a) id).mpr e),fun a=>(kY (h a) id).symm.trans (ap.c0 a),fun k q=>(ap.gh k q).imp fun a e=>(kY (h a) id).mp e,
  fun a k e=>(ap.fT a k ((kY (h a) id).mpr e)).imp fun x q=>⟨q.1,q.2.bu (fun a _=>(kY (h a) id).mp) (fun a _=>(kY (h a) id).mp) fun _ e=>e⟩,fun a b k ak ar=>ap.inj a b k ((kY (h a) id).mpr ak) ((kY (h b) id).mpr ar)⟩
theorem cM.bo {per:List H} (ap:cM w CM K ρ s per):cM w CM K (bo ρ) s per:=ap.qi fun a=>by
 show e2 (ρ a)=_\/(l9 (ρ a)/\l9 (e2 (ρ a))/\(e3 (ρ a)->e3 (e2 (ρ a))))
 cases ρ a<;>first|exact .inl rfl|exact .inr ⟨trivial,trivial,id⟩
theorem bY.bo {x:H} {v:Value} (h:bY w CM ρ x v):bY w CM (bo ρ) x v:=h.bu (fun a ob e=>mh.mpr e) (fun a ob e=>nw.mpr e)
theorem a8.bo {x:List H} {v:List Value} (h:a8 w CM ρ x v):a8 w CM (bo ρ) x v:=h.bu (fun a ob e=>mh.mpr e) (fun a ob e=>nw.mpr e)
theorem a2.oY (av:a2 (Mine.bo ρ) s ρ' az):(∀a x,ρ a=.aD x->ρ' a=.aU)/\(∀a,ρ a=.cell->ρ' a=.aU)/\(∀a,ρ a=.frame->ρ' a=.stack):=
 ⟨fun a x e=>av.aU a (congrArg e2 e),fun a e=>av.aU a (congrArg e2 e),fun a e=>av.stk a (congrArg e2 e)⟩
theorem pD (av:a2 (Mine.bo ρ) s ρ' az):(∀a ob,ρ' a=.be ob->fh ρ ρ' a=.be ob)/\(∀a k,ρ' a=.per k->fh ρ ρ' a=.per k):=
 ⟨fun a ob e=>Ap e (fun x q z=>cV.noConfusion ((av.oY.1 a x q).symm.trans z)) (fun q z=>cV.noConfusion ((av.oY.2.1 a q).symm.trans z)) fun q z=>cV.noConfusion ((av.oY.2.2 a q).symm.trans z),
  fun a ob e=>Ap e (fun x q z=>cV.noConfusion ((av.oY.1 a x q).symm.trans z)) (fun q z=>cV.noConfusion ((av.oY.2.1 a q).symm.trans z)) fun q z=>cV.noConfusion ((av.oY.2.2 a q).symm.trans z)⟩
theorem aK.q4 {dh:List H} (I:aK w CM K env J ρ s fs) (lA:cM w CM K ρ' az dh) (av:a2 (Mine.bo ρ) s ρ' az) (hc:ii ρ'):
  aK w CM K env J (fh ρ ρ') az {fs with per:=dh}/\a2 ρ s (fh ρ ρ') az/\ce ρ fs.loc (fh ρ ρ') fs.loc:=by
 refine eg av.oY ?_;intro ez ey hW
 refine cm (pD av) ?_;intro aB an
 have bA:∀a ob,ρ a=.be ob->fh ρ ρ' a=.be ob:=fun a ob e=>aB a ob (av.bL a ob (mh.mpr e))
 have iQ:∀a ob,ρ a=.per ob->fh ρ ρ' a=.per ob:=fun a ob e=>an a ob (av.per a ob (nw.mpr e))
 have e5:∀a x,ρ a=.aD x->fh ρ ρ' a=.aD x:=fun a x e=>jG e
 have eY:∀a,ρ a=.frame->fh ρ ρ' a=.frame:=fun a e=>jG e
 have wI:∀a,ρ a=.cell->fh ρ ρ' a=.cell:=fun a e=>jG e
 have dQ:∀a,ρ a=.aU->fh ρ ρ' a=.aU:=fun a e=>(jG e).trans (av.aU a (congrArg e2 e))
 have mK:∀a,ρ a=.stack->fh ρ ρ' a=.stack:=fun a e=>(jG e).trans (av.stk a (congrArg e2 e))
 have q6:∀a ob,ρ a=.cell->s.heap.get? a=some ob->az.heap.get? a=some ob:=fun a ob h e=>av.keep a ob (congrArg e2 h) e
 have CC:∀a ob,ρ a=.aU->s.heap.get? a=some ob->az.heap.get? a=some ob:=fun a ob h e=>av.keep a ob (congrArg e2 h) e
 have dm:∀m,s.heap.Ns env.locals m->az.heap.Ns env.locals m:=fun m ⟨o,es,cs,bZ,q⟩=>(av.ig _ _ (congrArg e2 I.cL) bZ).elim fun f6 iy=>⟨_,es,cs,iy,q⟩
 have tj:∀a x,fh ρ ρ' a=.aD x->ρ a=.aD x:=fun a x e=>(Un e).elim id fun q=>absurd q ((hc a).1 x)
 refine⟨⟨lA.qi fun a=> ?_,I.c2,eY _ I.cL,I.fv.imp dm,fun x bh e=> ?_,fun x e=> ?_,fun x c ak ar=>dQ _ (I.frees x c ak ar),I.apart,fun a x e=> ?_,fun a b x ak ar=>I.fq a b x (tj a x ak) (tj b x ar)⟩,
  ⟨bA,dQ,iQ,eY,wI,mK,fun a x e=>.inl (e5 a x e),CC,fun a ob h e=>av.ig a ob (congrArg e2 h) e,av.ao⟩,⟨fun _ _ e=>e,fun a x e=>.inl (e5 a x e),tj⟩⟩
 ·cases q:ρ a with
  |aD y=>exact .inr ⟨by refine B (ez a y q) ?_;trivial,by refine B (e5 a y q) ?_;trivial,by refine B (ez a y q) ?_;exact fun h=>h.elim⟩
  |cell=>exact .inr ⟨by refine B (ey a q) ?_;trivial,by refine B (wI a q) ?_;trivial,by refine B (ey a q) ?_;exact fun h=>h.elim⟩
  |frame=>exact .inr ⟨by refine B (hW a q) ?_;trivial,by refine B (eY a q) ?_;trivial,by refine B (eY a q) ?_;exact fun _=>trivial⟩
  |_=>exact .inl (jG q)
 ·refine ba (I.eZ x bh e) ?_;intro v M O
  refine⟨v,M.imp (fun q=>⟨q.1,q.2.1,q.2.2.imp fun m q=>⟨dm m q.1,q.2⟩⟩) (fun q=>⟨q.1,q.2.1,q.2.2.imp fun c z=>⟨z.1,z.2.imp fun o y=>⟨q.1.elim (fun bV=> ?_) fun bV=>CC c o (I.frees x c bV z.1) y.1,y.2⟩⟩⟩),O.bu bA iQ e5⟩
  refine dN (I.cells x bV) ?_;intro c' e4 bZ bn _
  replace bZ:=z.1▸bZ;cases(bZ)
  exact q6 c o bn y.1
 ·exact(I.cells x e).imp fun c q=>q.imp fun v q=>⟨q.1,wI _ q.2.1,q.2.2.1,q.2.2.2.imp fun o z=>⟨q6 c o q.2.1 z.1,z.2⟩⟩
 ·have ci:=tj a x e
  exact⟨(I.eX a x ci).1,(I.eX a x ci).2.imp fun c q=>⟨q.1,q.2.bu bA iQ fun ob z=>av.keep a ob (congrArg e2 ci) z⟩⟩
theorem kI {a:Addr} (bR:Mine.bo ρ a=.free):fh ρ ρ' a=ρ' a:=by
 exact jG (gQ.mp bR)
theorem mA.out {r:aV} {v:Value} (q:mA w CM (Mine.bo ρ) ρ' az r v) (av:a2 (Mine.bo ρ) s ρ' az):eN w CM ρ (fh ρ ρ') az fs' r v:=by
 refine cm (pD av) ?_;intro aB an
 cases r with
 |U x=>exact bY.bu aB an q
 |b5 x=>
  refine gw q ?_;clear q;intro a M O Y aC
  exact⟨a,M,gQ.mp O,by refine B (kI O) ?_;exact Y,aC.bu aB an fun _ e=>e⟩
 |var x=>exact q.elim
theorem gi.out {h:Heap} {a:Addr} (q:gi CM (Mine.bo ρ) ρ' h a):gi CM ρ (fh ρ ρ') h a:=
 q.imp fun T z=>⟨gQ.mp z.1,(kI z.1).trans z.2⟩
theorem gi.base {aT:a5} {h:Heap} {a:Addr} (q:gi CM ρ ρ' h a) (ah:∀a,ρ a=.free->aT a=.free):gi CM aT ρ' h a:=
 q.imp fun T z=>⟨ah T z.1,z.2⟩
theorem aK.Cc {f:Str} {args dh:List H} {ai:bE} {a:Addr} (c6:EY w CM bj F K A f args fs.per ai dh a) (I:aK w CM K env J ρ s fs) {bf:List Value} (ay:a8 w CM ρ args bf):
  wpAny (model aw w) A (call (.ref a) bf) (ry w CM K env J ρ s fs ai {fs with per:=dh}) (r5 w CM K env J ρ s fs ai {fs with per:=dh}) s:=by
 refine wpAny_mono (c6.wp (Mine.bo ρ) s bf I.base.bo (hX ρ) ay.bo) (fun v az h=> ?_) fun e az h=> ?_
 ·cases ai with
  |ret r=>
   refine gw h ?_;clear h;intro ρ' lA av hc aP
   refine eg (I.q4 lA av hc) ?_;intro hb e6 g1
   exact⟨_,hb,e6,g1,aP.out av⟩
  |_=>exact h
 ·refine⟨h.1,?_⟩
  refine qC h.2 ?_;clear h;intro ρ' a lA av hc e bR
  refine eg (I.q4 lA av hc) ?_;intro hb e6 g1
  exact⟨_,a,hb,e6,g1,e,bR.out⟩
theorem ry.trans {aN:a5} {aj:Shared} {fs₁:X} {ai:bE} {v:Value} (av:a2 ρ s aN aj) (dw:ce ρ fs.loc aN fs₁.loc) (h:ry w CM K env J aN aj fs₁ ai fs' v az):ry w CM K env J ρ s fs ai fs' v az:=by
 cases ai with
 |ret r=>exact b4.trans av dw h
 |_=>exact h
theorem r5.trans {aN:a5} {aj:Shared} {fs₁:X} {ai:bE} {v:Value} (av:a2 ρ s aN aj) (dw:ce ρ fs.loc aN fs₁.loc) (h:r5 w CM K env J aN aj fs₁ ai fs' v az):r5 w CM K env J ρ s fs ai fs' v az:=
 ⟨h.1,h.2.imp fun ρ' h=>h.imp fun a h=>⟨h.1,av.trans h.2.1,dw.trans h.2.2.1,h.2.2.2.1,h.2.2.2.2.base av.h3⟩⟩
end
end Mine
end
section
open PySem PySem.W PySem.Calls PyProof.Rows
namespace Mine
noncomputable def hv (F:Frag) (x:Str):Option Value:=br (nsIn F mainGlobals x) fun v=>match v with
 |some v=>some v
 |none=>br (nsIn F builtinsNs x) id
structure tZ (CM:cp) (bj:dM) (F:Frag):Prop extends pO CM bj F where
 C5:∀x a,bj x=some a->jV x=true->hv F x=some (.ref a)
section
variable{w:World} {CM:cp} {bj:dM} {F:Frag} {K:Top} {env:Env} {J:Scope} {A:Around} {ρ ρ₀ ρ':a5} {s db az:Shared} {fs fs':X} {R:bk}
theorem nE {x:Str} {pos:Pos} {v:Value} {Q:Value->Shared->Prop} {E:Value->Shared->Prop} (g:hv F x=some v) (ae:J.names.lookup x=some .globalImplicit) (h0:oD env J) (av:F.In s.heap) (hd:(x==("__debug__":Str))=false) (h:Q v s):
  wpAny (model aw w) A (eval (.Name x pos) env) Q E s:=by
 refine Name_function_global h0.kind (h0.imp x ae) ?_ hd
 unfold loadGlobal
 refine B h0.u9 ?_
 refine bG g (fun u e g=> ?_) Z
 refine wpAny_bind ((looks_nsIn av e).here ?_)
 cases u with
 |some e4=>exact wpAny_pure (Option.some.inj (show some e4=some v from g)▸h)
 |none=>
  refine bG g (fun u ci g=> ?_) Z
  refine B h0.lg ?_
  replace ci:=(show u=some v from g)▸ci
  exact wpAny_bind ((looks_nsIn av ci).here (wpAny_pure h))
theorem uV {pos:Pos} {t:Sem Value} {l:List (Bool×Sem Value)}:backTo pos ((false,t)::l)=(false,t)::backTo pos l:=rfl
theorem yr (S:cC w CM K env J A R) {pos:Pos} {f:Value} {args:List Expr} {vs:List H} {Q:Args->Shared->Prop} {E:Value->Shared->Prop} (q:dp R args fs=some (vs,fs')) (I:aK w CM K env J ρ s fs)
  (h:∀bf aj,r6 w CM K env J ρ s fs vs fs' bf aj->Q ⟨bf,[]⟩ aj):wpAny (model aw w) A (evalArgs f true (backTo pos (starEach args env)) []) Q E s:=by
 cases args with
 |nil=>exact b7 (G:=fun vs fs'=>(∀bf aj,r6 w CM K env J ρ s fs vs fs' bf aj->Q ⟨bf,[]⟩ aj)->wpAny (model aw w) A (evalArgs f true (backTo pos (starEach [] env)) []) Q E s) q (fun h=>evalArgs_nil3 (h [] s ⟨ρ,I,a2.refl ..,ce.refl ..,a8.nil⟩)) h
 |cons e es=>
  refine b6 q (fun x fs₁ ak _=> ?_) Z
  have c6:=FT S (pos:=pos) _ q I
  rw [wl S ak,uV] at c6|-
  exact evalArgs_plain (wpAny_mono c6 (fun bf aj p=>h bf aj p) fun _ _ f=>f.elim)
theorem Ar (S:cC w CM K env J A R) {pos:Pos} {f:Value} {args:List Expr} {vs:List H} {Q:Args->Shared->Prop} {E:Value->Shared->Prop} (q:dp R args fs=some (vs,fs')) (I:aK w CM K env J ρ s fs)
  (k:∀v aj aN,aK w CM K env J aN aj fs'->a2 ρ s aN aj->ce ρ fs.loc aN fs'.loc->a8 w CM aN vs v->Q ⟨v,[]⟩ aj):wpAny (model aw w) A (evalArgs f true (backTo pos (starEach args env)) []) Q E s:=
 yr S q I fun v aj h=>h.elim fun aN h=>k v aj aN h.1 h.2.1 h.2.2.1 h.2.2.2
theorem D9 (S:cC w CM K env J A R) {pos:Pos} {f:Value} {args:List Expr} {vs:List H} {first:List Value} {Q:Value->Shared->Prop} {E:Value->Shared->Prop} (ag:keepIn K.f f=true) (q:dp R args fs=some (vs,fs')) (I:aK w CM K env J ρ s fs)
  (h:∀bf aj,r6 w CM K env J ρ s fs vs fs' bf aj->wpAny (model aw w) A (call f (first++bf)) Q E aj):wpAny (model aw w) A (callWith pos f first (backTo pos (starEach args env)) []) Q E s:=by
 refine callWith_of (P:=K.f.In) ?_ (keeps_K ag) (yr S q I fun bf aj p=>⟨?_,h bf aj p⟩)
 ·refine B ((rK S _ q).1) ?_;rfl
 ·obtain⟨aN,aZ,_⟩:=p;exact aZ.in
theorem zf (S:cC w CM K env J A R) {pos:Pos} {f:Value} {args:List Expr} {vs:List H} {first:List Value} {Q:Value->Shared->Prop} {E:Value->Shared->Prop} (ag:keepIn K.f f=true) (q:dp R args fs=some (vs,fs')) (I:aK w CM K env J ρ s fs)
  (k:∀v aj aN,aK w CM K env J aN aj fs'->a2 ρ s aN aj->ce ρ fs.loc aN fs'.loc->a8 w CM aN vs v->wpAny (model aw w) A (call f (first++v)) Q E aj):wpAny (model aw w) A (callWith pos f first (backTo pos (starEach args env)) []) Q E s:=
 D9 S ag q I fun v aj h=>h.elim fun aN h=>k v aj aN h.1 h.2.1 h.2.2.1 h.2.2.2
theorem DE (S:cC w CM K env J A R) {pos:Pos} {id:String} {args:List Expr} {vs:List H} {first:List Value} {Q:Value->Shared->Prop} {E:Value->Shared->Prop} (q:dp R args fs=some (vs,fs')) (I:aK w CM K env J ρ s fs)
  (h:∀bf aj,r6 w CM K env J ρ s fs vs fs' bf aj->wpAny (model aw w) A (call (.builtin id) (first++bf)) Q E aj):wpAny (model aw w) A (callWith pos (.builtin id) first (backTo pos (starEach args env)) []) Q E s:=
 callWith_builtin (rK S _ q).1 (yr S q I fun bf aj p=>h bf aj p)
theorem J9 (S:cC w CM K env J A R) {pos:Pos} {f:Value} {e:Expr} {r:aV} {Q:Args->Shared->Prop} {E:Value->Shared->Prop} (q:R.a9 e fs=some (r,fs')) (I:aK w CM K env J ρ s fs)
  (h:∀v aj,b4 w CM K env J ρ s fs r fs' v aj->Q ⟨[v],[]⟩ aj):(backTo pos (starEach [e] env)).any (·.1)=false/\wpAny (model aw w) A (evalArgs f true (backTo pos (starEach [e] env)) []) Q E s:=by
 have ak:starEach [e] env=[(false,eval e env)]:=by
  cases e with
  |Starred e p=>rw [S.rg] at q;exact Z q
  |_=>rfl
 (refine B ak ?_;refine B uV ?_)
 refine⟨rfl,evalArgs_plain (Q0 ?_)⟩
 exact wpAny_mono (S.a9 e fs r fs' q ρ s I) (fun v aj p=>h v aj p) fun _ _ f=>f.elim
where Q0 {t:Sem Value} {Q:List Value->Shared->Prop} {E:Value->Shared->Prop} {s:Shared} (h:wpAny (model aw w) A t (fun v aj=>Q [v] aj) E s):wpAny (model aw w) A (spliced [(false,t)]) Q E s:=
 spliced_cons (wpAny_mono h (fun v aj p=>spliced_nil p) fun _ _ f=>f)
theorem vJ (S:cC w CM K env J A R) {pos:Pos} {f:Value} {e:Expr} {r:aV} {Q:Args->Shared->Prop} {E:Value->Shared->Prop} (q:R.a9 e fs=some (r,fs')) (I:aK w CM K env J ρ s fs)
  (k:∀v aj aN,aK w CM K env J aN aj fs'->a2 ρ s aN aj->ce ρ fs.loc aN fs'.loc->eN w CM ρ aN aj fs' r v->Q ⟨[v],[]⟩ aj):(backTo pos (starEach [e] env)).any (·.1)=false/\wpAny (model aw w) A (evalArgs f true (backTo pos (starEach [e] env)) []) Q E s:=
 J9 S q I fun v aj h=>h.elim fun aN h=>k v aj aN h.1 h.2.1 h.2.2.1 h.2.2.2
theorem lr {f:Str} {p pos:Pos} {args:List Expr} {v:Value} {Q:Value->Shared->Prop} {E:Value->Shared->Prop} (g:hv K.f f=some v) (ae:J.names.lookup f=some .globalImplicit) (I:aK w CM K env J ρ s fs) (hd:(f==("__debug__":Str))=false)
  (h:wpAny (model aw w) A (callWith pos v [] (backTo pos (starEach args env)) []) Q E s):wpAny (model aw w) A (eval (.Call (.Name f p) args [] pos) env) Q E s:=
 Call_Name rfl (nE g ae I.c2 I.in hd h)
theorem JY {f:Str} (h:jV f=true):(f==("__debug__":Str))=false:=by
 cases q:(f==("__debug__":Str)) with
 |false=>rfl
 |true=>replace h:=(beq_iff_eq.mp q)▸h;exact absurd h (by decide+kernel)
theorem Gf (bl:tZ CM bj F) (bA:K.f=F) {k:Nat} {C:ct} (c6:gJ w CM bj F k C) (bc:ek K k A) (S:cC w CM K env J A R) {f:Str} {p pos:Pos} {args:List Expr} {vs:List H} {ai:bE} {dh:List H} {fs₁:X}
  (an:jV f=true) (ae:J.names.lookup f=some .globalImplicit) (bZ:dp R args fs=some (vs,fs₁)) (bn:C f vs fs₁.per=some (ai,dh)) (I:aK w CM K env J ρ s fs):
  wpAny (model aw w) A (eval (.Call (.Name f p) args [] pos) env) (ry w CM K env J ρ s fs ai {fs₁ with per:=dh}) (r5 w CM K env J ρ s fs ai {fs₁ with per:=dh}) s:=by
 refine bT (c6 f vs fs₁.per ai dh bn K A bA bc) ?_;intro a h
 refine p5 h.rc ?_;intro ao ob bK aB
 refine lr (bA▸bl.C5 f a h.yW an) ae I (JY an) (zf S (bA▸aB.keep) bZ I fun bf aj aN aZ a0 bv gE=> ?_)
 exact wpAny_mono (aZ.Cc h gE) (fun v az h=>h.trans a0 bv) fun e az h=>h.trans a0 bv
end
end Mine
end
section
open PySem PySem.W PySem.Calls PyProof.Rows
namespace Mine
section
variable(w:World) (CM:cp) (K:Top) (env:Env) (J:Scope)
structure cr (aT:a5) (a7:Shared) (ρ:a5) (s:Shared) (fs:X):Prop where
 dI:aK w CM K env J ρ s fs
 ext:a2 aT a7 ρ s
 gA:∀a x,ρ a=.aD x->aT a=.free
noncomputable def ed (aT:a5) (a7:Shared) (ρ:a5) (s:Shared) (ai:bE) (fs':X) (f:Flow) (az:Shared):Prop:=match ai with
 |.next=>f=.next/\∃ρ',cr w CM K env J aT a7 ρ' az fs'/\a2 ρ s ρ' az
 |.brk=>f=.brk/\∃ρ',cr w CM K env J aT a7 ρ' az fs'/\a2 ρ s ρ' az
 |.ret r=>∃v,f=.ret v/\∃ρ',cr w CM K env J aT a7 ρ' az fs'/\mA w CM aT ρ' az r v
 |.dB=>False
noncomputable def hD (aT:a5) (a7:Shared) (ai:bE) (fs':X) (e:Value) (az:Shared):Prop:=
 ai=.dB/\∃ρ' a,cr w CM K env J aT a7 ρ' az fs'/\e=.ref a/\gi CM aT ρ' az.heap a
structure fN (A:Around) (R:bk):Prop extends cC w CM K env J A R where
 dg:∀ao fs ai fs',R.dg ao fs=some (ai,fs')->∀aT a7 ρ s,cr w CM K env J aT a7 ρ s fs->wpAny (model aw w) A (exec ao env) (ed w CM K env J aT a7 ρ s ai fs') (hD w CM K env J aT a7 ai fs') s
 x2:∀elt gens aW pos y je o6 fs r fs' tC,swapsWith (.ListComp elt gens aW pos) (some (.Name y je)) o6.line env=pure true->R.a9 (.ListComp elt gens aW pos) fs=some (r,fs')->eQ J y r fs'=some tC->
  ∀aT a7 ρ s,cr w CM K env J aT a7 ρ s fs->wpAny (model aw w) A (exec (.Assign [.Name y je] (.ListComp elt gens aW pos) o6) env) (ed w CM K env J aT a7 ρ s .next tC) cf s
 zz:∀elt gens aW pos fs r fs',R.a9 (.ListComp elt gens aW pos) fs=some (r,fs')->∃v,r=.b5 v
 y4:∀e g c p fs,R.a9 (.SetComp e g c p) fs=none
 zu:∀e v g c p fs,R.a9 (.DictComp e v g c p) fs=none
end
section
variable{w:World} {CM:cp} {bj:dM} {F:Frag} {K:Top} {env:Env} {J:Scope} {A:Around} {ρ ρ₀ aT ρ':a5} {s db a7 az:Shared} {fs fs':X} {R:bk}
theorem cr.step (a1:cr w CM K env J aT a7 ρ s fs) (I:aK w CM K env J ρ' az fs') (av:a2 ρ s ρ' az) (dw:ce ρ fs.loc ρ' fs'.loc):cr w CM K env J aT a7 ρ' az fs':=
 ⟨I,a1.ext.trans av,fun a x e=>a1.gA a x (dw.gu a x e)⟩
theorem ed.ext {aN:a5} {aj:Shared} {ai:bE} {f:Flow} (av:a2 ρ s aN aj) (h:ed w CM K env J aT a7 aN aj ai fs' f az):ed w CM K env J aT a7 ρ s ai fs' f az:=by
 cases ai with
 |next=>exact⟨h.1,h.2.imp fun _ z=>⟨z.1,av.trans z.2⟩⟩
 |brk=>exact⟨h.1,h.2.imp fun _ z=>⟨z.1,av.trans z.2⟩⟩
 |ret r=>exact h
 |dB=>exact h
theorem ed.QP {ai:bE} {f:Flow} (h:ed w CM K env J aT a7 ρ s ai fs' f az) (aE:ai≠.next):f≠.next:=fun q=>by
 cases ai with
 |next=>exact aE rfl
 |brk=>exact Flow.noConfusion (h.1.symm.trans q)
 |ret r=>exact h.elim fun v z=>Flow.noConfusion (z.1.symm.trans q)
 |dB=>exact h
theorem ow (S:fN w CM K env J A R) (body:List Stmt):∀{fs fs':X} {ai:bE} {ρ:a5} {s:Shared},cR R body fs=some (ai,fs')->cr w CM K env J aT a7 ρ s fs->
  wpAny (model aw w) A (execs body env) (ed w CM K env J aT a7 ρ s ai fs') (hD w CM K env J aT a7 ai fs') s:=by
 induction body with
 |nil=>intro fs fs' ai ρ s q a1;exact b7 q (wpAny_execs_nil ⟨rfl,ρ,a1,a2.refl ..⟩)
 |cons ao body ih=>
  intro fs fs' ai ρ s q a1
  refine b6 q (fun gS fs₁ bw q=> ?_) Z
  have go:=S.dg ao fs gS fs₁ bw aT a7 ρ s a1
  have skip:gS≠.next->some (gS,fs₁)=some (ai,fs')->wpAny (model aw w) A (execs (ao::body) env) (ed w CM K env J aT a7 ρ s ai fs') (hD w CM K env J aT a7 ai fs') s:=fun aE q=>by
   cases q
   refine wpAny_execs_cons (wpAny_mono go (fun f aj h=> ?_) fun e aj h=>h)
   cases f with
   |next=>exact absurd rfl (h.QP aE)
   |_=>exact h
  cases gS with
  |next=>
   refine wpAny_execs_cons (wpAny_mono go (fun f aj h=> ?_) fun e aj h=>nomatch h.1)
   refine cm h ?_;clear h;intro u h;subst u
   refine ba h ?_;clear h;intro aN aZ a0
   exact wpAny_mono (ih q aZ) (fun f cu h=>h.ext a0) fun _ _ h=>h
  |brk=>exact skip (fun q=>bE.noConfusion q) q
  |ret r=>exact skip (fun q=>bE.noConfusion q) q
  |dB=>exact skip (fun q=>bE.noConfusion q) q
theorem J5 {kind:Str->Option NameKind} (l:List (Str×Value)):∀{m:Str->Option Value} {x:Str},x∉l.map (·.1)->bindL kind l m x=m x:=by
 induction l with
 |nil=>intro m x _;rfl
 |cons p r ih=>
  intro m x h
  refine(ih (fun q=>h (List.mem_cons_of_mem _ q))).trans ?_
  by_cases ag:kind p.1=some .local
  ·refine B (if_pos ag) ?_;exact if_neg (fun q:x=p.1=>h (by refine B q ?_;exact List.mem_cons_self))
  ·(refine B (if_neg ag) ?_;rfl)
theorem Nv {kind:Str->Option NameKind} (l:List (Str×Value)):∀{m:Str->Option Value} {x:Str},x∉l.map (·.1)->bindC kind l m x=m x:=by
 induction l with
 |nil=>intro m x _;rfl
 |cons p r ih=>
  intro m x h
  refine(ih (fun q=>h (List.mem_cons_of_mem _ q))).trans ?_
  by_cases ag:kind p.1=some .local
  ·(refine B (if_pos ag) ?_;rfl)
  ·refine B (if_neg ag) ?_;exact if_neg (fun q:x=p.1=>h (by refine B q ?_;exact List.mem_cons_self))
theorem RW {kind:Str->Option NameKind} (l:List (Str×Value)):∀{m:Str->Option Value} {x:Str} {v:Value},(l.map (·.1)).Nodup->(x,v)∈l->kind x=some .local->bindL kind l m x=some v:=by
 induction l with
 |nil=>intro m x v _ aY;exact(List.not_mem_nil aY).elim
 |cons p r ih=>
  intro m x v aE aY ag
  refine cm (List.nodup_cons.mp aE) ?_;intro M O
  rcases List.mem_cons.mp aY with e|e
  ·rw [<-e] at M|-
   exact(J5 r M).trans (by rw [if_pos ag,if_pos rfl])
  ·exact ih O e ag
theorem VQ {kind:Str->Option NameKind} (l:List (Str×Value)):∀{m:Str->Option Value} {x:Str} {v:Value},(l.map (·.1)).Nodup->(x,v)∈l->kind x≠some .local->bindC kind l m x=some v:=by
 induction l with
 |nil=>intro m x v _ aY;exact(List.not_mem_nil aY).elim
 |cons p r ih=>
  intro m x v aE aY ag
  refine cm (List.nodup_cons.mp aE) ?_;intro M O
  rcases List.mem_cons.mp aY with e|e
  ·rw [<-e] at M|-
   exact(Nv r M).trans (by rw [if_neg ag,if_pos rfl])
  ·exact ih O e ag
theorem EI (ps:List Str):∀{args:List H} {loc:List (Str×cg)},jH ps args=some loc->ps.length=args.length:=by
 induction ps with
 |nil=>
  intro args loc q
  cases args with
  |nil=>rfl
  |cons _ _=>exact Z q
 |cons x r ih=>
  intro args loc q
  cases args with
  |nil=>exact Z q
  |cons v t=>exact bG q (fun l h _=>congrArg (· +1) (ih h)) Z
theorem AP (ps:List Str):∀{args:List H} {bf:List Value} {loc:List (Str×cg)} {x:Str} {bh:cg},jH ps args=some loc->a8 w CM ρ args bf->getL x loc=some bh->
  ∃y v,bh=.U y/\(x,v)∈ps.zip bf/\bY w CM ρ y v:=by
 induction ps with
 |nil=>
  intro args bf loc x bh q ay g
  cases args with
  |nil=>cases q;exact Z g
  |cons _ _=>exact Z q
 |cons p r ih=>
  intro args bf loc x bh q ay g
  cases args with
  |nil=>exact Z q
  |cons a t=>
   refine bG q (fun l aC bR=> ?_) Z
   cases bR
   refine dN ay ?_;intro v vs u O Y;subst u
   by_cases e:x=p
   ·rw [e] at g|-
    exact⟨a,v,(Option.some.inj ((if_pos rfl).symm.trans g)).symm,List.mem_cons_self,O⟩
   ·exact(ih aC Y ((if_neg e).symm.trans g)).imp fun y z=>z.imp fun u z=>⟨z.1,List.mem_cons_of_mem _ z.2.1,z.2.2⟩
open Classical in
noncomputable def h2 (ρ:a5) (h':Heap) (L:Addr) (fM:List (Str×Addr)):a5:=fun a=>
 if a=L then .frame else if∃n,fM.lookup n=some a then .cell else bQ ρ h' a
theorem Bw {P:cV->Prop} {h':Heap} {L b:Addr} {fM:List (Str×Addr)} (M:b=L->P .frame) (O:∀n,fM.lookup n=some b->P .cell) (Y:P (bQ ρ h' b)):P (h2 ρ h' L fM b):=by
 unfold h2
 by_cases e:b=L
 ·refine B (if_pos e) ?_;exact M e
 ·refine B (if_neg e) ?_
  by_cases c:∃n,fM.lookup n=some b
  ·refine B (if_pos c) ?_;exact c.elim O
  ·refine B (if_neg c) ?_;exact Y
theorem rb (ps:List Str):∀{bf:List Value},ps.length=bf.length->(ps.zip bf).map (·.1)=ps:=by
 induction ps with
 |nil=>intro bf _;rfl
 |cons p r ih=>
  intro bf h
  cases bf with
  |nil=>exact(nomatch h)
  |cons v t=>exact congrArg (p:: ·) (ih (Nat.succ.inj h))
theorem cM.frames {per:List H} {K':Top} (ap:cM w CM K ρ s per) (aB:K'.f=K.f) (bx:K'.eH=K.eH) (hs:∀L∈K'.frames,e3 (ρ L)/\∃o,s.heap.get? L=some o/\AO o):cM w CM K' ρ s per:=
 ⟨fun a x e=>ap.fV a x (aB▸e),fun a x e=>ap.fC a x (bx▸e),hs,ap.bL,ap.c0,ap.gh,ap.fT,ap.inj⟩
theorem m3 {ao:Stmt} {a:Addr} {ob:Obj} {bK:FuncData} {bf:List Value} {aj:Shared} (bU:kg F ao a ob bK) (fD:(params ao).length=bf.length) {L:Addr} (dO:env=callEnvC bK L a)
  (x:InCallC s env.locals (bindL env.kindOf ((params ao).zip bf) fun _=>none) env.cells (bindC env.kindOf ((params ao).zip bf) fun _=>none) aj) {y:Str} {v:Value} (O:(y,v)∈(params ao).zip bf):
  e1 env (bN ao) aj.heap y v:=by
 have uz:env.scope=bN ao:=by refine B dO ?_;exact bU.scope
 have yD:env.cells=cellsFrom (L+1) (bN ao).names []:=by(refine B dO ?_;refine bt bU.scope ?_);rfl
 have kN:∀y,env.kindOf y=(bN ao).names.lookup y:=fun y=>by unfold Env.kindOf;(refine B uz ?_;rfl)
 have ot:=rb _ fD
 have aQ:y∈params ao:=by refine bt ot ?_;exact List.mem_map.mpr ⟨_,O,rfl⟩
 have it:(((params ao).zip bf).map (·.1)).Nodup:=by refine B ot ?_;exact bU.J.ex
 rcases bU.J.par y aQ with q|q
 ·exact .inl ⟨q,by refine B (kN _) ?_;exact q,_,x.toInCall.ns,RW _ it O (by refine B (kN _) ?_;exact q)⟩
 ·refine bT (Option.isSome_iff_exists.mp (bU.J.ff (L+1) y q)) ?_;intro c fX
  replace fX:=(Eq.symm yD)▸fX
  refine .inr ⟨.inl q,by refine B (kN _) ?_;exact q,c,fX,?_⟩
  have:=x.cell y c fX
  rw [VQ _ it O (by rw [kN,q];exact fun z=>NameKind.noConfusion (Option.some.inj z))] at this
  exact this
theorem tD {ao:Stmt} {a:Addr} {ob:Obj} {bK:FuncData} {per:List H} {bf:List Value} {loc:List (Str×cg)} {aj:Shared} (bU:kg F ao a ob bK) (fD:(params ao).length=bf.length)
  (MX:∀x bh,getL x loc=some bh->∃y v,bh=.U y/\(x,v)∈(params ao).zip bf/\bY w CM ρ y v)
  (ap:cM w CM K ρ s per) (hc:ii ρ) {L:Addr} (dO:env=callEnvC bK L a)
  (x:InCallC s env.locals (bindL env.kindOf ((params ao).zip bf) fun _=>none) env.cells (bindC env.kindOf ((params ao).zip bf) fun _=>none) aj):
  cr w CM {K with frames:=env.locals::K.frames} env (bN ao) ρ s (h2 ρ aj.heap env.locals env.cells) aj ⟨loc,per⟩:=by
 have uz:env.scope=bN ao:=by refine B dO ?_;exact bU.scope
 have yD:env.cells=cellsFrom (L+1) (bN ao).names []:=by(refine B dO ?_;refine bt bU.scope ?_);rfl
 have kN:∀y,env.kindOf y=(bN ao).names.lookup y:=fun y=>by unfold Env.kindOf;(refine B uz ?_;rfl)
 have vw:=bU.J
 have mU:=x.toInCall.keep
 have eA:=x.toInCall.ns
 refine jd x.toInCall.same ?_;intro bw tk rF
 subst rF
 have h6:∀b,s.heap.objs.size<=b->ρ b=.free:=fun b h=>(ap.c0 b).mpr (by
  cases e:s.heap.get? b with
  |none=>rfl
  |some o=>exact absurd (Heap.lt_size e) (Nat.not_lt.mpr h))
 have BR:ρ env.locals=.free:=h6 _ x.toInCall.fresh
 have vv:∀n b,env.cells.lookup n=some b->ρ b=.free/\b≠env.locals:=fun n b h=>by
  have O:=x.above n b (mem_of_lookup h)
  exact⟨h6 _ (Nat.le_of_lt (Nat.lt_of_le_of_lt x.toInCall.fresh O)),Nat.ne_of_gt O⟩
 have Fy:h2 ρ bw env.locals env.cells env.locals=.frame:=if_pos rfl
 have t9:∀n b,env.cells.lookup n=some b->h2 ρ bw env.locals env.cells b=.cell:=fun n b h=>by
  unfold h2;(refine B (if_neg (vv n b h).2) ?_;refine B (if_pos ⟨n,h⟩) ?_;rfl)
 have jC:∀b,ρ b≠.free->h2 ρ bw env.locals env.cells b=ρ b:=fun b h=>by
  unfold h2
  (refine B (if_neg (fun q=>h (by rw [q];exact BR))) ?_;refine B (if_neg (fun⟨n,q⟩=>h (vv n b q).1)) ?_;refine B (lZ h) ?_;rfl)
 have BL:∀b ob,ρ b=.be ob->h2 ρ bw env.locals env.cells b=.be ob:=fun b ob h=>by refine B (jC b (by rw [h];exact fun z=>cV.noConfusion z)) ?_;exact h
 have DG:∀b k,ρ b=.per k->h2 ρ bw env.locals env.cells b=.per k:=fun b ob h=>by refine B (jC b (by rw [h];exact fun z=>cV.noConfusion z)) ?_;exact h
 have xd:∀b y,h2 ρ bw env.locals env.cells b≠.aD y:=fun b y h=>by
  exact Bw (P:=fun r=>r=.aD y->False) (fun _ z=>cV.noConfusion z) (fun n _ z=>cV.noConfusion z) (fun z=>(hc b).1 y (gb.mp z)) h
 refine dG (id eA) ?_;intro tg IK Qv rB wy _
 have Vc:cM w CM K (bQ ρ bw) {s with heap:=bw,toks:=tk} per:=ap.dF mU
 have ON:bQ ρ bw env.locals=.aU:=gF BR rB
 have BP:cM w CM K (h2 ρ bw env.locals env.cells) {s with heap:=bw,toks:=tk} per:=Vc.qi fun b=>by
  refine Bw (P:=fun r=>r=bQ ρ bw b\/(l9 (bQ ρ bw b)/\l9 r/\(e3 (bQ ρ bw b)->e3 r))) (fun e=> ?_) (fun n e=> ?_) (.inl rfl)
  ·(refine B e ?_;refine B ON ?_);exact .inr ⟨trivial,trivial,fun h=>h.elim⟩
  ·refine ba (x.cell n b e) ?_;intro o cq _
   refine B (gF (vv n b e).1 cq) ?_;exact .inr ⟨trivial,trivial,fun h=>h.elim⟩
 refine⟨⟨BP.frames rfl rfl fun b ah=> ?_,⟨?_,?_,?_,fun y h=> ?_,fun y h=> ?_,fun y h=> ?_,fun y h=> ?_⟩,Fy,⟨_,eA⟩,fun y bh h=> ?_,fun y h=> ?_,fun y c M O=>absurd M (vw.c0 y),fun y z c M O=> ?_,fun b y h=>absurd h (xd b y),fun b c y h _=>absurd h (xd b y)⟩,
  ⟨BL,fun b h=> ?_,DG,fun b h=> ?_,fun b h=> ?_,fun b h=> ?_,fun b y h=>absurd h ((hc b).1 y),fun b ob h e=>mU b ob e,fun b ob h e=>⟨_,mU b ob e⟩,⟨_,_,rfl⟩⟩,fun b y h=>absurd h (xd b y)⟩
 ·rcases List.mem_cons.mp ah with e|e
  ·subst e
   exact⟨by refine B Fy ?_;trivial,tg,rB,fun vs q=>by replace q:=wy▸q;cases q⟩
  ·exact BP.fl b e
 ·refine B uz ?_;exact vw.kind
 ·refine B dO ?_;exact bU.u9
 ·refine B dO ?_;exact bU.lg
 ·refine B (kN _) ?_;exact h
 ·refine B (kN _) ?_;exact h
 ·exact absurd h (vw.c0 y)
 ·refine B (kN _) ?_;exact h
 ·refine dN (MX _ _ h) ?_;intro z v u;subst u;intro O Y
  exact⟨v,m3 bU fD dO x O,bY.bu BL DG Y⟩
 ·refine bT (Option.isSome_iff_exists.mp (vw.ff (L+1) y h)) ?_;intro c fX
  replace fX:=(Eq.symm yD)▸fX
  exact⟨c,_,fX,t9 y c fX,(vv y c fX).2,x.cell y c fX⟩
 ·exact name_of_addr x.apart (mem_of_lookup M) (mem_of_lookup O)
 ·refine B (jC b (by rw [h];exact fun z=>cV.noConfusion z)) ?_;exact h
 ·exact absurd h (hc b).2.1
 ·exact absurd h (hc b).2.2
 ·refine B (jC b (by rw [h];exact fun z=>cV.noConfusion z)) ?_;exact h
theorem cr.tO {K':Top} (i3:K'.f=K.f) (bx:K'.eH=K.eH) (hs:∀L∈K.frames,L∈K'.frames) (a1:cr w CM K' env J ρ s ρ' az fs) (hc:ii ρ):
  cM w CM K (bo ρ') az fs.per/\a2 ρ s (bo ρ') az/\ii (bo ρ'):=by
 obtain⟨I,av,gA⟩:=a1
 refine⟨I.base.bo.frames i3.symm bx.symm fun L h=>I.base.bo.fl L (hs L h),⟨fun a ob e=>mh.mpr (av.bL a ob e),fun a e=> ?_,fun a k e=>nw.mpr (av.per a k e),fun a e=>absurd e (hc a).2.1,fun a e=>absurd e (hc a).2.2,fun a e=> ?_,fun a x e=>absurd e ((hc a).1 x),av.keep,av.ig,av.ao⟩,hX _⟩
 ·exact congrArg e2 (av.aU a e)
 ·exact congrArg e2 (av.stk a e)
theorem mA.bo {r:aV} {v:Value} (q:mA w CM ρ ρ' s r v):mA w CM ρ (Mine.bo ρ') s r v:=by
 cases r with
 |U x=>exact bY.bo q
 |b5 x=>
  refine gw q ?_;clear q;intro a M O Y aC
  exact⟨a,M,O,congrArg e2 Y,aC.bu (fun _ _ e=>mh.mpr e) (fun _ _ e=>nw.mpr e) fun _ e=>e⟩
 |var x=>exact q.elim
theorem gi.bo {h:Heap} {a:Addr} (q:gi CM ρ ρ' h a):gi CM ρ (Mine.bo ρ') h a:=q.imp fun T z=>⟨z.1,congrArg e2 z.2⟩
noncomputable def Hg (w:World) (CM:cp):Prop:=∀(K:Top) (env:Env) (J:Scope) (A:Around) (aT ρ:a5) (a7 s:Shared) (fs:X) (a:Addr) (l:List Env),(∀x,J.names.lookup x≠some .free)->cr w CM K env J aT a7 ρ s fs->gi CM aT ρ s.heap a->A.frames=some (env::l)->xG K A->
 ∀E,wpAny (model aw w) A (leaving env (.ref a)) (fun _ az=>∃ρ',cr w CM K env J aT a7 ρ' az fs/\gi CM aT ρ' az.heap a) E s
theorem OR (zM:Hg w CM) (bl:pO CM bj F) (bA:K.f=F) {k:Nat} (bc:ek K (k+2) A) {b:Bool} {ao:Stmt} {a:Addr} {ob:Obj} {bK:FuncData} {args per:List H} {bf:List Value} {C CQ:ct} {ai:bE} {dh:List H} (bU:kg F ao a ob bK) (sz:bK.defaults=.none)
  (q:jj b C CQ ao args per=some (ai,dh)) (ap:cM w CM K ρ s per) (hc:ii ρ) (ay:a8 w CM ρ args bf)
  (c6:∀L env,env=callEnvC bK L a->fN w CM {K with frames:=env.locals::K.frames} env (bN ao) (A.deeper env) (aJ b C CQ lu (bN ao))):
  wpAny (model aw w) A (call (.ref a) bf) (AH w CM K ρ s ai dh) (F2 w CM K ρ s ai dh) s:=by
 refine bG q (fun loc ah q=>b6 q (fun pc fs' aP q=> ?_) Z) Z
 have fD:bf.length=(params ao).length:=by(refine B (EI _ ah) ?_;refine B ay.length ?_;rfl)
 have e5:F.In s.heap:=fun b x e=>ap.bL b x (ap.fV b x (bA▸e))
 have ho:=rb _ fD.symm
 refine wpAny_call (codeAny_call_cells (Nat.lt_of_le_of_lt (by exact N4) bc.depth) (e5 _ _ bU.gp) bU.data (bl.sq _ e5) (codeRec_of e5 bU.code) bU.body (bU.bind bf fD sz) bU.tB (fun y aQ=> ?_) (fun aj x=> ?_) (by refine B bU.scope ?_;exact bU.J.tJ) (by refine B bU.scope ?_;exact bU.J.gen) (by refine B bU.scope ?_;exact bU.J.kind))
 ·have:y.1∈params ao:=by refine bt ho ?_;exact List.mem_map.mpr ⟨_,aQ,rfl⟩
  refine B bU.scope ?_
  rcases bU.J.par _ this with q|q
  ·exact .inl q
  ·exact .inr ⟨q,bU.J.ff _ _ q⟩
 ·have a1:=tD bU fD.symm (fun y bh g=>AP _ ah ay g) ap hc rfl x
  have S:=c6 s.heap.objs.size _ rfl
  have g9:∀{ρ':a5} {az:Shared},cr w CM {K with frames:=(callEnvC bK s.heap.objs.size a).locals::K.frames} (callEnvC bK s.heap.objs.size a) (bN ao) ρ s ρ' az fs'->
    cM w CM K (Mine.bo ρ') az fs'.per/\a2 ρ s (Mine.bo ρ') az/\ii (Mine.bo ρ'):=fun nS=>
   cr.tO (K:=K) (K':={K with frames:=(callEnvC bK s.heap.objs.size a).locals::K.frames}) rfl rfl (fun L h=>List.mem_cons_of_mem _ h) nS hc
  refine wpAny_mono (ow S _ aP a1) (fun f az h=> ?_) fun e az h=> ?_
  ·cases pc with
   |next=>
    refine b7 (show some (.ret (.U .none),fs'.per)=some (ai,dh) from q) ?_
    refine cm h ?_;clear h;intro u h;subst u
    exact h.elim fun ρ' z=>⟨_,(g9 z.1).1,(g9 z.1).2.1,(g9 z.1).2.2,rfl⟩
   |brk=>exact Z q
   |ret r=>
    refine b7 (show some (.ret r,fs'.per)=some (ai,dh) from q) ?_
    refine ba h ?_;clear h;intro v u h;subst u
    exact h.elim fun ρ' z=>⟨_,(g9 z.1).1,(g9 z.1).2.1,(g9 z.1).2.2,z.2.bo⟩
   |dB=>exact h.elim
  ·refine cm h ?_;clear h;intro u h;subst u
   refine b7 (show some (.dB,fs'.per)=some (ai,dh) from q) ?_
   refine dN h ?_;clear h;intro ρ' b nS u ae;subst u
   refine ba bc.frames ?_;intro l mi h7
   refine wpAny_mono (zM _ _ _ _ _ _ _ _ _ _ l (fun y=>bU.J.c0 y) nS ae (Around.frames_deeper mi) ⟨_,Around.frames_deeper mi,fun ci aX=> ?_⟩ (fun _ _=>False)) (fun _ tH h=> ?_) fun _ _ h=>h.elim
   ·rcases List.mem_cons.mp aX with e|e
    ·subst e
     refine⟨?_,_,rfl,List.mem_cons_self⟩
     show bK.scope.kind≠.module
     (refine B bU.scope ?_;refine B bU.J.kind ?_);nofun
    ·exact⟨(h7 ci e).1,(h7 ci e).2.imp fun L z=>⟨z.1,List.mem_cons_of_mem _ z.2⟩⟩
   ·refine ba h ?_;clear h;intro Y1 Lm si
    refine eg (g9 Lm) ?_;intro cS dA l4
    exact⟨rfl,_,b,cS,dA,l4,rfl,si.bo⟩
end
end Mine
end
section
open PySem PySem.W PySem.Calls PyProof.Rows
namespace Mine
theorem GM:entryFor table "proto.unchain"=some Builtin.«proto.unchain»:=entryFor_of_tree (by kernel_rfl)
theorem zY:plainId "proto.unchain"=true:=by decide+kernel
noncomputable def dz (A:Around) (h:Heap):Prop:=match A.handled with
 |none=>True
 |some (.ref e)=>∃ob,h.get? e=some ob/\rJ ob
 |_=>False
noncomputable def dT (A:Around):List Addr:=match A.handled with
 |some (.ref e)=>[e]
 |_=>[]
theorem dz.e9 {A:Around} {h:Heap} {G:Prop} (x:dz A h) (k0:A.handled=none->G) (k:∀e ob,A.handled=some (.ref e)->h.get? e=some ob->rJ ob->G):G:=by
 unfold dz at x
 generalize A.handled=t at x k0 k
 cases t with
 |none=>exact k0 rfl
 |some v=>cases v with
  |ref e=>exact k e _ rfl x.choose_spec.1 x.choose_spec.2
  |_=>exact x.elim
theorem dz.keeps {A:Around} {h h':Heap} (x:dz A h) (ag:∀b∈dT A,∀o,h.get? b=some o->h'.get? b=some o):dz A h':=by
 refine x.e9 (fun e=> ?_) (fun e ob aX M O=> ?_)
 ·unfold dz;refine B e ?_;trivial
 ·unfold dT at ag
  replace ag:=aX▸ag
  unfold dz;refine B aX ?_
  exact⟨ob,ag e (List.mem_singleton.mpr rfl) ob M,O⟩
section
variable{w:World} {A:Around} {E:Value->Shared->Prop} {s:Shared}
theorem pV {α:Type} {Q:α->Shared->Prop} (bx:dz A s.heap)
  (cW:∀h' e,(∀b o,s.heap.get? b=some o->h'.get? b=some o)->(∃ob,h'.get? e=some ob/\ob.cls=.type "StopIteration")->E (.ref e) {s with heap:=h'}):
  wpAny (model aw w) A (newExc (.type "StopIteration") []>>=fun e=>raiseNew e) Q E s:=by
 refine wpAny_bind ?_
 delta newExc newTuple
 refine wpAny_bind (wpAny_newObj_type ?_ (by size_fits))
 refine wpAny_bind (m:=firstArgMember _ _) (wpAny_of_eq (a:=Value.none) (by first|rfl|(simp only [firstArgMember];rfl)) ?_)
 refine wpAny_newObj_type ?_ (by first|exact Nat.le_of_ble_eq_true rfl|exact of_decide_eq_true rfl)
 delta raiseNew
 refine wpAny_bind (wpAny_handled ?_)
 refine bx.e9 (fun e=> ?_) (fun e ob aX M O=> ?_)<;>clear bx
 ·refine B e ?_
  exact wpAny_bind (wpAny_pure (wpAny_throw (cW _ _ (fun b o q=>Heap.get?_push_of_some _ (Heap.get?_push_of_some _ q)) ⟨_,Heap.get?_push_size _ rfl,rfl⟩)))
 ·refine B aX ?_
  obtain⟨aB,vs,O,Y,aC⟩:=O
  have cz:=Heap.lt_size M
  have bH:∀(pb hF:Obj),((s.heap.push pb).push hF).get? e=some ob:=fun pb hF=>Heap.get?_push_of_some _ (Heap.get?_push_of_some _ M)
  have b1:e≠(s.heap.push {cls:=.type "tuple",dict:=none,data:=.seq ([]:List Value).toArray}).objs.size:=by refine B (Heap.size_push _ _) ?_;exact Nat.ne_of_lt (Nat.lt_succ_of_lt cz)
  dsimp only
  refine B (if_pos (show(Value.ref e !=Value.ref _)=true from by simpa using b1)) ?_
  refine wpAny_bind (wpAny_holding (wpAny_runValue (codeAny_builtin GM ?_)))
  refine B (Around.under_plainId zY _) ?_
  unfold Builtin.«proto.unchain»
  refine wpAny_bind (wpAny_field (bH _ _) O aC ?_)
  refine B (if_pos (by decide)) ?_
  refine wpAny_pure ?_
  unfold updateField
  refine wpAny_bind (wpAny_bind (wpAny_load (Heap.get?_push_size _ rfl) ?_))
  dsimp only
  refine B (if_pos (show 2<Array.size _ from Nat.lt_of_lt_of_le (show 2<6 by decide) (by rw [Array.size_append];exact Nat.le_add_right ..))) ?_
  refine wpAny_update (Heap.get?_push_size _ rfl) (wpAny_throw (cW _ _ (fun b o q=> ?_) ⟨_,Heap.get?_update_self _ (Heap.get?_push_size _ rfl) (Obj.isFreed_of_fields (Obj.data_mapFields rfl _)),Obj.cls_mapFields ..⟩))
  have ah:=Heap.lt_size q
  exact(Heap.get?_update_other _ _ (by refine B (Heap.size_push _ _) ?_;exact Nat.ne_of_gt (Nat.lt_succ_of_lt ah))).trans (Heap.get?_push_of_some _ (Heap.get?_push_of_some _ q))
theorem SU {dj l:Addr} {i:Nat} {items} {Q:Option Value->Shared->Prop} (bx:dz A s.heap) (er:s.heap.IsListIter dj l i) (aq:s.heap.IsList l items) (ae:items[i]? =none) (aE:dj∉dT A)
  (cW:∀h',Heap.ExtBut dj s.heap h'->Q none {s with heap:=h'}):wpAny (model aw w) A (pyNext (.ref dj)) Q E s:=by
 refine et (id er) ?_;intro o cq hc hd
 obtain⟨NR,v4,_,OZ,xD⟩:=aq
 unfold pyNext
 refine wpAny_bind (wpAny_attempt (wpAny_callSpecial?_slot (name:=Str.ofString "__next__") er.typeIs slot_listiter_next
  (wpAny_call_entry slot_listiter_next er.typeIs entry_listiter_next ?_ (args_listiter_next _))))
 show wpAny _ _ (field (.ref dj) 0>>=_) _ _ s
 refine wpAny_bind (wpAny_field cq hd (x:=.ref l) rfl ?_)
 show wpAny _ _ (if(Value.ref l==Value.none)=true then _ else _) _ _ s
 refine B (if_neg (show¬((Value.ref l==Value.none)=true) from Bool.false_ne_true)) ?_
 show wpAny _ _ (field (.ref dj) 1>>=_) _ _ s
 refine wpAny_bind (wpAny_field cq hd (x:=.int i 0) rfl ?_)
 show wpAny _ _ (seqItems? (.ref l)>>=_) _ _ s
 refine wpAny_bind (wpAny_seqItems v4 xD ?_)
 simp only [Int.toNat_natCast,ae]
 refine wpAny_bind (wpAny_rule (wpAny_bind (wpAny_setField cq hd (by simp) ?_)))
 have ag:=(Heap.SameBut.update s.heap dj (Obj.mapFields (·.setIfInBounds 0 .none)))
 refine pV (dz.keeps bx fun b ah o q=>(ag.2 b (fun e=>aE (e▸ah))).trans q) fun h' e eC aX=> ?_
 refine ba aX ?_;clear aX;intro ob iN im
 refine wpAny_bind (wpAny_isInstance (T:="StopIteration") (b:=true) ⟨ob,iN,im⟩ isSubtype_stop ?_)
 exact wpAny_pure (cW _ fun b o ah q=>eC b o ((ag.2 b ah).trans q))
theorem JV {dj t:Addr} {i:Nat} {items} {Q:Option Value->Shared->Prop} (bx:dz A s.heap) (er:s.heap.IsTupleIter dj t i) (aG:s.heap.IsTuple t items) (ae:items[i]? =none) (aE:dj∉dT A)
  (cW:∀h',Heap.ExtBut dj s.heap h'->Q none {s with heap:=h'}):wpAny (model aw w) A (pyNext (.ref dj)) Q E s:=by
 refine et (id er) ?_;intro o cq hc hd
 obtain⟨NR,v4,_,OZ,xD⟩:=aG
 unfold pyNext
 refine wpAny_bind (wpAny_attempt (wpAny_callSpecial?_slot (name:=Str.ofString "__next__") er.typeIs F.slot_tuple_iterator_next
  (wpAny_call_entry F.slot_tuple_iterator_next er.typeIs F.entry_tuple_iterator_next ?_ (F.args_tuple_iterator_next_1 _))))
 show wpAny _ _ (field (.ref dj) 0>>=_) _ _ s
 refine wpAny_bind (wpAny_field cq hd (x:=.ref t) rfl ?_)
 show wpAny _ _ (if(Value.ref t==Value.none)=true then _ else _) _ _ s
 refine B (if_neg (show¬((Value.ref t==Value.none)=true) from Bool.false_ne_true)) ?_
 show wpAny _ _ (field (.ref dj) 1>>=_) _ _ s
 refine wpAny_bind (wpAny_field cq hd (x:=.int i 0) rfl ?_)
 show wpAny _ _ (seqItems? (.ref t)>>=_) _ _ s
 refine wpAny_bind (wpAny_seqItems v4 xD ?_)
 simp only [Int.toNat_natCast,ae]
 refine wpAny_bind (wpAny_rule (wpAny_bind (wpAny_setField cq hd (by simp) ?_)))
 have ag:=(Heap.SameBut.update s.heap dj (Obj.mapFields (·.setIfInBounds 0 .none)))
 refine pV (dz.keeps bx fun b ah o q=>(ag.2 b (fun e=>aE (e▸ah))).trans q) fun h' e eC aX=> ?_
 refine ba aX ?_;clear aX;intro ob iN im
 refine wpAny_bind (wpAny_isInstance (T:="StopIteration") (b:=true) ⟨ob,iN,im⟩ isSubtype_stop ?_)
 exact wpAny_pure (cW _ fun b o ah q=>eC b o ((ag.2 b ah).trans q))
theorem Hw {dj:Addr} {x left step:Int} {Q:Option Value->Shared->Prop} (bx:dz A s.heap) (er:IsRangeIter s.heap dj x left step) (MD:left<=0)
  (cW:∀h',Heap.ExtBut dj s.heap h'->Q none {s with heap:=h'}):wpAny (model aw w) A (pyNext (.ref dj)) Q E s:=by
 have gO:s.TypeIs (.ref dj) "range_iterator":=⟨_,er,rfl⟩
 unfold pyNext
 refine wpAny_bind (wpAny_attempt (wpAny_callSpecial?_slot (name:=Str.ofString "__next__") gO F.slot_range_iterator_next
  (wpAny_call_entry F.slot_range_iterator_next gO F.entry_range_iterator_next ?_ (F.args_range_iterator_next_1 _))))
 show wpAny _ _ (field (.ref dj) 0>>=_) _ _ s
 refine wpAny_bind (wpAny_field er rfl (x:=rawInt x) rfl ?_)
 show wpAny _ _ (field (.ref dj) 1>>=_) _ _ s
 refine wpAny_bind (wpAny_field er rfl (x:=rawInt left) rfl ?_)
 show wpAny _ _ (field (.ref dj) 2>>=_) _ _ s
 refine wpAny_bind (wpAny_field er rfl (x:=rawInt step) rfl ?_)
 show wpAny _ _ (if left<=0 then _ else _) _ _ s
 refine B (if_pos MD) ?_
 refine wpAny_bind (wpAny_rule ?_)
 refine wpAny_bind ?_
 refine pV bx fun h' e eC aX=> ?_
 refine ba aX ?_;clear aX;intro ob iN im
 refine wpAny_bind (wpAny_isInstance (T:="StopIteration") (b:=true) ⟨ob,iN,im⟩ isSubtype_stop ?_)
 exact wpAny_pure (cW _ fun b o ah q=>eC b o q)
theorem N8 {dj l:Addr} {Q:Option Value->Shared->Prop} (bx:dz A s.heap) (er:s.heap.IsRevIter dj l (-1))
  (cW:∀h',Heap.ExtBut dj s.heap h'->Q none {s with heap:=h'}):wpAny (model aw w) A (pyNext (.ref dj)) Q E s:=by
 refine et (id er) ?_;intro o cq hc hd
 unfold pyNext
 refine wpAny_bind (wpAny_attempt (wpAny_callSpecial?_slot (name:=Str.ofString "__next__") er.typeIs F.slot_lri_next
  (wpAny_call_entry F.slot_lri_next er.typeIs F.entry_lri_next ?_ (F.args_lri_next_1 _))))
 unfold Builtin.«list_reverseiterator.__next__»
 refine wpAny_bind (wpAny_of_eq (a:=(Value.ref dj,[])) rfl ?_)
 try dsimp only
 refine wpAny_bind (wpAny_field cq hd (x:=rawInt (-1)) rfl ?_)
 show wpAny _ _ (if(-1:Int)<0 then _ else _) _ _ s
 refine B (if_pos (by decide)) ?_
 refine wpAny_bind (wpAny_rule ?_)
 first
 |refine pV bx fun h' e eC aX=> ?_
 |(refine wpAny_bind ?_;refine pV bx fun h' e eC aX=> ?_)
 refine ba aX ?_;clear aX;intro ob iN im
 refine wpAny_bind (wpAny_isInstance (T:="StopIteration") (b:=true) ⟨ob,iN,im⟩ isSubtype_stop ?_)
 exact wpAny_pure (cW _ fun b o ah q=>eC b o q)
theorem Hk {dj d:Addr} {i cs:Nat} {K:Type} [DecidableEq K] {knd:KeyKind aw w K} {aS:List (K×Value)} {Q:Option Value->Shared->Prop} (bx:dz A s.heap) (er:s.heap.IsKeyIter dj d i aS.length cs)
  (aY:s.heap.DictAt knd d aS cs) (ae:aS[i]? =none) (Mt:dj∉dT A)
  (cW:∀h',Heap.ExtBut dj s.heap h'->Q none {s with heap:=h'}):wpAny (model aw w) A (pyNext (.ref dj)) Q E s:=by
 refine et (id er) ?_;intro o cq hc hd
 refine u3 (id aY) ?_;intro gZ es A0 sw jU ag an aE
 unfold pyNext
 refine wpAny_bind (wpAny_attempt (wpAny_callSpecial?_slot (name:=Str.ofString "__next__") er.typeIs F.slot_dict_keyiterator_next
  (wpAny_call_entry F.slot_dict_keyiterator_next er.typeIs F.entry_dict_keyiterator_next ?_ (F.args_dict_keyiterator_next_1 _))))
 refine wpAny_bind (wpAny_pure ?_)
 refine wpAny_bind ?_
 refine wpAny_bind ?_
 first|refine wpAny_bind (wpAny_typeNameOfWhole_keyiter er.typeIs (wpAny_pure ?_))|refine wpAny_bind (wpAny_typeNameOf_keyiter er.typeIs (wpAny_pure ?_))
 refine wpAny_bind (wpAny_fieldsOf cq hd ?_)
 have Y3:Builtin.Dict_items.ownsTuple "dict_keyiterator"=false:=by decide
 show wpAny _ _ (if(Value.ref d==Value.none)=true then _ else _) _ _ s
 refine B (if_neg (show¬((Value.ref d==Value.none)=true) from Bool.false_ne_true)) ?_
 refine wpAny_bind (wpAny_pure ?_)
 refine wpAny_bind (wpAny_dictEntries A0 jU ?_)
 have dv:es.size=aS.length:=by refine bt an.length ?_;simp
 refine B (if_neg (by rw [dv];simp)) ?_
 refine wpAny_bind (wpAny_pure ?_)
 refine wpAny_bind (wpAny_dictEpoch A0 jU ?_)
 refine B (if_neg (by simp)) ?_
 refine wpAny_pure ?_
 have ru:es.size<=i:=by refine B dv ?_;simpa using ae
 simp only [show¬((i:Int)<0) from by exact DP,if_false,Int.toNat_natCast,Array.getElem?_eq_none ru]
 refine wpAny_bind ?_
 first|refine wpAny_bind (wpAny_typeNameOfWhole_keyiter er.typeIs (wpAny_pure ?_))|refine wpAny_bind (wpAny_typeNameOf_keyiter er.typeIs (wpAny_pure ?_))
 show wpAny _ _ (setField (.ref dj) 0 .none>>=_) _ _ s
 refine wpAny_bind (wpAny_setField cq hd (by simp) ?_)
 have ag:=(Heap.SameBut.update s.heap dj (Obj.mapFields (·.setIfInBounds 0 .none)))
 refine pV (dz.keeps bx fun b ah o q=>(ag.2 b (fun e=>Mt (e▸ah))).trans q) fun h' e eC aX=> ?_
 refine ba aX ?_;clear aX;intro ob iN im
 refine wpAny_bind (wpAny_isInstance (T:="StopIteration") (b:=true) ⟨ob,iN,im⟩ isSubtype_stop ?_)
 exact wpAny_pure (cW _ fun b o ah q=>eC b o ((ag.2 b ah).trans q))
theorem yg (I ax:Addr) (b1:ax≠I) (fw:I∉dT A) (items:Array Value):
  Walks aw w A I (I::ax::dT A) [I] items.size (fun i v=>items[i]? =some v) (fun i h=>(h.IsListIter I ax i/\h.IsList ax items)/\dz A h) where
 sub:=fun b ah=>by simp at ah;simp [ah]
 frame:=fun _ _ _ ao ag=>⟨⟨ao.1.1.at fun o e=>ag I (by simp) o e,ao.1.2.at fun o e=>ag ax (by simp) o e⟩,ao.2.keeps fun b ah o e=>ag b (by simp [ah]) o e⟩
 item:=fun i s Q E aR ao cW=>by
  refine wpAny_pyNext_list_item ao.1.1 ao.1.2 (x:=items[i]) (by simp [aR]) fun h' ki ft=> ?_
  exact cW _ h' s.toks (by simp [aR]) ⟨⟨ki,ao.1.2.extBut ft.extBut b1⟩,ao.2.keeps fun b ah o e=>(ft.2 b (fun q=>fw (q▸ah))).trans e⟩ fun b o ah e=>ft.extBut b o (fun h=>ah (by simp [h])) e
 done:=fun s Q E ao cW=>SU ao.2 ao.1.1 ao.1.2 (by simp) fw fun h' hK=>cW h' s.toks fun b o ah e=>hK b o (fun h=>ah (by simp [h])) e
 self:=fun _ _ _ _ ao cW=>wpAny_pyIter_listiter ao.1.1 cW
theorem C7 (I ax:Addr) (b1:ax≠I) (fw:I∉dT A) (items:Array Value):
  Walks aw w A I (I::ax::dT A) [I] items.size (fun i v=>items[i]? =some v) (fun i h=>(h.IsTupleIter I ax i/\h.IsTuple ax items)/\dz A h) where
 sub:=fun b ah=>by simp at ah;simp [ah]
 frame:=fun _ _ _ ao ag=>⟨⟨ao.1.1.at fun o e=>ag I (by simp) o e,ao.1.2.at fun o e=>ag ax (by simp) o e⟩,ao.2.keeps fun b ah o e=>ag b (by simp [ah]) o e⟩
 item:=fun i s Q E aR ao cW=>by
  refine wpAny_pyNext_tuple_item ao.1.1 ao.1.2 (x:=items[i]) (by simp [aR]) fun h' ki ft=> ?_
  exact cW _ h' s.toks (by simp [aR]) ⟨⟨ki,ao.1.2.extBut ft.extBut b1⟩,ao.2.keeps fun b ah o e=>(ft.2 b (fun q=>fw (q▸ah))).trans e⟩ fun b o ah e=>ft.extBut b o (fun h=>ah (by simp [h])) e
 done:=fun s Q E ao cW=>JV ao.2 ao.1.1 ao.1.2 (by simp) fw fun h' hK=>cW h' s.toks fun b o ah e=>hK b o (fun h=>ah (by simp [h])) e
 self:=fun _ _ _ _ ao cW=>wpAny_pyIter_tupleiter ao.1.1 cW
theorem EL {K:Type} [DecidableEq K] {knd:KeyKind aw w K} (I d:Addr) (b1:d≠I) (fw:I∉dT A) (aS:List (K×Value)) (cs:Nat):
  Walks aw w A I (I::d::dT A) [I] aS.length (fun i v=>∃k x,aS[i]? =some (k,x)/\knd.is k v=true) (fun i h=>(h.IsKeyIter I d i aS.length cs/\h.DictAt knd d aS cs)/\dz A h) where
 sub:=fun b ah=>by simp at ah;simp [ah]
 frame:=fun _ _ _ ao ag=>⟨⟨ao.1.1.at fun o e=>ag I (by simp) o e,ao.1.2.at' fun o e=>ag d (by simp) o e⟩,ao.2.keeps fun b ah o e=>ag b (by simp [ah]) o e⟩
 item:=fun i s Q E aR ao cW=>by
  obtain⟨⟨k,x⟩,ae⟩:∃p,aS[i]? =some p:=⟨aS[i],by simp [aR]⟩
  refine wpAny_pyNext_dict_item ao.1.1 ao.1.2 ae fun key h' ho ki ft=> ?_
  exact cW key h' s.toks ⟨k,x,ae,ho⟩ ⟨⟨ki,ao.1.2.extBut ft.extBut b1⟩,ao.2.keeps fun b ah o e=>(ft.2 b (fun q=>fw (q▸ah))).trans e⟩ fun b o ah e=>ft.extBut b o (fun h=>ah (by simp [h])) e
 done:=fun s Q E ao cW=>Hk ao.2 ao.1.1 ao.1.2 (by simp) fw fun h' hK=>cW h' s.toks fun b o ah e=>hK b o (fun h=>ah (by simp [h])) e
 self:=fun _ _ _ _ ao cW=>wpAny_pyIter_keyiter ao.1.1 cW
theorem Iw (I:Addr) (fw:I∉dT A) (a c:Int) (n:Nat):
  Walks aw w A I (I::dT A) [I] n (fun i v=>∃t,v=.int (a+i*c) t) (fun i h=>IsRangeIter h I (a+(i:Nat)*c) ((n:Int)-(i:Nat)) c/\dz A h) where
 sub:=fun _ ah=>by simp at ah;simp [ah]
 frame:=fun _ _ _ ao ag=>⟨ag I (by simp) _ ao.1,ao.2.keeps fun b ah o e=>ag b (by simp [ah]) o e⟩
 item:=fun i s Q E aR ao cW=>by
  refine wpAny_pyNext_range_item ao.1 (by exact MK aR) fun h' ki ft=> ?_
  refine cW _ h' _ ⟨_,rfl⟩ ⟨?_,ao.2.keeps fun b ah o e=>(ft.2 b (fun q=>fw (q▸ah))).trans e⟩ fun b o ah e=>ft.extBut b o (fun h=>ah (by simp [h])) e
  have ak:a+((i+1:Nat):Int)*c=a+(i:Int)*c+c:=by push_cast;(refine B (Int.add_mul _ _ _) ?_;refine B (Int.one_mul _) ?_;refine B (Int.add_assoc _ _ _) ?_;rfl)
  have ar:(n:Int)-((i+1:Nat):Int)=(n:Int)-(i:Int)-1:=by push_cast;exact QR
  (refine B ak ?_;refine B ar ?_);exact ki
 done:=fun s Q E ao cW=>Hw ao.2 ao.1 (by exact QJ) fun h' hK=>cW h' s.toks fun b o ah e=>hK b o (fun h=>ah (by simp [h])) e
 self:=fun _ _ _ _ ao cW=>wpAny_pyIter_rangeiter ao.1 cW
theorem SI (I l:Addr) (b1:l≠I) (fw:I∉dT A) (items:Array Value):
  Walks aw w A I (I::l::dT A) [I] items.size (fun i v=>items[items.size-1-i]? =some v) (fun i h=>(i<=items.size/\h.IsRevIter I l ((items.size:Int)-1-(i:Int))/\h.IsList l items)/\dz A h) where
 sub:=fun b ah=>by simp at ah;simp [ah]
 frame:=fun _ _ _ x ag=>⟨⟨x.1.1,x.1.2.1.at fun o e=>ag I (by simp) o e,x.1.2.2.at fun o e=>ag l (by simp) o e⟩,x.2.keeps fun b ah o e=>ag b (by simp [ah]) o e⟩
 item:=fun i s Q E aR x cW=>by
  have e:(items.size:Int)-1-(i:Int)=((items.size-1-i:Nat):Int):=by exact PA aR
  have er:=x.1.2.1
  replace er:=e▸er
  have ae:items[items.size-1-i]? =some (items[items.size-1-i]'(by exact Ee e)):=Array.getElem?_eq_getElem (by exact Ee e)
  refine wpAny_pyNext_rev_item er x.1.2.2 ae fun h' ki ft=> ?_
  have ar:((items.size-1-i:Nat):Int)-1=(items.size:Int)-1-((i+1:Nat):Int):=by omega
  replace ki:=ar▸ki
  exact cW _ h' s.toks ae ⟨⟨aR,ki,x.1.2.2.at fun o vS=>(ft.2 l b1).trans vS⟩,x.2.keeps fun b ah o e=>(ft.2 b (fun q=>fw (q▸ah))).trans e⟩ fun b o ah vS=>ft.extBut b o (fun h=>ah (by simp [h])) vS
 done:=fun s Q E x cW=>by
  have e:(items.size:Int)-1-(items.size:Int)= -1:=by exact Il
  have er:=x.1.2.1
  replace er:=e▸er
  exact N8 x.2 er fun h' hK=>cW h' s.toks fun b o ah e=>hK b o (fun h=>ah (by simp [h])) e
 self:=fun _ _ _ _ x cW=>wpAny_pyIter_revIter x.1.2.1 cW
end
end Mine
end
section
open PySem PySem.W PySem.Calls PyProof.Rows
namespace Mine
structure jB (CM:cp) (bj:dM) (F:Frag):Prop extends tZ CM bj F where
 lg:∀f:String,f∈["len","abs","sum","sorted","min","isinstance"]->hv F (Str.ofString f)=some (.builtin f)
 tt:∀f:String,f∈["int","tuple","dict","range","reversed","bool","list"]->hv F (Str.ofString f)=some (.type f)
section
variable{w:World} {CM:cp} {bj:dM} {F:Frag} {K:Top} {env:Env} {J:Scope} {A:Around} {ρ ρ₀ ρ':a5} {s db az:Shared} {fs fs':X} {R:bk}
theorem f5.e9 {A:Around} {G:Prop} (h:f5 K A) (k0:A.handled=none->G) (k:∀e ob,K.eH=some (e,ob)->A.handled=some (.ref e)->rJ ob->G):G:=by
 unfold f5 at h
 generalize K.eH=t at h k
 cases t with
 |none=>exact k0 h
 |some p=>exact k p.1 p.2 rfl h.1 h.2
theorem cM.lV {per:List H} (ap:cM w CM K ρ s per) (h:f5 K A):dz A s.heap:=by
 unfold dz
 refine h.e9 (fun e=> ?_) (fun e ob q ak ar=> ?_)
 ·refine B e ?_;trivial
 ·refine B ak ?_;exact⟨ob,ap.bL _ _ (ap.fC _ _ q),ar⟩
theorem cM.dT {per:List H} (ap:cM w CM K ρ s per) (h:f5 K A):∀b∈dT A,∃ob,ρ b=.be ob:=by
 unfold Mine.dT
 refine h.e9 (fun e=> ?_) (fun e ob q ak ar=> ?_)
 ·refine B e ?_;exact fun b ah=>(List.not_mem_nil ah).elim
 ·refine B ak ?_
  exact fun b ah=>⟨ob,by refine B (List.mem_singleton.mp ah) ?_;exact ap.fC _ _ q⟩
theorem cM.Aa {per:List H} {a:Addr} (ap:cM w CM K ρ s per) (h:f5 K A) (aE:∀ob,ρ a≠.be ob):a∉Mine.dT A:=fun q=>
 let⟨ob,e⟩:=ap.dT h a q;aE ob e
theorem Qm (l:List H):∀{ns:List Int} {vs:List Value},vd l=some ns->a8 w CM ρ l vs->∃xs:Array (Int×Tok),vs=(intItems xs).toList/\xs.toList.map (·.1)=ns:=by
 induction l with
 |nil=>intro ns vs q h;cases q;refine B (show vs=[] from h) ?_;exact⟨#[],by simp [intItems],rfl⟩
 |cons x r ih=>
  intro ns vs q h
  refine hJ q (fun i t aR aG q=>cG q ?_) Z
  replace h:=(jP aR)▸h
  obtain⟨v,t,rfl,⟨tk,rfl⟩,Y⟩:=h
  refine ba (ih aG Y) ?_;intro xs aC bR
  refine⟨⟨(i,tk)::xs.toList⟩,?_,by simp [bR]⟩
  refine B aC ?_;simp [intItems]
theorem Xn {n:Nat} (h:n<=a4):(n:Int)<2^63:=Int.ofNat_lt.mpr (Nat.lt_of_le_of_lt h (by decide))
theorem I4 {v:H} {x:Value} {n:Nat} (q:yw v=some n) (hz:n<=a4) (I:aK w CM K env J ρ s fs) (ae:cv w CM ρ s v x):
  wpAny (model aw w) A (call (.builtin "len") [x]) (b4 w CM K env J ρ s fs (.U (.int n)) fs) cf s:=by
 have cJ:∀{m:Nat} {tk:Tok},m=n->b4 w CM K env J ρ s fs (.U (.int n)) fs (.int m tk) {s with toks:=s.toks+1+1}:=fun{m tk} e=>by refine B e ?_;exact eu (tk:=s.toks+1+1) I ⟨tk,rfl⟩
 have aE:∀{m:Nat},m=n->(m:Int)<2^63:=fun e=>e▸Xn hz
 cases v with
 |am l=>
  refine dG (ae.am I.base) ?_;intro a vs k u;subst u;intro M O
  have Y:(Array.mk vs).size=n:=O.length.trans (Option.some.inj q)
  exact call_len_list (fy M) (aE Y) (cJ Y)
 |aF l=>
  refine dG (ae.aF I.base) ?_;intro a vs k u;subst u;intro M O
  have Y:(Array.mk vs).size=n:=O.length.trans (Option.some.inj q)
  exact PyProof.Rows.len_tuple (items:=Array.mk vs) ⟨_,M,rfl,k,rfl⟩ (aE Y) (cJ Y)
 |V l=>
  refine gn (ae.V I.base) ?_;intro a aS u;subst u;intro aL M O
  have Y:aS.length=n:=O.length.trans (Option.some.inj q)
  exact call_len_dict aL M (aE Y) (cJ Y)
 |_=>exact Z q
theorem Vt {v:H} {x:Value} {r:aV} (q:B5 v=some r) (I:aK w CM K env J ρ s fs) (ae:cv w CM ρ s v x):
  wpAny (model aw w) A (call (.type "int") [x]) (b4 w CM K env J ρ s fs r fs) cf s:=by
 cases v with
 |int i=>
  refine cG q ?_
  refine bT ae.int ?_;intro t u;subst u
  exact call_int_int (eu (tk:=s.toks) I ⟨_,rfl⟩)
 |bool b=>
  refine cG q ?_
  refine B ae.bool ?_
  exact call_int_bool (eu I ⟨_,rfl⟩)
 |_=>exact Z q
theorem To {i:Int} {x:Value} (I:aK w CM K env J ρ s fs) (ae:cv w CM ρ s (.int i) x):
  wpAny (model aw w) A (call (.builtin "abs") [x]) (b4 w CM K env J ρ s fs (.U (.int (if i<0 then-i else i))) fs) cf s:=by
 refine bT ae.int ?_;intro t u;subst u
 exact call_abs_int fun u tk=>eu I ⟨_,rfl⟩
theorem TK {l:List H} {ns:List Int} {x:Value} (M:vd l=some ns) (bc:f5 K A) (I:aK w CM K env J ρ s fs) (ae:cv w CM ρ s (.am l) x):
  wpAny (model aw w) A (call (.builtin "sum") [x]) (b4 w CM K env J ρ s fs (.U (.int ns.sum)) fs) cf s:=by
 refine dG (ae.am I.base) ?_;intro a vs n u;subst u;intro O Y
 refine ba (Qm _ M Y) ?_;intro xs aC bR
 have aq:s.heap.IsList a (intItems xs):=by
  have:=fy O
  replace this:=aC▸this
  exact this
 have h6:s.heap.get? s.heap.objs.size=none:=e8
 have d7:∀ob,ρ s.heap.objs.size≠.be ob:=fun ob e=>by replace e:=((I.base.c0 _).mpr h6)▸e;cases e
 refine call_sum_walkG (iter_intList aq fun cu e ao Cv Sc=> ?_)
 subst e
 refine⟨_,_,_,_,_,_,numAt xs,rfl,yg (A:=A.in1) _ a Sc (I.base.Aa (A:=A) bc d7) (intItems xs),⟨ao,?_⟩,fun b ah=> ?_,(fun _ _=>intItems_at),fun h' tk dW ag=> ?_⟩
 ·exact dz.keeps (A:=A.in1) (I.base.lV (A:=A) bc) fun b _ o e=>Heap.get?_push_of_some _ e
 ·rcases List.mem_cons.mp ah with e|ah
  ·exact Cv b (by refine B e ?_;simp)
  ·rcases List.mem_cons.mp ah with e|ah
   ·exact Cv b (by refine B e ?_;simp)
   ·refine bT (I.base.dT (A:=A) bc b ah) ?_;intro ob e
    exact Heap.lt_size (Heap.get?_push_of_some _ (I.base.bL _ _ e))
 ·have z:preSum (numAt xs) (intItems xs).size=ns.sum:=by
   (refine B (preSum_eq _ _) ?_;refine bt bR ?_;refine B (List.take_of_length_le (by simp [intItems])) ?_;rfl)
  refine B z ?_
  have eC:=old_kept ag
  refine b4.trans (a2.dF eC) ce.dF (eu (tk:=tk) (s:={s with heap:=h',toks:=tk}) (I.dF (tk:=tk) eC) ⟨dW,rfl⟩)
theorem UU {a b:Int} {t u:Tok} (bc:f5 K A) (I:aK w CM K env J ρ s fs):
  wpAny (model aw w) A (call (.builtin "min") [.int a t,.int b u]) (b4 w CM K env J ρ s fs (.U (.int (if b<a then b else a))) fs) cf s:=by
 have gO:(s.heap.push {cls:=.type "tuple",data:=.seq #[.int a t,.int b u]}).IsTuple s.heap.objs.size (intItems #[(a,t),(b,u)]):=⟨_,Heap.get?_push_size _ rfl,rfl,0,by simp [intItems]⟩
 refine call_min_two (wpAny_pyIter_tuple gO ?_)
 have dv:(s.heap.push {cls:=.type "tuple",data:=.seq #[.int a t,.int b u]}).objs.size=s.heap.objs.size+1:=Heap.size_push ..
 have h6:s.heap.get? (s.heap.objs.size+1)=none:=by
  cases e:s.heap.get? (s.heap.objs.size+1) with
  |none=>rfl
  |some ob=>exact absurd (Heap.lt_size e) (Nat.not_lt.mpr (Nat.le_succ _))
 have d7:∀ob,ρ (s.heap.objs.size+1)≠.be ob:=fun ob e=>by replace e:=((I.base.c0 _).mpr h6)▸e;cases e
 refine⟨_,_,[_],_,_,_,_,rfl,C7 (A:=A.in1) _ s.heap.objs.size (by refine B dv ?_;exact Nat.ne_of_lt (Nat.lt_succ_self _)) (by refine B dv ?_;exact I.base.Aa (A:=A) bc d7) (intItems #[(a,t),(b,u)]),
  ⟨⟨⟨_,Heap.get?_push_size _ rfl,rfl,rfl⟩,gO.push _⟩,dz.keeps (A:=A.in1) (I.base.lV (A:=A) bc) fun b _ o e=>Heap.get?_push_of_some _ (Heap.get?_push_of_some _ e)⟩,fun c hc=> ?_,by simp [intItems],CmpOf.ints_lt (numAt #[(a,t),(b,u)]) (fun _ _=>intItems_at),fun v h' tk iQ ag=> ?_⟩
 ·show c<((s.heap.push _).push _).objs.size
  (refine B (Heap.size_push _ _) ?_;refine B dv ?_)
  rcases List.mem_cons.mp hc with e|hc
  ·(refine B e ?_;refine B dv ?_);exact Nat.lt_succ_self _
  ·rcases List.mem_cons.mp hc with e|hc
   ·refine B e ?_;exact Nat.lt_succ_of_lt (Nat.lt_succ_self _)
   ·refine bT (I.base.dT (A:=A) bc c hc) ?_;intro ob e
    exact Nat.lt_succ_of_lt (Nat.lt_succ_of_lt (Heap.lt_size (I.base.bL _ _ e)))
 ·have nv:∀c o,s.heap.get? c=some o->h'.get? c=some o:=fun c o e=>by
   refine ag c o (fun aY=> ?_) (Heap.get?_push_of_some _ (Heap.get?_push_of_some _ e))
   rcases List.mem_cons.mp aY with ak|aY
   ·have:=Heap.lt_size e;(replace this:=ak▸this;replace this:=dv▸this);exact Nat.lt_irrefl _ (Nat.lt_of_succ_lt this)
   ·cases aY
  have ay:v=if b<a then Value.int b u else Value.int a t:=by
   have pH:(intItems #[(a,t),(b,u)])[argBest (fun i j=>decide (numAt #[(a,t),(b,u)] i<numAt #[(a,t),(b,u)] j)) 1]? =some v:=by
    have MV:(intItems #[(a,t),(b,u)]).size-1=1:=by simp [intItems]
    refine bt MV ?_;exact iQ
   by_cases iZ:b<a
   ·have e:argBest (fun i j=>decide (numAt #[(a,t),(b,u)] i<numAt #[(a,t),(b,u)] j)) 1=1:=by simp [argBest,numAt,iZ]
    replace pH:=e▸pH
    simpa [intItems,iZ] using pH.symm
   ·have e:argBest (fun i j=>decide (numAt #[(a,t),(b,u)] i<numAt #[(a,t),(b,u)] j)) 1=0:=by simp [argBest,numAt,iZ]
    replace pH:=e▸pH
    simpa [intItems,iZ] using pH.symm
  refine b4.trans (a2.dF nv) ce.dF (eu (tk:=tk) (s:={s with heap:=h',toks:=tk}) (I.dF (tk:=tk) nv) ?_)
  refine B ay ?_
  by_cases iZ:b<a
  ·(refine B (if_pos iZ) ?_;refine B (if_pos iZ) ?_);exact⟨_,rfl⟩
  ·(refine B (if_neg iZ) ?_;refine B (if_neg iZ) ?_);exact⟨_,rfl⟩
theorem Xo {l:List H} {x:Value} (hz:l.length<=a4) (I:aK w CM K env J ρ s fs) (ae:cv w CM ρ s (.am l) x):
  wpAny (model aw w) A (call (.type "tuple") [x]) (b4 w CM K env J ρ s fs (.U (.aF l)) fs) cf s:=by
 refine dG (ae.am I.base) ?_;intro a vs n u;subst u;intro M O
 have Y:=O.length
 refine call_tuple_list (fy M) (fun h' ag=> ?_) (by(refine B List.size_toArray ?_;refine B Y ?_);exact Nat.le_trans hz iP)
 refine b4.trans (a2.dF (tk:=s.toks) ag) ce.dF (xA (tk:=s.toks) (s:={s with heap:=h'}) (I.dF (tk:=s.toks) ag) (fun b ob e=>Heap.get?_push_of_some _ e) e8 (Heap.get?_push_size _ rfl) fun ρ' aB an cq=> ?_)
 exact⟨_,vs,0,rfl,cq,O.bu (fun b o e=>aB _ _ (hU.mpr e)) (fun b o e=>an _ _ (gV.mpr e))⟩
theorem Rf (i3:∃ob,K.f.lookup sysModules=some ob) {l:List (al×H)} {x:Value} (hz:l.length<=a4) (I:aK w CM K env J ρ s fs) (ae:cv w CM ρ s (.V l) x):
  wpAny (model aw w) A (call (.type "dict") [x]) (b4 w CM K env J ρ s fs (.b5 (.V l)) fs) cf s:=by
 refine gn (ae.V I.base) ?_;intro a aS u;subst u;intro aL M O
 have Y:=O.length
 refine kt_call_dict aL M (by refine B Y ?_;exact Nat.le_trans hz iP) fun h' dQ pG=> ?_
 have mU:∀b ob,s.heap.get? b=some ob->h'.get? b=some ob:=fun b ob e=>by
  refine B (pG.2 b (Nat.ne_of_lt (Heap.lt_size e))) ?_;exact Heap.get?_push_of_some _ e
 refine nI (tk:=s.toks) I mU e8 ?_
 refine pa dQ ?_;clear dQ;intro ob d4 cs ak ar bP cY dn fb
 exact⟨ob,d4,cs,aS,q9 i3 I e8,ak,ar,bP,cY,dn,fb,O⟩
end
end Mine
end
section
open PySem PySem.W PySem.Calls PyProof.Rows
namespace Mine
noncomputable def ja (CM:cp) (c:Str):Option Value:=
 if rq.contains c then some (.type c.toString) else if hB.contains c then(CM c).map .ref else none
noncomputable def xT (T:String) (c:Str):Bool:=
 if T="bool" then decide (c=("bool":Str))||decide (c=("int":Str)) else if T="int" then decide (c=("int":Str)) else if T="list" then decide (c=("list":Str)) else if T="dict" then decide (c=("dict":Str)) else false
structure pZ (CM:cp) (bj:dM) (F:Frag):Prop extends jB CM bj F where
 kt:∀T,T∈["NoneType","bool","int","str","list","dict","tuple"]->∀c eE,ja CM c=some eE->kitOne F (.type T) eE=some (xT T c)
 q6:∀d D c eE,CM d=some D->(d=("Shelf":Str)\/hB.contains d=true)->ja CM c=some eE->kitOne F (.ref D) eE=some (decide (c=d))
 BG:∀d D,CM d=some D->(d=("Shelf":Str)\/hB.contains d=true)->plainGet F D "__class__"=true/\hasDictIn F D=true/\findIn F (.ref D) "__class__"=some (some (.builtin "object.__class__"))/\mroIn F D (.type "object")=some true
 yb:specialIn F (.builtin "object.__class__") "__get__"=some (some (.builtin "getset_descriptor.__get__"))/\takesIn F (.builtin "object.__class__")=some true
 cls:∀c,hB.contains c=true->∃C,CM c=some C
 DU:∀c eE,ja CM c=some eE->hv F c=some eE
section
variable{w:World} {CM:cp} {bj:dM} {F:Frag} {K:Top} {env:Env} {J:Scope} {A:Around} {ρ ρ₀ ρ':a5} {s db az:Shared} {fs fs':X} {R:bk}
theorem pZ.ja (bl:pZ CM bj F) {c:Str} (h:(rq.contains c||hB.contains c)=true):∃eE,Mine.ja CM c=some eE:=by
 unfold Mine.ja
 split
 ·exact⟨_,rfl⟩
 ·rename_i e
  have hc:hB.contains c=true:=by
   rcases Bool.or_eq_true_iff.mp h with h|h
   ·exact absurd h e
   ·exact h
  refine B (if_pos hc) ?_
  refine bT (bl.cls c hc) ?_;intro C q
  exact⟨_,by refine B q ?_;rfl⟩
theorem Qk (bl:pZ CM bj F) (bA:K.f=F) {v:H} {x eE:Value} {c:Str} {b:Bool} (q:gz v c=some b) (hc:Mine.ja CM c=some eE) (I:aK w CM K env J ρ s fs) (ae:cv w CM ρ s v x):
  wpAny (model aw w) A (call (.builtin "isinstance") [x,eE]) (b4 w CM K env J ρ s fs (.U (.bool b)) fs) cf s:=by
 subst bA
 refine cK q ?_ Z;clear q;intro aA q
 have av:=I.in
 have kt:∀T,T∈["NoneType","bool","int","str","list","dict","tuple"]->kitOne K.f (.type T) eE=some (xT T c):=fun T gO=>bl.kt T gO c eE hc
 have cJ:∀{c:Bool},some c=some b->∀tk,b4 w CM K env J ρ s fs (.U (.bool b)) fs (.bool c) {s with toks:=tk}:=fun h tk=>eu I (congrArg Value.bool (Option.some.inj h))
 cases v with
 |none=>
  refine B ae.none ?_
  exact kia_one kitx_none av trivial (kt "NoneType" (by decide)) (fun z=>Value.noConfusion z) (cJ q)
 |bool y=>
  refine B ae.bool ?_
  exact kia_one kitx_bool av trivial (kt "bool" (by decide)) (fun z=>Value.noConfusion z) (cJ q)
 |int y=>
  refine bT ae.int ?_;intro t u;subst u
  exact kia_one kitx_int av trivial (kt "int" (by decide)) (fun z=>Value.noConfusion z) (cJ q)
 |str y=>
  refine bT ae.str ?_;intro t u;subst u
  exact kia_one kitx_str av trivial (kt "str" (by decide)) (fun z=>Value.noConfusion z) (cJ q)
 |aF l=>
  refine dG (ae.aF I.base) ?_;intro a vs n u;subst u;intro M O
  exact kia_one kitx_tuple av ⟨_,M,rfl⟩ (kt "tuple" (by decide)) (fun z=>Value.noConfusion z) (cJ q)
 |am l=>
  refine dG (ae.am I.base) ?_;intro a vs n u;subst u;intro M O
  exact kia_one kitx_list av ⟨_,M,rfl⟩ (kt "list" (by decide)) (fun z=>Value.noConfusion z) (cJ q)
 |V l=>
  refine gn (ae.V I.base) ?_;intro a aS u;subst u;intro aL M O
  exact kia_one kitx_dict av M.typeIs (kt "dict" (by decide)) (fun z=>Value.noConfusion z) (cJ q)
 |dV d l=>
  refine cK q ?_ Z;clear q;intro hd q
  have hH:d=("Shelf":Str)\/hB.contains d=true:=by simpa using hd
  obtain⟨ad,dd,gZ,C,rfl,M,O,Y,aC,bR⟩:=ae.dV
  refine nX (bl.BG d C M hH) ?_;intro d8 fG hu kG
  have In:InstAt s.heap ad (instObj C dd) C (some gZ):=⟨I.base.bL _ _ O,rfl,rfl,I.base.bL _ _ Y⟩
  exact kia_one (kitx_own d8 fG hu bl.yb.1 bl.yb.2 kG) av In (bl.q6 d C c eE M hH hc) (fun z=>Value.noConfusion z) (cJ q)
 |per k=>exact Z q
end
end Mine
end
section
open PySem PySem.W PySem.Calls PyProof.Rows
namespace Mine
theorem oU {A:Around} {h:Heap} (x:dz A h):∀b∈dT A,b<h.objs.size:=by
 unfold dT
 refine x.e9 (fun e=> ?_) fun e ob aX M _=> ?_
 ·refine B e ?_;exact fun b ah=>(List.not_mem_nil ah).elim
 ·refine B aX ?_
  exact fun b ah=>by refine B (List.mem_singleton.mp ah) ?_;exact Heap.lt_size M
section
variable{w:World} {A:Around} {E:Value->Shared->Prop} {s:Shared} {K:Type} [DecidableEq K] {knd:KeyKind aw w K} {d:Addr} {aS:List (K×Value)} {cs:Nat}
noncomputable abbrev tl (knd:KeyKind aw w K) (aS:List (K×Value)):Nat->Value->Prop:=fun i v=>∃k x,aS[i]? =some (k,x)/\knd.is k v=true
theorem LA {R:Result->Shared->Prop} (bx:dz A s.heap) (c1:(d==sysModules)=false) (aY:s.heap.DictAt knd d aS cs) (S:Addr) (FH:S≠d) (xg:S∉dT A) (res:Value) (G1:Nat) (mK:s.heap.get? S=some {cls:=.type "list",data:=.seq #[] G1})
  (ga:∀h' tk hj c',(∀b o,b≠S->s.heap.get? b=some o->h'.get? b=some o)->h'.get? S=some {cls:=.type "list",dict:=none,data:=.seq hj c',slots:= #[]}->ItemsOf (tl knd aS) hj aS.length->R (.ok (.ret res)) {s with heap:=h',toks:=tk}) (aE:aS.length<=sizeLine):
  wpAny (model aw w) A.in1 (Builtin.List.listExtendWith (.ref S) (.ref d) res)
   (fun cJ az=>match cJ with|.done f=>R (.ok f) az|.again c'=>c'.quiet=true/\codeAny (model aw w) A c' R az) (fun e az=>R (.error e) az) s:=by
 have so:S≠s.heap.objs.size:=Nat.ne_of_lt (Heap.lt_size mK)
 have hd:=aY.lt_size
 have Oc:s.heap.objs.size∉dT A:=fun q=>Nat.lt_irrefl _ (oU bx _ q)
 have vm:S∉s.heap.objs.size::d::dT A:=by simp only [List.mem_cons,not_or];exact⟨so,FH,xg⟩
 have W:=EL (w:=w) (A:=A.in1) (knd:=knd) s.heap.objs.size d (Nat.ne_of_lt hd) Oc aS cs
 have key:∀(h:Heap) (te tk:Nat),((h.IsKeyIter s.heap.objs.size d 0 aS.length cs/\h.DictAt knd d aS cs)/\dz A.in1 h)->(∀b o,b≠S->s.heap.get? b=some o->h.get? b=some o)->
   h.get? S=some {cls:=.type "list",data:=.seq #[] te}->codeAny (model aw w) A (.builtin "list.extend.loop" ⟨[.ref S,.ref s.heap.objs.size,res],[]⟩) R {s with heap:=h,toks:=tk}:=by
  intro h te tk eT ag n3
  refine codeAny_extend_loopS W.toS aE S vm res aS.length 0 _ #[] te rfl (Nat.zero_le _) eT n3 (ItemsOf.nil _) fun az hj c' m8 ox ir=> ?_
  refine B (Moved.eq_with m8) ?_
  refine ga az.heap az.toks hj c' (fun b o ah e=>m8.heap b o (fun zR=> ?_) (ag b o ah e)) ox ir
  rcases List.mem_cons.mp zR with ci|zR
  ·exact ah ci
  ·exact absurd (Heap.lt_size e) (by refine B (List.mem_singleton.mp zR) ?_;exact Nat.lt_irrefl _)
 unfold Builtin.List.listExtendWith
 refine wpAny_bind (wpAny_typeOf (T:="dict") aY.dictOf.typeIs ?_)
 have M:Builtin.List.listSameRef (.ref S) (.ref d)=false:=by simp [Builtin.List.listSameRef,FH]
 simp only [M,show(Value.type "dict"==Value.type "list")=false from by decide,show(Value.type "dict"==Value.type "tuple")=false from by decide,Bool.or_false,Bool.false_eq_true,if_false]
 refine wpAny_bind (wpAny_pyIter_dict c1 aY ?_)
 have n3:=Heap.get?_push_of_some {cls:=.type "dict_keyiterator",data:=.fields #[.ref d,.int 0 0,.int aS.length 0,.int cs 0]} mK
 have ao:(((s.heap.push {cls:=.type "dict_keyiterator",data:=.fields #[.ref d,.int 0 0,.int aS.length 0,.int cs 0]}).IsKeyIter s.heap.objs.size d 0 aS.length cs/\(s.heap.push {cls:=.type "dict_keyiterator",data:=.fields #[.ref d,.int 0 0,.int aS.length 0,.int cs 0]}).DictAt knd d aS cs)/\dz A.in1 (s.heap.push {cls:=.type "dict_keyiterator",data:=.fields #[.ref d,.int 0 0,.int aS.length 0,.int cs 0]})):=
  ⟨⟨⟨_,Heap.get?_push_size _ rfl,rfl,rfl⟩,aY.push _⟩,dz.keeps (A:=A.in1) bx fun b _ o e=>Heap.get?_push_of_some _ e⟩
 refine wpAny_bind (wpAny_holding (kdl_hint_dict (aY.push _).dictOf.typeIs ?_))
 refine wpAny_ite_split (fun _=> ?_) (fun _=>wpAny_pure ⟨plainId_quiet PySem.F.plain_extend_loop _,key _ G1 _ ao (fun b o _ e=>Heap.get?_push_of_some _ e) n3⟩)
 refine wpAny_bind (wpAny_rule ?_)
 refine wpAny_bind ?_
 show wpAny _ _ (updateSeq S (·.push .none)>>=fun _=>updateSeq S (·.pop)) _ _ _
 refine wpAny_bind (wpAny_updateSeq n3 rfl ?_)
 have B1:=Heap.get?_update_self (Obj.mapSeq (·.push Value.none)) n3 rfl
 refine wpAny_updateSeq (hz:=by seq_fits) B1 rfl ?_
 have Kw:=Heap.get?_update_self (Obj.mapSeq (·.pop)) B1 rfl
 refine wpAny_pure ⟨plainId_quiet PySem.F.plain_extend_loop _,key _ _ _ ?_ (fun b o ah e=> ?_) Kw⟩
 ·refine W.frame 0 _ _ ao fun b ah o e=> ?_
  have Gp:b≠S:=fun h=>vm (h▸ah)
  exact(Heap.get?_update_other _ _ (Ne.symm Gp)).trans ((Heap.get?_update_other _ _ (Ne.symm Gp)).trans e)
 ·exact(Heap.get?_update_other _ _ (Ne.symm ah)).trans ((Heap.get?_update_other _ _ (Ne.symm ah)).trans (Heap.get?_push_of_some _ e))
theorem Im {R:List Value->Shared->Prop} (bx:dz A s.heap) (c1:(d==sysModules)=false) (aY:s.heap.DictAt knd d aS cs) (aE:aS.length<=sizeLine)
  (h:∀(h':Heap) (tk:Nat) (cn:Array Value),(∀b o,s.heap.get? b=some o->h'.get? b=some o)->ItemsOf (tl knd aS) cn aS.length->R cn.toList {s with heap:=h',toks:=tk}):
  wpAny (model aw w) A (collect (.ref d)) R E s:=by
 have cz:=aY.lt_size
 unfold collect
 refine wpAny_bind (wpAny_runValue (codeAny_builtin entry_proto_collect' ?_))
 refine B (Around.under_plainId PySem.F.plain_proto_collect _) ?_
 show wpAny _ A.in1 (newList []>>=fun l=>again (.builtin "list.__iadd__" ⟨[l,.ref d],[]⟩)) _ _ s
 refine wpAny_bind (wpAny_newObj_type ?_)
 refine wpAny_pure ⟨plainId_quiet PySem.F.plain_list_iadd _,codeAny_builtin entry_list_iadd' ?_⟩
 refine B (Around.under_plainId PySem.F.plain_list_iadd _) ?_
 have n3:(s.heap.push {cls:=.type "list",data:=.seq ([]:List Value).toArray}).get? s.heap.objs.size=some {cls:=.type "list",data:=.seq #[]}:=Heap.get?_push_size _ rfl
 show wpAny _ A.in1 (Builtin.List.listExtendWith (.ref s.heap.objs.size) (.ref d) (.ref s.heap.objs.size)) _ _ _
 have key:=LA (A:=A) (s:={s with heap:=s.heap.push {cls:=.type "list",data:=.seq ([]:List Value).toArray}})
  (R:=fun(q:Result) (az:Shared)=>∃(h':Heap) (tk:Nat) (hj:Array Value) (c':Nat),q=.ok (.ret (.ref s.heap.objs.size))/\az={s with heap:=h',toks:=tk}/\
   (∀b o,s.heap.get? b=some o->h'.get? b=some o)/\h'.get? s.heap.objs.size=some {cls:=.type "list",dict:=none,data:=.seq hj c',slots:= #[]}/\ItemsOf (tl knd aS) hj aS.length)
  (bx.keeps fun b _ o e=>Heap.get?_push_of_some _ e) c1 (aY.push _) s.heap.objs.size (Nat.ne_of_gt cz) (fun q=>Nat.lt_irrefl _ (oU bx _ q)) (.ref s.heap.objs.size) 0 n3
  (fun h' tk hj c' ag ox ir=>⟨h',tk,hj,c',rfl,rfl,fun b o e=>ag b o (Nat.ne_of_lt (Heap.lt_size e)) (Heap.get?_push_of_some _ e),ox,ir⟩) aE
 refine wpAny_mono key (fun cJ az x=> ?_) fun e az x=> ?_
 ·cases cJ with
  |done f=>
   refine Hh x ?_;clear x;intro h' tk hj c' e u;subst u;intro ag ox ir
   cases e
   show wpAny _ A (load s.heap.objs.size>>=_) _ _ _
   refine wpAny_bind (wpAny_load ox ?_)
   exact wpAny_pure (h h' tk hj ag ir)
  |again te=>
   refine⟨x.1,codeAny_mono x.2 fun q cu y=> ?_⟩
   refine Hh y ?_;clear y;intro h' tk hj c' u;subst u;intro u;subst u;intro ag ox ir
   show wpAny _ A (load s.heap.objs.size>>=_) _ _ _
   refine wpAny_bind (wpAny_load ox ?_)
   exact wpAny_pure (h h' tk hj ag ir)
 ·refine pL x ?_;clear x;intro _ _ _ _ ci _
  cases ci
theorem Nj {Q:Value->Shared->Prop} (bx:dz A s.heap) (c1:(d==sysModules)=false) (aY:s.heap.DictAt knd d aS cs) (aE:aS.length<=sizeLine)
  (h:∀(h':Heap) (tk:Nat) (vs:List Value),(∀b o,s.heap.get? b=some o->h'.get? b=some o)->vs.length=aS.length->(∀(j:Nat) (v:Value),vs[j]? =some v->tl knd aS j v)->
   wpAny (model aw w) A.in1.in1 (Builtin.«list.sort» ⟨[.ref h'.objs.size],[]⟩) (fun cJ az=>cJ=.done (.ret .none)/\Q (.ref h'.objs.size) az) E {s with heap:=h'.push (seqObj "list" vs.toArray 0),toks:=tk}):
  wpAny (model aw w) A (call (.builtin "sorted") [.ref d]) Q E s:=by
 refine call_function_entry kind_sorted plain_sorted entry_sorted (args_sorted1 _) ?_
 unfold Builtin.«sorted»
 refine wpAny_bind (m:=checkCount "sorted" 1 1 _) (wpAny_pure ?_)
 refine wpAny_bind (Im (A:=A.in1) bx c1 aY aE fun h' tk cn ag ir=> ?_)
 have aq:cn.toList.length=aS.length:=by refine B Array.length_toList ?_;exact ir.1
 refine wpAny_bind (wpAny_newList ?_ (by refine B aq ?_;exact aE))
 have bi:=h h' tk cn.toList ag aq (fun j v e=>ir.2 j v (by refine bt Array.getElem?_toList ?_;exact e))
 have Nl:(h'.push (seqObj "list" cn.toList.toArray 0)).get? h'.objs.size=some (seqObj "list" cn.toList.toArray 0):=Heap.get?_push_size _ rfl
 refine wpAny_bind (wpAny_holding (wpAny_call_entry (s:={s with heap:=h'.push (seqObj "list" cn.toList.toArray 0),toks:=tk}) slot_list_sort ⟨_,Nl,rfl⟩ entry_list_sort (wpAny_mono bi (fun cJ az x=> ?_) fun _ _ e=>e) (args_list_sort _)))
 refine cm x ?_;clear x;intro u;subst u;intro x
 exact⟨_,rfl,wpAny_pure ⟨_,rfl,x⟩⟩
end
end Mine
end
section
open PySem PySem.W PySem.Calls PyProof.Rows
namespace Mine
theorem ze (a:Int):∀l:List Int,(jK a l).Perm (a::l)
 |[]=>.refl _
 |b::r=>by
  unfold jK
  split
  ·exact .refl _
  ·exact((ze a r).cons b).trans (.swap ..)
theorem GV (a:Int):∀l:List Int,l.Pairwise (· <= ·)->(jK a l).Pairwise (· <= ·)
 |[],_=>by simp [jK]
 |b::r,h=>by
  have M:=List.pairwise_cons.mp h
  unfold jK
  split
  ·rename_i cz
   exact List.pairwise_cons.mpr ⟨fun c hc=>by
    rcases List.mem_cons.mp hc with rfl|hc
    ·exact LW cz
    ·have:=M.1 c hc;exact Jx cz this,h⟩
  ·rename_i ru
   refine List.pairwise_cons.mpr ⟨fun c hc=> ?_,GV a r M.2⟩
   rcases List.mem_cons.mp ((ze a r).mem_iff.mp hc) with rfl|hc
   ·exact PC ru
   ·exact M.1 c hc
theorem Ak:∀(l cn:List Int),cn.Pairwise (· <= ·)->(l.foldl (fun cn a=>jK a cn) cn).Perm (l++cn)/\(l.foldl (fun cn a=>jK a cn) cn).Pairwise (· <= ·)
 |[],cn,h=>⟨.refl _,h⟩
 |a::r,cn,h=>by
  refine cm (Ak r (jK a cn) (GV a cn h)) ?_;intro M O
  refine⟨M.trans ?_,O⟩
  exact(List.Perm.append_left r (ze a cn)).trans List.perm_middle
theorem M7 {l k:List Int} (an:k.Perm l) (hs:k.Pairwise (· <= ·)):k=pY l:=by
 refine cm (Ak l [] .nil) ?_;intro M O
 exact List.Perm.eq_of_pairwise (fun _ _ _ _ a b=>Int.le_antisymm a b) hs O (an.trans (by replace M:=(List.append_nil _)▸M;exact M.symm))
noncomputable abbrev kO (a b:Str):Prop:=a.cps.toList<=b.cps.toList
theorem zZ {a b:Str}:xm a b=true↔a.cps.toList<b.cps.toList:=by unfold xm;simp
theorem wv (a:Str):∀l:List Str,(kV a l).Perm (a::l)
 |[]=>.refl _
 |b::r=>by
  unfold kV
  split
  ·exact .refl _
  ·exact((wv a r).cons b).trans (.swap ..)
theorem Du (a:Str):∀l:List Str,l.Pairwise kO->(kV a l).Pairwise kO
 |[],_=>by simp [kV]
 |b::r,h=>by
  have M:=List.pairwise_cons.mp h
  unfold kV
  split
  ·rename_i cz
   have A8:kO a b:=List.le_of_lt (zZ.mp cz)
   exact List.pairwise_cons.mpr ⟨fun c hc=>by
    rcases List.mem_cons.mp hc with rfl|hc
    ·exact A8
    ·exact List.le_trans A8 (M.1 c hc),h⟩
  ·rename_i ru
   have iZ:kO b a:=List.not_lt.mp (fun q=>ru (zZ.mpr q))
   refine List.pairwise_cons.mpr ⟨fun c hc=> ?_,Du a r M.2⟩
   rcases List.mem_cons.mp ((wv a r).mem_iff.mp hc) with rfl|hc
   ·exact iZ
   ·exact M.1 c hc
theorem Dh:∀(l cn:List Str),cn.Pairwise kO->(l.foldl (fun cn a=>kV a cn) cn).Perm (l++cn)/\(l.foldl (fun cn a=>kV a cn) cn).Pairwise kO
 |[],cn,h=>⟨.refl _,h⟩
 |a::r,cn,h=>by
  refine cm (Dh r (kV a cn) (Du a cn h)) ?_;intro M O
  refine⟨M.trans ?_,O⟩
  exact(List.Perm.append_left r (wv a cn)).trans List.perm_middle
theorem We {a b:Str} (h:a.cps.toList=b.cps.toList):a=b:=by
 cases a;cases b;simp only [Str.mk.injEq];exact Array.toList_inj.mp h
theorem Kv {l k:List Str} (an:k.Perm l) (hs:k.Pairwise kO):k=Mine.zy l:=by
 refine cm (Dh l [] .nil) ?_;intro M O
 exact List.Perm.eq_of_pairwise (fun _ _ _ _ a b=>We (List.le_antisymm a b)) hs O (an.trans (by replace M:=(List.append_nil _)▸M;exact M.symm))
theorem DT:∀(p:Str) (l:List Str),risingS p l=true->(p::l).Pairwise kO
 |p,[],_=>by simp
 |p,x::r,h=>by
  unfold risingS at h
  simp only [Bool.and_eq_true,Bool.not_eq_true'] at h
  have ih:=DT x r h.2
  have Gq:kO p x:=by
   replace h:=(ltCps_eq _ _)▸h
   exact List.not_lt.mp (of_decide_eq_false h.1)
  refine List.pairwise_cons.mpr ⟨fun c hc=> ?_,ih⟩
  rcases List.mem_cons.mp hc with rfl|hc
  ·exact Gq
  ·exact List.le_trans Gq ((List.pairwise_cons.mp ih).1 c hc)
theorem Wf:∀{l:List Str},PyProof.Rows.sortedS l=true->l.Pairwise kO
 |[],_=>.nil
 |x::r,h=>DT x r h
section
variable{w:World} {CM:cp} {bj:dM} {F:Frag} {K:Top} {env:Env} {J:Scope} {A:Around} {ρ ρ₀ ρ':a5} {s db az:Shared} {fs fs':X} {R:bk}
theorem FB:∀{vs:List Value} {ns:List Int},vs.length=ns.length->(∀(j:Nat) v n,vs[j]? =some v->ns[j]? =some n->∃t,v=Value.int n t)->IntsAre vs ns
 |[],[],_,_=>.nil
 |v::vs,n::ns,h,ay=>by
  refine bT (ay 0 v n rfl rfl) ?_;intro t u;subst u
  exact .cons n t (FB (by simpa using h) fun j u m M O=>ay (j+1) u m (by simpa using M) (by simpa using O))
 |[],_::_,h,_=>by cases h
 |_::_,[],h,_=>by cases h
theorem BE:∀{vs:List Value} {ns:List Str},vs.length=ns.length->(∀(j:Nat) v n,vs[j]? =some v->ns[j]? =some n->∃t,v=Value.str n t)->StrsAre vs ns
 |[],[],_,_=>.nil
 |v::vs,n::ns,h,ay=>by
  refine bT (ay 0 v n rfl rfl) ?_;intro t u;subst u
  exact .cons n t (BE (by simpa using h) fun j u m M O=>ay (j+1) u m (by simpa using M) (by simpa using O))
 |[],_::_,h,_=>by cases h
 |_::_,[],h,_=>by cases h
theorem a8.ints:∀{vs:List Value} {ns:List Int},IntsAre vs ns->a8 w CM ρ (ns.map H.int) vs
 |_,_,.nil=>a8.nil
 |_,_,.cons n t h=>a8.cons ⟨t,rfl⟩ (a8.ints h)
theorem a8.strs:∀{vs:List Value} {ns:List Str},StrsAre vs ns->a8 w CM ρ (ns.map H.str) vs
 |_,_,.nil=>a8.nil
 |_,_,.cons n t h=>a8.cons ⟨t,rfl⟩ (a8.strs h)
theorem N1 (l:List (al×H)):∀{ns:List Int},oE l=some ns->l.map (·.1)=ns.map al.int:=by
 induction l with
 |nil=>intro ns q;exact cG q rfl
 |cons p r ih=>
  intro ns q
  refine hJ q (fun i t aR aG q=>cG q ?_) Z
  (refine B List.map_cons ?_;refine B (ih aG) ?_)
  generalize p.1=k at aR
  cases k with
  |int j=>exact cG aR rfl
  |str _=>exact Z aR
theorem O2 (l:List (al×H)):∀{ns:List Str},uv l=some ns->l.map (·.1)=ns.map al.str:=by
 induction l with
 |nil=>intro ns q;exact cG q rfl
 |cons p r ih=>
  intro ns q
  refine hJ q (fun i t aR aG q=>cG q ?_) Z
  (refine B List.map_cons ?_;refine B (ih aG) ?_)
  generalize p.1=k at aR
  cases k with
  |str j=>exact cG aR rfl
  |int _=>exact Z aR
theorem K7 {l:List (al×H)} {x:Value} {r:aV} (q:sC l=some r) (hz:l.length<64) (bc:f5 K A) (I:aK w CM K env J ρ s fs) (ae:cv w CM ρ s (.V l) x):
  wpAny (model aw w) A (call (.builtin "sorted") [x]) (b4 w CM K env J ρ s fs r fs) cf s:=by
 refine gn (ae.V I.base) ?_;intro a aS u;subst u;intro aL M O
 have bC:=O.length
 have ot:=O.xX
 refine bT M.dictAt ?_;intro cs fr
 have dv:aS.length<=sizeLine:=by(refine B bC ?_;refine B sizeLine_eq ?_);exact HH hz
 refine Nj (I.base.lV bc) aL fr dv fun h' tk vs ag aq ay=> ?_
 have cJ:∀{xs:List H} (out:Array Value),a8 w CM ρ xs out.toList->b4 w CM K env J ρ s fs (.b5 (.am xs)) fs (.ref h'.objs.size) {s with heap:=sortedHeap (h'.push (seqObj "list" vs.toArray 0)) h'.objs.size vs out,toks:=tk}:=fun{xs} out aP=>by
  refine bT (sortedHeap_at (h:=h'.push (seqObj "list" vs.toArray 0)) (a:=h'.objs.size) (vs:=vs) (n:=0) (out:=out) (Heap.get?_push_size _ rfl)) ?_;intro e aX
  refine b4.trans (a2.dF (tk:=tk) ag) ce.dF ?_
  refine nI (tk:=tk) (s:={s with heap:=h',toks:=tk}) (I.dF (tk:=tk) ag) (fun b ob e=> ?_) e8 ?_
  ·have ah:b<h'.objs.size:=Heap.lt_size e
   (refine B (sortedHeap_old (Nat.ne_of_lt ah) (by rw [size_push'];exact Nat.lt_succ_of_lt ah)) ?_;refine B (Heap.get?_push_ne _ _ _ (Nat.ne_of_lt ah)) ?_)
   exact e
  ·exact⟨out.toList,e,by simpa using aX,aP.bu (fun b o e=>hU.mpr e) (fun b k e=>gV.mpr e)⟩
 refine Ie q (fun ns eA=> ?_) fun ns eA=> ?_
 ·have eC:aS.map (·.1)=ns.map al.int:=ot.trans (N1 l eA)
  have fw:IntsAre vs ns:=FB (by(refine B aq ?_;refine bt (List.length_map (f:=(·.1)) (as:=aS)) ?_;refine B eC ?_;refine B (List.length_map _) ?_;rfl)) fun j v n ak ar=>by
   refine hq (ay j v ak) ?_;intro k y bP cY
   have dn:(aS.map (·.1))[j]? =some k:=by(refine B List.getElem?_map ?_;refine B bP ?_);rfl
   (replace dn:=eC▸dn;replace dn:=List.getElem?_map▸dn;replace dn:=ar▸dn)
   replace cY:=(Eq.symm (Option.some.inj dn))▸cY
   exact jg cY
  refine list_sort_tree (Heap.get?_push_size _ rfl) fw (by(refine B aq ?_;refine B bC ?_);exact hz) fun out Y6 bV cD cZ=>⟨rfl,?_⟩
  refine bt (M7 cD cZ) ?_
  exact cJ out (a8.ints bV)
 ·have eC:aS.map (·.1)=ns.map al.str:=ot.trans (O2 l eA)
  have fw:StrsAre vs ns:=BE (by(refine B aq ?_;refine bt (List.length_map (f:=(·.1)) (as:=aS)) ?_;refine B eC ?_;refine B (List.length_map _) ?_;rfl)) fun j v n ak ar=>by
   refine hq (ay j v ak) ?_;intro k y bP cY
   have dn:(aS.map (·.1))[j]? =some k:=by(refine B List.getElem?_map ?_;refine B bP ?_);rfl
   (replace dn:=eC▸dn;replace dn:=List.getElem?_map▸dn;replace dn:=ar▸dn)
   replace cY:=(Eq.symm (Option.some.inj dn))▸cY
   exact jE cY
  refine list_sort_treeK strKind_oneLt (Heap.get?_push_size _ rfl) fw.keysOf (fun Lh YT rest e=>keyKind_strs (by refine bt e ?_;exact fw)) (by(refine B aq ?_;refine B bC ?_);exact hz) fun Yg an hs=>⟨rfl,?_⟩
  refine et (sorted_out_str fw an hs) ?_;intro YU bV cD cZ
  refine bt (Kv cD (Wf cZ)) ?_
  exact cJ _ (a8.strs bV)
end
end Mine
end
section
open PySem PySem.W PySem.Calls PyProof.Rows
namespace Mine
section
variable{w:World} {A:Around} {E:Value->Shared->Prop} {s:Shared}
theorem NB {α:Type} {Q:α->Shared->Prop} {e:Addr} {ob:Obj} {vs:Array Value} (bx:dz A s.heap) (aX:s.heap.get? e=some ob) (hd:ob.data=.fields vs) (O:2<vs.size) (b1:e∉dT A)
  (h0:∀h',(∀b o,b≠e->s.heap.get? b=some o->h'.get? b=some o)->(∃hF,h'.get? e=some hF/\hF.cls=ob.cls)->E (.ref e) {s with heap:=h'}):
  wpAny (model aw w) A (raiseNew (.ref e)) Q E s:=by
 delta raiseNew
 refine wpAny_bind (wpAny_handled ?_)
 unfold dT at b1
 refine bx.e9 (fun ci=> ?_) fun x Yr ae M an=> ?_<;>clear bx
 ·refine B ci ?_
  exact wpAny_bind (wpAny_pure (wpAny_throw (h0 _ (fun b o _ q=>q) ⟨_,aX,rfl⟩)))
 ·rw [ae] at b1|-
  obtain⟨aB,c3,Y,aC,bR⟩:=an
  have Wk:x≠e:=fun q=>b1 (List.mem_singleton.mpr q.symm)
  dsimp only
  refine B (if_pos (show(Value.ref x !=Value.ref e)=true from by simpa using Wk)) ?_
  refine wpAny_bind (wpAny_holding (wpAny_runValue (codeAny_builtin GM ?_)))
  refine B (Around.under_plainId zY _) ?_
  unfold Builtin.«proto.unchain»
  refine wpAny_bind (wpAny_field M Y bR ?_)
  refine B (if_pos (by decide)) ?_
  refine wpAny_pure ?_
  unfold updateField
  refine wpAny_bind (wpAny_bind (wpAny_load aX ?_))
  refine B hd ?_
  dsimp only
  refine B (if_pos (show 2<Array.size _ from O)) ?_
  refine wpAny_update aX (wpAny_throw (h0 _ (fun b o ah q=> ?_) ⟨_,Heap.get?_update_self _ aX (Obj.isFreed_of_fields (Obj.data_mapFields hd _)),Obj.cls_mapFields ..⟩))
  exact(Heap.get?_update_other _ _ (Ne.symm ah)).trans q
theorem LQ {α:Type} {Q:α->Shared->Prop} {o:Value} {name:Str} {EO:Str} (bx:dz A s.heap)
  (h:∀h' tk e,(∀b o,s.heap.get? b=some o->h'.get? b=some o)->(∃ob,h'.get? e=some ob/\ob.cls=.type "AttributeError")->E (.ref e) {s with heap:=h',toks:=tk}) (aY:EO.length<=sizeLine:=by size_fits):
  wpAny (model aw w) A (raiseAttrError o name EO:Sem α) Q E s:=by
 have cz:=oU bx
 unfold raiseAttrError
 refine wpAny_bind (wpAny_mkStr (wpAny_bind ?_) aY)
 unfold newExc newTuple
 refine wpAny_bind (wpAny_newObj_type ?_ (by size_fits))
 refine wpAny_bind (m:=firstArgMember _ _) (wpAny_of_eq (a:=Value.none) (by simp only [firstArgMember,attrError_no_first];rfl) ?_)
 refine B (ownMembersOf_AttributeError _) ?_
 refine wpAny_newObj_type ?_ (by size_fits)
 obtain⟨an,g,d,tk,os⟩:=s
 have d8:=sub_AttributeError
 have keep:∀(br fk:Obj) (f:Obj->Obj) b ob,an.get? b=some ob->Heap.get? (((an.push br).push fk).update (an.push br).objs.size f) b=some ob:=fun br fk f b ob ah=>by
  have cz:b<an.objs.size:=Heap.lt_size ah
  refine(Heap.get?_update_other _ _ ?_).trans (Heap.get?_push_of_some _ (Heap.get?_push_of_some _ ah))
  simp only [Heap.size_push]
  exact Nat.ne_of_gt (Nat.lt_succ_of_lt cz)
 repeat (any_goals (first|assumption|with_reducible (show wpAny _ _ (raiseNew _) _ _ _;fail_if_success skip)|wp_step))
 dsimp only
 refine NB (dz.keeps bx fun b _ o e=>keep _ _ _ b o e) (Heap.get?_update_self _ (Heap.get?_push_size _ rfl) rfl) rfl (by simp) (fun q=>Nat.lt_irrefl _ (Nat.lt_trans (Nat.lt_succ_self _) (by have:=cz _ q;simp only [Heap.size_push] at this;exact Nat.lt_of_lt_of_le this (Nat.le_refl _)))) fun h' ag aX=> ?_
 refine ba aX ?_;clear aX;intro hF ak ar
 refine h _ _ _ (fun b o ah=>ag b o (fun q=> ?_) (keep _ _ _ b o ah)) ⟨hF,ak,ar⟩
 have:=Heap.lt_size ah
 replace this:=q▸this
 simp only [Heap.size_push] at this
 exact absurd this (Nat.not_lt.mpr (Nat.le_succ _))
theorem Qc {a:Addr} {xs:Array Value} {k:Nat} {name:Str} {u:Tok} {P:Fin->Shared->Prop} (bx:dz A s.heap) (ae:s.heap.get? a=some {cls:=.type "list",dict:=none,data:=.seq xs k,slots:= #[]})
  (s8:typeLookup (.type "list") name=pure none) (r8:(["__module__","__name__","__qualname__","__doc__","__annotations__"]:List Str).contains name=false)
  (h:∀h' tk e,(∀b o,s.heap.get? b=some o->h'.get? b=some o)->(∃ob,h'.get? e=some ob/\ob.cls=.type "AttributeError")->E (.ref e) {s with heap:=h',toks:=tk}) (dv:name.length+100<=sizeLine):
  wpAny (model aw w) A (Builtin.«object.__getattribute__» ⟨[.ref a,.str name u],[]⟩) P E s:=by
 obtain⟨an,g,d,tk,os⟩:=s
 have gO:(⟨an,g,d,tk,os⟩:Shared).TypeIs (.ref a) "list":=⟨_,ae,rfl⟩
 unfold Builtin.«object.__getattribute__»
 repeat (any_goals (first|assumption|wp_step))
 refine wpAny_ite_false (decide_eq_false (by refine B r8 ?_;exact Bool.false_ne_true)) ?_
 repeat (any_goals (first|assumption|wp_step))
 exact LQ bx h (attrMsg_fits (by decide+kernel) dv)
set_option maxHeartbeats 1000000 in
theorem H6 {a:Addr} {xs:Array Value} {k:Nat} {name:Str} {Q:Option Value->Shared->Prop} (bx:dz A s.heap) (ae:s.heap.get? a=some {cls:=.type "list",dict:=none,data:=.seq xs k,slots:= #[]})
  (s8:typeLookup (.type "list") name=pure none) (r8:(["__module__","__name__","__qualname__","__doc__","__annotations__"]:List Str).contains name=false)
  (h:∀h' tk,(∀b o,s.heap.get? b=some o->h'.get? b=some o)->Q none {s with heap:=h',toks:=tk}) (dv:name.length+100<=sizeLine):
  wpAny (model aw w) A (getAttr? (.ref a) name) Q E s:=by
 have call:∀{s:Shared} {u:Tok} {Q:Value->Shared->Prop} {E:Value->Shared->Prop},dz A s.heap->s.heap.get? a=some {cls:=.type "list",dict:=none,data:=.seq xs k,slots:= #[]}->
   (∀h' tk e,(∀b o,s.heap.get? b=some o->h'.get? b=some o)->(∃ob,h'.get? e=some ob/\ob.cls=.type "AttributeError")->E (.ref e) {s with heap:=h',toks:=tk})->
   wpAny (model aw w) A (call (.builtin "list.__getattribute__") [.ref a,.str name u]) Q E s:=fun{s u Q E} bx ae h=>
  wpAny_call_entry F.slot_list_getattribute ⟨_,ae,rfl⟩ am_entry_list_getattribute (Qc (A:=A.in1) bx ae s8 r8 h dv) (F.args_list_getattribute_2 _ _)
 obtain⟨an,g,d,tk,os⟩:=s
 have gO:∀mj,(⟨an,g,d,mj,os⟩:Shared).TypeIs (.ref a) "list":=fun _=>⟨_,ae,rfl⟩
 have d8:=sub_AttributeError
 have hu:=F.slot_list_getattribute.lookup
 have kG:=F.slot_list_getattribute.bind (.ref a)
 have pW:=am_list_getattr_none
 unfold getAttr? getAttrBy? getAttrBy
 repeat (any_goals (first|assumption|exact gO _|(refine call bx ae fun h' mj e ag aX=> ?_;obtain⟨⟨c,V,Yx,f6⟩,iN,im⟩:=aX;simp only at im;subst im)|wp_step))
 exact h h' mj ag
end
end Mine
end
section
open PySem PySem.W PySem.Calls PyProof.Rows
namespace Mine
theorem C0:entryFor table "dict.update.loop"=some Builtin.«dict.update.loop»:=entryFor_of_tree (by kernel_rfl)
theorem uY:plainId "dict.update.loop"=true:=by decide+kernel
section
variable{w:World} {CM:cp} {bj:dM} {F:Frag} {K:Top} {env:Env} {J:Scope} {A:Around} {ρ ρ₀ ρ':a5} {s db az:Shared} {fs fs':X} {R:bk}
noncomputable def By (h:Heap) (vs:List Value) (aS:List (al×Value)):Prop:=
 vs.length=aS.length/\∀(j:Nat) v k x,vs[j]? =some v->aS[j]? =some (k,x)->∃t eJ n,v=.ref t/\h.get? t=some (qk [eJ,x] n)/\ix k eJ=true
theorem P4 {per:List H} (ap:cM w CM K ρ s per) (l:List H):∀{vs:List Value} {ps:List (al×H)},Mine.pairsOf l=some ps->a8 w CM ρ l vs->∃aS,By s.heap vs aS/\dU w CM ρ ps aS/\aS.length=ps.length:=by
 induction l with
 |nil=>intro vs ps q h;cases q;refine B (show vs=[] from h) ?_;exact⟨[],⟨rfl,fun j v k x e=>Z e⟩,rfl,rfl⟩
 |cons x r ih=>
  intro vs ps q h
  refine b6 q (fun k y ae q=>hJ q (fun cX fO ag aP q=>cG q ?_) Z) Z
  replace h:=(DS ae)▸h
  obtain⟨v,t,rfl,⟨a,c3,n,rfl,f2,eJ,Kk,rfl,rO,mX,yY,rfl,Ll,IU⟩,Y⟩:=h
  replace f2:=(show yY=[] from IU)▸f2
  refine et (ih aP Y) ?_;intro aS aC bR dL
  refine⟨(cX,mX)::aS,⟨congrArg (· +1) aC.1,fun j v k2 a3 ak ar=> ?_⟩,⟨mX,aS,rfl,Ll,bR⟩,congrArg (· +1) dL⟩
  cases j with
  |zero=>
   cases ak;cases ar
   exact⟨a,eJ,n,rfl,ap.bL _ _ f2,cv.key (s:=s) (.gf rO) ag⟩
  |succ j=>exact aC.2 j v k2 a3 ak ar
theorem TF {Bg:Result->Shared->Prop} {S I ax:Addr} {jb:Heap} {vs:List Value} {aS:List (al×Value)} (an:By jb vs aS) (b1:ax≠I) (fw:I∉dT A) (so:S≠I) (Ja:S≠ax) (xg:S∉dT A)
  (H9:jb.get? S=none) (Bj:jb.get? I=none) (hz:aS.length<=sizeLine):
  ∀(m i:Nat) (s:Shared),aS.length-i=m->i<=aS.length->((s.heap.IsListIter I ax i/\s.heap.IsList ax (Array.mk vs))/\dz A s.heap)->(∀b o,jb.get? b=some o->s.heap.get? b=some o)->s.heap.DictOf (kk w) S (PySem.merged [] (aS.take i))->
  (∀h' tk,(∀b o,jb.get? b=some o->h'.get? b=some o)->h'.DictOf (kk w) S (PySem.merged [] aS)->Bg (.ok (.ret .none)) {s with heap:=h',toks:=tk})->
  codeAny (model aw w) A (.builtin "dict.update.loop" ⟨[.ref S,.ref I,rawInt (i:Int),.none],[]⟩) Bg s:=by
 have W:=yg (w:=w) (A:=A.in1) I ax b1 fw (Array.mk vs)
 have dv:(Array.mk vs).size=aS.length:=by simp [an.1]
 have vm:S∉I::ax::dT A:=by simp only [List.mem_cons,not_or];exact⟨so,Ja,xg⟩
 intro m
 induction m with
 |zero=>
  intro i s aY aR eT ag hd ga
  have xY:i=aS.length:=by exact OV aY aR
  subst xY
  refine codeAny_builtin C0 ?_
  refine B (Around.under_plainId uY _) ?_
  show wpAny _ A.in1 (pyNext (.ref I)>>=_) _ _ s
  replace eT:=(Eq.symm dv)▸eT
  refine wpAny_bind (W.done s _ _ eT fun h' tk eC=> ?_)
  replace hd:=List.take_length▸hd
  refine wpAny_bind (m:=Builtin.Dict.addKeywords S []) (wpAny_pure (wpAny_pure (ga h' tk (fun b o e=>eC b o (fun q=> ?_) (ag b o e)) ?_)))
  ·(replace e:=(List.mem_singleton.mp q)▸e;replace e:=Bj▸e);exact Z e
  ·refine sZ hd ?_;clear hd;intro o es cs cq r
   exact⟨o,es,cs,eC S o (fun q=>so (List.mem_singleton.mp q)) cq,r⟩
 |succ m ih=>
  intro i s aY aR eT ag hd ga
  have cz:i<aS.length:=by exact W8 aY
  refine codeAny_builtin C0 ?_
  refine B (Around.under_plainId uY _) ?_
  show wpAny _ A.in1 (pyNext (.ref I)>>=_) _ _ s
  refine wpAny_bind (W.item i s _ _ (by refine B dv ?_;exact cz) eT fun v h' tk iQ iw m8=> ?_)
  obtain⟨⟨k,x⟩,FA⟩:∃p,aS[i]? =some p:=⟨aS[i],List.getElem?_eq_getElem cz⟩
  refine dG (an.2 i v k x (by simpa using iQ) FA) ?_;intro t eJ n u;subst u;intro aG ho
  have eC:∀b o,jb.get? b=some o->h'.get? b=some o:=fun b o e=>m8 b o (fun q=>by(replace e:=(List.mem_singleton.mp q)▸e;replace e:=Bj▸e);exact Z e) (ag b o e)
  have E9:=eC _ _ aG
  have hH:h'.DictOf (kk w) S (PySem.merged [] (aS.take i)):=by
   refine sZ hd ?_;clear hd;intro o es cs cq r
   exact⟨o,es,cs,m8 S o (fun q=>so (List.mem_singleton.mp q)) cq,r⟩
  refine wpAny_bind ?_
  refine wpAny_holding (wpAny_bind (wpAny_tryCatch ?_))
  unfold Builtin.Dict.pairItems
  refine wpAny_bind (wpAny_typeOf (T:="tuple") ⟨_,E9,rfl⟩ ?_)
  refine B (if_pos (by decide)) ?_
  refine wpAny_bind (wpAny_seqItems E9 rfl (wpAny_pure ?_))
  dsimp only [Option.getD]
  have bC:(PySem.merged [] (aS.take i)).length<=sizeLine:=by
   have ak:=merged_length_le (K:=al) [] (aS.take i)
   have ar:(aS.take i).length<=aS.length:=by refine B List.length_take ?_;exact Qx
   simp only [List.length_nil,Nat.zero_add] at ak
   exact OL hz ar ak
  refine wpAny_holding (wpAny_dictSet_pairs (knd:=kk w) (s:={s with heap:=h',toks:=tk}) ho hH (fun tY pI t0=> ?_) bC)
  refine wpAny_pure ⟨plainId_quiet uY _,?_⟩
  have:=ih (i+1) {s with heap:=tY,toks:=tk+1} (by exact Oo aY) cz (W.frame _ _ _ iw fun b ah o e=>(t0.2 b (fun q=>vm (q▸ah))).trans e) (fun b o e=>(t0.2 b (fun q=>by(replace e:=q▸e;replace e:=H9▸e);exact Z e)).trans (eC b o e))
   (by refine B (merged_take_succ [] aS i (k,x) FA) ?_;exact pI) (fun h' tk ag hd=>ga h' tk ag hd)
  simpa using this
end
end Mine
end
section
open PySem PySem.W PySem.Calls PyProof.Rows
namespace Mine
section
variable{w:World} {CM:cp} {bj:dM} {F:Frag} {K:Top} {env:Env} {J:Scope} {A:Around} {ρ ρ₀ ρ':a5} {s db az:Shared} {fs fs':X} {R:bk}
theorem S2 (i3:∃ob,K.f.lookup sysModules=some ob) {l:List H} {ps:List (al×H)} {x:Value} (hz:l.length<=a4) (q:Mine.pairsOf l=some ps) (bc:f5 K A) (I:aK w CM K env J ρ s fs) (ae:cv w CM ρ s (.am l) x):
  wpAny (model aw w) A (call (.type "dict") [x]) (b4 w CM K env J ρ s fs (.b5 (.V (ps.foldl (fun d p=>cU p.1 p.2 d) []))) fs) cf s:=by
 refine dG (ae.am I.base) ?_;intro a vs n u;subst u;intro M O
 refine et (P4 I.base _ q O) ?_;intro aS an hd bC
 have lI:=Heap.lt_size M
 have cz:=oU (I.base.lV bc)
 refine callType_codes (Q₁:=fun obj aj=>obj=.ref s.heap.objs.size/\aj={s with heap:=s.heap.push {cls:=.type "dict",data:=.dict #[]}}) F.kt_called_dict (F.kt_typeCall_dict_1 _) F.entry_dict_init (kt_code_dict_new _ ⟨rfl,rfl⟩) ?_
 rintro obj aj ⟨rfl,rfl⟩
 have h6:(s.heap.push {cls:=.type "dict",data:=.dict #[]}).DictOf (kk w) s.heap.objs.size []:=Heap.DictOf.new s.heap
 refine⟨h6.typeIs,F.args_dict_init_2 _ _,?_⟩
 unfold Builtin.«dict.__init__»
 refine wpAny_bind ?_
 unfold Builtin.Dict.selfAndRest
 refine wpAny_bind (wpAny_notOrdered_dict h6.typeIs ?_)
 show wpAny _ _ (pure (s.heap.objs.size,[Value.ref a])) _ _ _
 refine wpAny_pure ?_
 show wpAny _ _ (Builtin.Dict.updateFrom "dict.__init__" s.heap.objs.size (.ref a) [] .none) _ _ _
 unfold Builtin.Dict.updateFrom
 have w7:(s.heap.push {cls:=.type "dict",data:=.dict #[]}).get? a=some (mq vs n):=Heap.get?_push_of_some _ M
 refine wpAny_bind (wpAny_typeOf (T:="list") ⟨_,w7,rfl⟩ ?_)
 refine B (if_pos (by decide)) ?_
 have s8:typeLookup (.type "list") "keys"=pure none:=by(refine B (typeLookup_type _ _) ?_;refine B builtinLookup_eq_fast ?_);kernel_rfl
 have r8:(["__module__","__name__","__qualname__","__doc__","__annotations__"]:List Str).contains "keys"=false:=by decide+kernel
 have oh:dz A.in1.in1 (s.heap.push {cls:=.type "dict",data:=.dict #[]}):=dz.keeps (A:=A.in1.in1) (I.base.lV (A:=A) bc) fun b _ o e=>Heap.get?_push_of_some _ e
 refine wpAny_bind (H6 (A:=A.in1.in1) oh w7 s8 r8 (fun h' tk ag=> ?_) (by refine B sizeLine_eq ?_;decide+kernel))
 refine B (if_pos (show(none:Option Value).isNone=true from rfl)) ?_
 refine wpAny_bind (wpAny_rule (wpAny_bind ?_))
 have FY:=ag _ _ w7
 refine wpAny_pyIter_list (fy FY) (wpAny_pure ⟨plainId_quiet uY _,?_⟩)
 have dv:s.heap.objs.size<h'.objs.size:=Heap.lt_size (ag _ _ (Heap.get?_push_size _ rfl))
 have mU:∀b o,s.heap.get? b=some o->(h'.push {cls:=.type "list_iterator",data:=.fields #[.ref a,.int 0 0]}).get? b=some o:=fun b o e=>Heap.get?_push_of_some _ (ag _ _ (Heap.get?_push_of_some _ e))
 have qN:s.heap.get? h'.objs.size=none:=by
  cases e:s.heap.get? h'.objs.size with
  |none=>rfl
  |some o=>exact absurd (Heap.lt_size e) (Nat.not_lt.mpr (Nat.le_of_lt dv))
 have Jy:(h'.push {cls:=.type "list_iterator",data:=.fields #[.ref a,.int 0 0]}).DictOf (kk w) s.heap.objs.size (PySem.merged [] (aS.take 0)):=by
  refine sZ h6 ?_;clear h6;intro o es cs cq r
  exact⟨o,es,cs,Heap.get?_push_of_some _ (ag _ _ cq),r⟩
 refine TF (A:=A.in1) (w:=w) (S:=s.heap.objs.size) (I:=h'.objs.size) (ax:=a) an (Nat.ne_of_lt (Nat.lt_trans lI dv)) (fun q=>absurd (cz _ q) (Nat.not_lt.mpr (Nat.le_of_lt dv))) (Nat.ne_of_lt dv) (Nat.ne_of_gt lI) (fun q=>Nat.lt_irrefl _ (cz _ q)) e8 qN
  (by(refine bt an.1 ?_;refine B O.length ?_);exact Nat.le_trans hz iP) _ 0 {s with heap:=_,toks:=tk} rfl (Nat.zero_le _) ⟨⟨⟨_,Heap.get?_push_size _ rfl,rfl,rfl⟩,(fy FY).push _⟩,dz.keeps (A:=A) (I.base.lV (A:=A) bc) fun b _ o e=>mU b o e⟩ mU Jy fun tY mj VX pI=> ?_
 refine⟨rfl,nI (tk:=mj) I VX e8 ?_⟩
 refine pa pI ?_;clear pI;intro ob d4 cs ak ar bP cY dn fb
 exact⟨ob,d4,cs,_,q9 i3 I e8,ak,ar,bP,cY,dn,fb,dU.merged hd rfl .nil⟩
end
end Mine
end
section
open PySem PySem.W PySem.Calls PyProof.Rows
namespace Mine
section
variable{w:World} {CM:cp} {bj:dM} {F:Frag} {K:Top} {env:Env} {J:Scope} {A:Around} {ρ ρ₀ ρ':a5} {s db az:Shared} {fs fs' fs₁:X} {R:bk}
theorem pC {id:String} (h:id∈["len","abs","sum","sorted","min","isinstance"]\/id∈["int","tuple","dict","range","reversed","bool","list"]):(Str.ofString id==("__debug__":Str))=false:=by
 have:∀id∈["len","abs","sum","sorted","min","isinstance"]++["int","tuple","dict","range","reversed","bool","list"],(Str.ofString id==("__debug__":Str))=false:=by decide+kernel
 exact this id (List.mem_append.mpr h)
theorem t6 (bl:jB CM bj K.f) (S:cC w CM K env J A R) {id:String} {p pos:Pos} {e:Expr} {r r':aV} {v:H} (aY:id∈["len","abs","sum","sorted","min","isinstance"])
  (ae:J.names.lookup (Str.ofString id)=some .globalImplicit) (bZ:R.a9 e fs=some (r,fs₁)) (bn:fs₁.cE r=some v) (I:aK w CM K env J ρ s fs)
  (h:∀{ρ:a5} {s:Shared} {x:Value},aK w CM K env J ρ s fs₁->cv w CM ρ s v x->wpAny (model aw w) A (call (.builtin id) [x]) (b4 w CM K env J ρ s fs₁ r' fs₁) cf s):
  wpAny (model aw w) A (eval (.Call (.Name (Str.ofString id) p) [e] [] pos) env) (b4 w CM K env J ρ s fs r' fs₁) cf s:=by
 refine lr (bl.lg id aY) ae I (pC (.inl aY)) ?_
 exact callWith_builtin (vJ (f:=.builtin id) (Q:=fun _ _=>True) (E:=cf) S bZ I fun _ _ _ _ _ _ _=>trivial).1 (vJ S bZ I fun x aj aN aZ a0 bv aP=>iB a0 bv (h aZ (hT aZ aP bn))).2
theorem yT (bl:jB CM bj K.f) (S:cC w CM K env J A R) {id:String} {p pos:Pos} {e:Expr} {r r':aV} {v:H} (aY:id∈["int","tuple","dict","range","reversed","bool","list"])
  (ae:J.names.lookup (Str.ofString id)=some .globalImplicit) (bZ:R.a9 e fs=some (r,fs₁)) (bn:fs₁.cE r=some v) (I:aK w CM K env J ρ s fs)
  (h:∀{ρ:a5} {s:Shared} {x:Value},aK w CM K env J ρ s fs₁->cv w CM ρ s v x->wpAny (model aw w) A (call (.type id) [x]) (b4 w CM K env J ρ s fs₁ r' fs₁) cf s):
  wpAny (model aw w) A (eval (.Call (.Name (Str.ofString id) p) [e] [] pos) env) (b4 w CM K env J ρ s fs r' fs₁) cf s:=by
 refine lr (bl.tt id aY) ae I (pC (.inr aY)) ?_
 exact PyProof.Rows.callWith_type (vJ (f:=.type id) (Q:=fun _ _=>True) (E:=cf) S bZ I fun _ _ _ _ _ _ _=>trivial).1 (vJ S bZ I fun x aj aN aZ a0 bv aP=>iB a0 bv (h aZ (hT aZ aP bn))).2
theorem Ig (bl:jB CM bj F) (bA:K.f=F) (bc:ek K k A) (S:cC w CM K env J A R) {f:Str} {p pos:Pos} {e:Expr} {r r':aV} {v:H}
  (ae:J.names.lookup f=some .globalImplicit) (bZ:R.a9 e fs=some (r,fs₁)) (bn:fs₁.cE r=some v) (ef:gB f v=some r') (I:aK w CM K env J ρ s fs):
  wpAny (model aw w) A (eval (.Call (.Name f p) [e] [] pos) env) (b4 w CM K env J ρ s fs r' fs₁) cf s:=by
 replace bl:=(Eq.symm bA)▸bl
 refine g5 ef (fun e q=> ?_) fun _ q=>g5 q (fun e q=> ?_) fun _ q=>g5 q (fun e q=> ?_) fun _ q=>g5 q (fun e q=> ?_) fun _ q=>g5 q (fun e q=> ?_) fun _ q=>g5 q (fun e q=> ?_) fun _ q=>cK q (fun e q=> ?_) Z
 ·rw [e] at ae|-;exact bG q (fun n h q=>cK q (fun hz q=>cG q (t6 bl S (by decide) ae bZ bn I fun I ae=>I4 h hz I ae)) Z) Z
 ·rw [e] at ae|-;exact yT bl S (by decide) ae bZ bn I fun I ae=>Vt q I ae
 ·rw [e] at ae|-;exact bG q (fun i h q=>cG q (t6 bl S (by decide) ae bZ (jP h▸bn) I fun I ae=>To I ae)) Z
 ·rw [e] at ae|-;exact bG q (fun l h q=>bG q (fun ns M q=>cG q (t6 bl S (by decide) ae bZ (ri h▸bn) I fun I ae=>TK M bc.eH I ae)) Z) Z
 ·rw [e] at ae|-;exact bG q (fun l h q=>cK q (fun hz q=>t6 bl S (by decide) ae bZ (y3 h▸bn) I fun I ae=>K7 q hz bc.eH I ae) Z) Z
 ·rw [e] at ae|-;exact bG q (fun l h q=>cK q (fun hz q=>cG q (yT bl S (by decide) ae bZ (ri h▸bn) I fun I ae=>Xo hz I ae)) Z) Z
 ·rw [e] at ae|-
  refine yT bl S (by decide) ae bZ bn I fun I ae=> ?_
  cases v with
  |V l=>exact cK q (fun hz q=>cG q (Rf bl.rH hz I ae)) Z
  |am l=>exact cK q (fun hz q=>bG q (fun ps an q=>cG q (S2 bl.rH hz an bc.eH I ae)) Z) Z
  |_=>exact Z q
theorem KM (bl:jB CM bj F) (bA:K.f=F) (bc:ek K k A) (S:cC w CM K env J A R) {p pos:Pos} {args:List Expr} {a b:Int}
  (ae:J.names.lookup ("min":Str)=some .globalImplicit) (bZ:dp R args fs=some ([.int a,.int b],fs₁)) (I:aK w CM K env J ρ s fs):
  wpAny (model aw w) A (eval (.Call (.Name "min" p) args [] pos) env) (b4 w CM K env J ρ s fs (.U (.int (if b<a then b else a))) fs₁) cf s:=by
 subst bA
 refine lr (bl.lg "min" (by decide)) ae I (pC (.inl (by decide))) (DE S bZ I fun bf aj P=> ?_)
 refine gw P ?_;clear P;intro aN aZ a0 bv h
 obtain⟨lJ,Y0,rfl,⟨t,rfl⟩,nP,NL,rfl,⟨u,rfl⟩,h⟩:=h
 refine B (show NL=[] from h) ?_
 exact iB a0 bv (UU bc.eH aZ)
theorem I2 (bl:pZ CM bj F) (bA:K.f=F) (bc:ek K k A) (S:cC w CM K env J A R) {p ta pos:Pos} {e:Expr} {c:Str} {r:aV} {v:H} {b:Bool}
  (ae:J.names.lookup ("isinstance":Str)=some .globalImplicit) (bZ:R.a9 e fs=some (r,fs₁)) (bn:fs₁.cE r=some v) (ef:gz v c=some b) (hc:J.names.lookup c=some .globalImplicit) (I:aK w CM K env J ρ s fs):
  wpAny (model aw w) A (eval (.Call (.Name "isinstance" p) [e,.Name c ta] [] pos) env) (b4 w CM K env J ρ s fs (.U (.bool b)) fs₁) cf s:=by
 subst bA
 have fX:(rq.contains c||hB.contains c)=true:=by
  unfold gz at ef
  refine cK ef ?_ Z;clear ef;intro _ ef
  assumption
 refine bT (bl.ja fX) ?_;intro eE Ef
 have p3:(c==("__debug__":Str))=false:=by
  cases h:(c==("__debug__":Str)) with
  |false=>rfl
  |true=>replace fX:=(beq_iff_eq.mp h)▸fX;exact absurd fX (by decide+kernel)
 have ak:starEach [e,.Name c ta] env=[(false,eval e env),(false,eval (.Name c ta) env)]:=by
  cases e with
  |Starred e p=>exact Z ((S.rg e p fs).symm.trans bZ)
  |_=>rfl
 refine lr (bl.lg "isinstance" (by decide)) ae I (pC (.inl (by decide))) ?_
 (refine B ak ?_;refine B uV ?_;refine B uV ?_)
 refine callWith_builtin rfl (evalArgs_plain ?_)
 refine spliced_cons (S.eM bZ I fun x aj aN aZ a0 bv aP=>spliced_cons ?_)
 exact nE (bl.DU c eE Ef) hc aZ.c2 aZ.in p3 (spliced_nil (iB a0 bv (Qk bl rfl ef Ef aZ (hT aZ aP bn))))
end
end Mine
end
section
open PySem PySem.W PySem.Calls PyProof.Rows
namespace Mine
noncomputable def fB:List DictEntry->List (Str×Value)->Prop
 |[],l=>l=[]
 |e::r,l=>∃n t v dc,l=(n,v)::dc/\e.key=.str n t/\e.val=v/\fB r dc
noncomputable def qd (x:Str):List (Str×Value)->Option Value
 |[]=>none
 |(y,v)::r=>if x=y then some v else qd x r
theorem fB.yc {nm:Str} {v:Value} {OB:Int} {t:Tok}:∀{es:List DictEntry} {l:List (Str×Value)},fB es l->fB (es++[⟨OB,.str nm t,v⟩]) (l++[(nm,v)])
 |[],l,h=>by refine B (show l=[] from h) ?_;exact⟨nm,t,v,[],rfl,rfl,rfl,rfl⟩
 |e::r,l,⟨n,dW,e4,dc,M,O,Y,aC⟩=>by refine B M ?_;exact⟨n,dW,e4,_,rfl,O,Y,fB.yc aC⟩
theorem fB.ue:∀{es:List DictEntry} {l:List (Str×Value)},fB es l->es.any (·.refKey)=false
 |[],_,_=>rfl
 |e::r,l,⟨n,dW,e4,dc,M,O,Y,aC⟩=>by
  obtain⟨hs,key,val⟩:=e
  dsimp only at O
  subst O
  (refine B List.any_cons ?_;refine B (fB.ue aC) ?_);rfl
theorem Aq {n nm:Str} {t:Tok}:(Value.str n t).isStr nm=decide (n=nm):=by
 show(n==nm)=_
 by_cases h:n=nm<;>simp [h]
theorem fB.fresh {nm:Str}:∀{es:List DictEntry} {l:List (Str×Value)},fB es l->nm∉l.map (·.1)->∀e∈es,e.key.isStr nm=false
 |[],_,_,_=>fun e h=>nomatch h
 |e::r,l,⟨n,dW,e4,dc,M,O,Y,aC⟩,aE=>fun ci aX=>by
  subst M
  rcases List.mem_cons.mp aX with rfl|aX
  ·(refine B O ?_;refine B Aq ?_);exact decide_eq_false (fun q=>aE (by refine B q ?_;exact List.mem_cons_self))
  ·exact fB.fresh aC (fun q=>aE (List.mem_cons_of_mem _ q)) ci aX
theorem fB.nt {nm:Str} {n:Nat}:∀{es:List DictEntry} {l:List (Str×Value)},fB es l->lookIn nm (dictOf es n)=some (qd nm l):=by
 intro es l h
 refine B (lookIn_dict _ _ _) ?_
 unfold PySem.W.getL
 have aP:=h.ue
 induction es generalizing l with
 |nil=>refine B (show l=[] from h) ?_;rfl
 |cons e r ih=>
  refine wW h ?_;clear h;intro i5 dW e4 dc M O Y aC
  subst M
  (refine B List.find?_cons ?_;refine B O ?_;refine B Aq ?_)
  unfold qd
  by_cases q:i5=nm
  ·subst q;simp [Y]
  ·have cI:¬nm=i5:=fun e=>q e.symm
   (refine B (decide_eq_false q) ?_;refine B (if_neg cI) ?_)
   replace aP:=List.any_cons▸aP
   simp only [Bool.or_eq_false_iff] at aP
   have:=ih aC aP.2
   simp only [List.any_cons,aP.1,Bool.false_or] at this|-
   exact this
structure yi (h:Heap) (x dx C:Addr) (es:List DictEntry) (n:Nat):Prop where
 gp:h.get? x=some (instObj C dx)
 V:h.get? dx=some (dictOf es n)
structure sL (F:Frag) (C:Addr):Prop where
 hs:findIn F (.ref C) "__setattr__"=some (some (.builtin "object.__setattr__"))
 an:plainOver F C=true
 hd:hasDictIn F C=true
section
variable{w:World} {CM:cp} {bj:dM} {F:Frag} {K:Top} {env:Env} {J:Scope} {A:Around} {E:Value->Shared->Prop} {ρ ρ₀ ρ':a5} {s db az:Shared} {fs fs' fs₁:X} {R:bk}
theorem DW {x dx C:Addr} {es:List DictEntry} {n:Nat} {nm:Str} {v:Value} {l:List (Str×Value)} {Q:Unit->Shared->Prop} (av:F.In s.heap) (ck:sL F C) (aG:takerIn F C nm=some none)
  (I:yi s.heap x dx C es n) (aB:fB es l) (aE:nm∉l.map (·.1)) (hz:es.length<1000)
  (h:∀h' d4,Heap.SameBut dx s.heap h'->h'.get? dx=some (dictOf d4 (n+1))->fB d4 (l++[(nm,v)])->d4.length=es.length+1->Q () {s with heap:=h',toks:=s.toks+2}):
  wpAny (model aw w) A (setAttr (.ref x) nm v) Q E s:=by
 have In:InstAt s.heap x (instObj C dx) C (some (dictOf es n)):=⟨I.gp,rfl,rfl,I.V⟩
 refine set_plain av In ck.hs (osa_open (s:={s with toks:=s.toks+1}) av In ck.an aG fun b=> ?_)
 have sw:=ck.hd
 refine ba (any_some sw) ?_;intro cd hc hH
 have D:=I.V
 have ak:es.any (·.key.isStr nm)=false:=by
  cases q:es.any (·.key.isStr nm) with
  |false=>rfl
  |true=>obtain⟨e,aX,z⟩:=List.any_eq_true.mp q;replace z:=(aB.fresh aE e aX)▸z;cases z
 have e:Obj.putName nm (PyData.keyHash w.params nm) (.str nm (s.toks+1)) v (dictOf es n)=dictOf (es++[⟨PyData.keyHash w.params nm,.str nm (s.toks+1),v⟩]) (n+1):=by
  (rw [putName_dict];refine B (putL_new (aB.fresh aE)) ?_)
  show dictOf _ (if es.any (·.key.isStr nm) then n else n+1)=_
  (refine B ak ?_;refine B (if_neg Bool.false_ne_true) ?_;rfl)
 refine wpAny_bind (wpAny_pure (wpAny_bind (wpAny_bind (wpAny_loadPart I.gp (wpAny_bind (Looks.here (s:={s with toks:=s.toks+1}) (looks_clsIn av hc) ?_))))))
 refine B hH ?_
 refine wpAny_pure (a:=some dx) (wpAny_bind (wpAny_pure (wpAny_bind ?_)))
 unfold nsSet
 refine wpAny_bind (wpAny_bind (wpAny_askSetting (wpAny_pure (wpAny_bind (wpAny_mkText (wpAny_bind (wpAny_loadPart D ?_)))))))
 dsimp only
 have c:aRefKeyMayBeTheName nm es.toArray=false:=by
  (refine B (aRefKeyMayBeTheName_at _ _) ?_;refine bt Array.any_toList ?_;refine bt Array.any_toList ?_)
  show(!es.any (·.key.isStr nm)&&es.any (·.refKey))=false
  (refine B aB.ue ?_;refine B (Bool.and_false _) ?_;rfl)
 refine B c ?_
 refine wpAny_updatePart D ?_
 have sX:(s.heap.update dx (Obj.putName nm (PyData.keyHash w.params nm) (.str nm (s.toks+1)) v)).get? dx=some (dictOf (es++[⟨PyData.keyHash w.params nm,.str nm (s.toks+1),v⟩]) (n+1)):=by
  have:=Heap.get?_update_self (Obj.putName nm (PyData.keyHash w.params nm) (.str nm (s.toks+1)) v) D (by refine B e ?_;rfl)
  replace this:=e▸this;exact this
 refine wpAny_bind (wpAny_lookBehind sX (pastItsLine_dict (by(refine B List.size_toArray ?_;refine B List.length_append ?_;refine B List.length_cons ?_;refine B List.length_nil ?_;refine B sizeLine_eq ?_);exact Fv hz)) ?_)
 exact wpAny_pure (h _ _ (Heap.SameBut.update ..) sX aB.yc (by simp))
noncomputable def i2 (w:World) (CM:cp) (ρ:a5):List (Str×H)->List (Str×Value)->Prop
 |[],l=>l=[]
 |(n,x)::r,l=>∃v t,l=(n,v)::t/\bY w CM ρ x v/\i2 w CM ρ r t
theorem i2.bu (aB:∀a ob,ρ a=.be ob->ρ' a=.be ob) (an:∀a k,ρ a=.per k->ρ' a=.per k):∀{l:List (Str×H)} {m:List (Str×Value)},i2 w CM ρ l m->i2 w CM ρ' l m
 |[],_,h=>h
 |(_,_)::_,_,⟨v,t,M,O,Y⟩=>⟨v,t,M,O.bu aB an,i2.bu aB an Y⟩
theorem i2.none:∀{l:List (Str×H)} {m:List (Str×Value)} {n:Str},i2 w CM ρ l m->iu n l=none->qd n m=none
 |[],_,_,h,_=>by refine B (show _=[] from h) ?_;rfl
 |(k,x)::r,_,n,⟨v,t,M,O,Y⟩,q=>by
  refine B M ?_
  unfold iu at q
  unfold qd
  split at q
  ·exact hM q
  ·rename_i b1;refine B (if_neg b1) ?_;exact i2.none Y q
theorem i2.Ci:∀{l:List (Str×H)} {m:List (Str×Value)} {f:Str->Option Value},i2 w CM ρ l m->(l.map (·.1)).Nodup->(∀n,n∈l.map (·.1)->f n=qd n m)->kq w CM ρ l f
 |[],_,_,_,_,_=>trivial
 |(k,x)::r,_,f,⟨v,t,M,O,Y⟩,aE,aB=>by
  subst M
  refine cm (List.nodup_cons.mp aE) ?_;intro kr k7
  refine⟨⟨v,by refine B (aB k List.mem_cons_self) ?_;exact if_pos rfl,O⟩,i2.Ci Y k7 fun n aY=> ?_⟩
  refine B (aB n (List.mem_cons_of_mem _ aY)) ?_
  exact if_neg (fun q:n=k=>kr (q▸aY))
theorem bY.C9 {c:Str} {C x dx:Addr} {es:List DictEntry} {n:Nat} {l:List (Str×H)} {m:List (Str×Value)} (hc:CM c=some C) (ae:ρ x=.be (instObj C dx)) (hd:ρ dx=.be (dictOf es n)) (aB:fB es m) (aP:i2 w CM ρ l m) (aE:(l.map (·.1)).Nodup):
  bY w CM ρ (.dV c l) (.ref x):=by
 refine⟨x,dx,dictOf es n,C,rfl,hc,ae,hd,fun k q=> ?_,aP.Ci aE fun k _=> ?_⟩
 ·(refine B aB.nt ?_;refine B (aP.none q) ?_;rfl)
 ·refine B aB.nt ?_;rfl
theorem e1.hL {a:Addr} {h':Heap} {y:Str} {v:Value} (q:e1 env J s.heap y v) (I:aK w CM K env J ρ s fs) (hd:ρ a=.aU) (eD:∀x c,J.names.lookup x=some .free->env.cells.lookup x=some c->c≠a) (hs:Heap.SameBut a s.heap h'):e1 env J h' y v:=by
 rcases q with⟨bV,cD,m,cZ,dX⟩|⟨bV,cD,c,cZ,dX⟩
 ·exact .inl ⟨bV,cD,m,cZ.sameBut hs (d6 I.cL hd),dX⟩
 ·refine .inr ⟨bV,cD,c,cZ,dX.sameBut hs ?_⟩
  rcases bV with bV|bV
  ·intro q
   refine dN (I.cells y bV) ?_;intro c' e4 cS dA _
   replace cS:=cZ▸cS;cases cS
   (replace dA:=q▸dA;replace dA:=hd▸dA);cases dA
  ·exact eD y c bV cZ
theorem e1.eval {y:Str} {v:Value} {pos:Pos} {Q:Value->Shared->Prop} (M:e1 env J s.heap y v) (h0:oD env J) (hd:(y==("__debug__":Str))=false) (h:Q v s):wpAny (model aw w) A (eval (.Name y pos) env) Q E s:=by
 rcases M with⟨bV,cD,m,cZ,dX⟩|⟨bV,cD,c,cZ,dX⟩
 ·exact wpAny_Name (wpAny_loadName_local h0.kind cD cZ dX h) hd
 ·exact wpAny_Name (wpAny_loadName_cell h0.kind cD cZ dX h) hd
noncomputable def uj:List Str->List Stmt->Prop
 |[],b=>b=[]
 |n::r,b=>∃g2 hE iG kn t,b=.Assign [.Attribute (.Name "self" g2) n hE] (.Name n iG) kn::t/\uj r t
theorem JF {n:Str} {p:Pos} {t:Option Expr} {k:Nat}:swapsWith (.Name n p) t k env=pure false:=rfl
theorem Cb {x dx C:Addr} (ck:sL F C) (bA:K.f=F) (ae:ρ x=.aU) (l2:ρ dx=.aU) (b1:x≠dx) (eD:∀x c,J.names.lookup x=some .free->env.cells.lookup x=some c->c≠dx):
  ∀{na:List (Str×H)} {body:List Stmt} {s:Shared} {es:List DictEntry} {n:Nat} {l:List (Str×Value)},uj (na.map (·.1)) body->aK w CM K env J ρ s fs->e1 env J s.heap "self" (.ref x)->yi s.heap x dx C es n->fB es l->
  (∀p∈na,getL p.1 fs.loc=some (.U p.2))->(∀p∈na,takerIn F C p.1=some none)->(∀p∈na,(p.1==("__debug__":Str))=false)->(na.map (·.1)).Nodup->(∀p∈na,p.1∉l.map (·.1))->es.length+na.length<1000->
  wpAny (model aw w) A (execs body env) (fun f az=>f=.next/\∃h' tk d4 i5 m,az={s with heap:=h',toks:=tk}/\Heap.SameBut dx s.heap h'/\aK w CM K env J ρ az fs/\h'.get? dx=some (dictOf d4 i5)/\fB d4 (l++m)/\i2 w CM ρ na m) E s
 |[],body,s,es,n,l,ah,I,ay,aP,aB,_,_,_,_,_,_=>by
  refine B (show body=[] from ah) ?_
  exact wpAny_execs_nil ⟨rfl,s.heap,s.toks,es,n,[],rfl,Heap.SameBut.refl ..,I,aP.V,by refine B (List.append_nil _) ?_;exact aB,rfl⟩
 |(k,y)::na,body,s,es,n,l,⟨g2,hE,iG,kn,t,ah,kC⟩,I,ay,aP,aB,bi,aG,p3,it,ec,hz=>by
  subst ah
  refine ba (I.eZ k _ (bi _ List.mem_cons_self)) ?_;intro v R6 sg
  refine wpAny_execs_cons (plainObj_wpAny_Assign_Attribute (hs:=JF) (R6.eval I.c2 (p3 _ List.mem_cons_self) (ay.eval I.c2 (by decide+kernel) ?_)))
  refine DW (bA▸I.in) ck (aG _ List.mem_cons_self) aP aB (ec _ List.mem_cons_self) (by simp only [List.length_cons] at hz;exact wR hz) fun h' d4 hs hH my oW=> ?_
  have hb:aK w CM K env J ρ {s with heap:=h',toks:=s.toks+2} fs:=I.hL l2 eD hs (by refine B hH ?_;nofun)
  have Ae:=List.nodup_cons.mp it
  refine wpAny_mono (Cb ck bA ae l2 b1 eD (s:={s with heap:=h',toks:=s.toks+2}) kC hb (ay.hL I l2 eD hs) ⟨(hs.2 x b1).trans aP.gp,hH⟩ my (fun p an=>bi p (List.mem_cons_of_mem _ an)) (fun p an=>aG p (List.mem_cons_of_mem _ an))
   (fun p an=>p3 p (List.mem_cons_of_mem _ an)) Ae.2 (fun p an q=> ?_) (by simp only [List.length_cons] at hz;exact Qw hz oW)) (fun f az P=> ?_) fun _ _ f=>f
  ·replace q:=List.map_append▸q
   rcases List.mem_append.mp q with q|q
   ·exact ec p (List.mem_cons_of_mem _ an) q
   ·exact Ae.1 (List.mem_map.mpr ⟨p,an,by simpa using q⟩)
  ·obtain⟨rfl,tY,tk,WB,Tu,m,rfl,t0,So,pI,W1,TA⟩:=P
   exact⟨rfl,tY,tk,WB,Tu,(k,v)::m,rfl,hs.trans t0,So,pI,by refine B (List.append_cons _ _ _) ?_;exact W1,v,m,rfl,sg,TA⟩
end
end Mine
end
section
open PySem PySem.W PySem.Calls PyProof.Rows
namespace Mine
structure oP (F:Frag) (C:Addr) (names:List Str):Prop where
 tE:makesIn F C=true
 ao:sL F C
 tk:∀n∈names,takerIn F C n=some none
 init:∃ao fI ob bK,findIn F (.ref C) "__init__"=some (some (.ref fI))/\typeIn F (.ref fI)=some (.type "function")/\kg F ao fI ob bK/\bK.defaults=.none/\params ao=("self":Str)::names/\uj names (g3 ao)
 keep:keepIn F (.ref C)=true
 ex:names.Nodup
 fx:names.length<900
 L8:∀n∈names,(n==("__debug__":Str))=false
structure xn (CM:cp) (bj:dM) (F:Frag):Prop extends pZ CM bj F where
 FX:∀c names,jN c=some names->∃C,CM c=some C/\hv F c=some (.ref C)/\oP F C names/\(c==("__debug__":Str))=false
theorem Nr (names:List Str):∀{vs:List H} {l:List (Str×H)},pP names vs=some l->jH names vs=some (l.map fun p=>(p.1,.U p.2))/\l.map (·.1)=names/\l.length=names.length:=by
 induction names with
 |nil=>
  intro vs l q
  cases vs with
  |nil=>cases q;exact⟨rfl,rfl,rfl⟩
  |cons _ _=>exact Z q
 |cons x r ih=>
  intro vs l q
  cases vs with
  |nil=>exact Z q
  |cons v t=>
   refine bG q (fun dc M q=>cG q ?_) Z
   refine⟨?_,congrArg (x:: ·) (ih M).2.1,congrArg (· +1) (ih M).2.2⟩
   show br (jH r t) _=_
   refine B ((ih M).1) ?_;rfl
theorem IF (l:List (Str×H)):(l.map (·.1)).Nodup->∀p∈l,Mine.getL p.1 (l.map fun p=>(p.1,cg.U p.2))=some (.U p.2):=by
 induction l with
 |nil=>intro _ p an;exact(List.not_mem_nil an).elim
 |cons k r ih=>
  intro aE p an
  refine cm (List.nodup_cons.mp aE) ?_;intro M O
  rcases List.mem_cons.mp an with e|an
  ·refine B e ?_;exact if_pos rfl
  ·exact(if_neg (fun q=>M (List.mem_map.mpr ⟨p,an,q⟩))).trans (ih O p an)
theorem JP (C:Addr) (l:List Value) (kw:List (Str×Value)):(Code.builtin "type.__call__" ⟨.ref C::l,kw⟩).weight=1:=by rfl
theorem vP {k:Nat} (A:Around) (C:Addr) (l:List Value) (kw:List (Str×Value)):(A.under (.builtin "type.__call__" ⟨.ref C::l,kw⟩)).depth<=A.depth+2*k+8:=by
 show A.depth+(Code.builtin "type.__call__" _).weight<=_
 (refine B (JP _ _ _) ?_;refine B (Nat.add_assoc _ _ _) ?_);exact Nat.add_le_add_left (Nat.le_trans (by decide:1<=8) (Nat.le_add_left _ _)) _
section
variable{w:World} {CM:cp} {bj:dM} {F:Frag} {K:Top} {env:Env} {J:Scope} {A:Around} {E:Value->Shared->Prop} {ρ ρ₀ ρ':a5} {s db az:Shared} {fs fs' fs₁:X} {R:bk}
theorem nD {a:Addr} (h:ρ a=.aU):bo ρ a=.aU:=congrArg e2 h
theorem K8 {k:Nat} (bl:pO CM bj F) (bA:K.f=F) (bc:ek K k A) {c:Str} {C:Addr} {names:List Str} (ck:CM c=some C) (eY:oP F C names) {vs:List H} {l:List (Str×H)} (hz:pP names vs=some l)
  (I:aK w CM K env J ρ s fs) {bf:List Value} (ay:a8 w CM ρ vs bf):
  wpAny (model aw w) A (call (.ref C) bf) (b4 w CM K env J ρ s fs (.U (.dV c l)) fs) E s:=by
 obtain⟨ao,fI,ob,bK,aR,v0,bU,sz,gv,sG⟩:=eY.init
 refine eg (Nr _ hz) ?_;intro Dk qh bC
 have e5:F.In s.heap:=bA▸I.in
 have jZ:ρ (s.heap.objs.size+1)=.free:=(I.base.c0 _).mpr (by
  cases e:s.heap.get? (s.heap.objs.size+1) with
  |none=>rfl
  |some ob=>exact absurd (Heap.lt_size e) (Nat.not_lt.mpr (Nat.le_succ _)))
 have iY:ρ s.heap.objs.size=.free:=(I.base.c0 _).mpr e8
 refine wpAny_call (make_core (makes_of e5 eY.tE) (looks_findIn e5 aR) (fun self=>bind_fn e5 self v0) (.inl rfl) ?_)
 have iD:∀b o,s.heap.get? b=some o->((s.heap.push emptyDict).push (instObj C s.heap.objs.size)).get? b=some o:=fun b o e=>Heap.get?_push_of_some _ (Heap.get?_push_of_some _ e)
 generalize oh:(s.heap.push emptyDict).push (instObj C s.heap.objs.size)=M at iD
 have jD:M.get? (s.heap.objs.size+1)=some (instObj C s.heap.objs.size):=by(refine bt oh ?_;refine bt (Heap.size_push s.heap emptyDict) ?_);exact Heap.get?_push_size _ rfl
 have o3:M.get? s.heap.objs.size=some emptyDict:=by refine bt oh ?_;exact Heap.get?_push_of_some _ (Heap.get?_push_size _ rfl)
 have nB:bo ρ (s.heap.objs.size+1)=.free:=gQ.mpr jZ
 have hC:bo ρ s.heap.objs.size=.free:=gQ.mpr iY
 have ej:a2 (bo ρ) s (bQ (bo ρ) M) {s with heap:=M}:=a2.dF (tk:=s.toks) iD
 have nV:cM w CM K (bQ (bo ρ) M) {s with heap:=M} fs.per:=I.base.bo.dF (tk:=s.toks) iD
 have lN:ii (bQ (bo ρ) M):=fun a=>⟨fun x q=>(hX ρ a).1 x (gb.mp q),fun q=>(hX ρ a).2.1 (ou.mp q),fun q=>(hX ρ a).2.2 (o8.mp q)⟩
 have kP:bQ (bo ρ) M (s.heap.objs.size+1)=.aU:=gF nB jD
 have jU:bQ (bo ρ) M s.heap.objs.size=.aU:=gF hC o3
 have i0:F.In M:=fun b x e=>iD _ _ (e5 b x e)
 have h9:a8 w CM (bQ (bo ρ) M) vs bf:=ay.bo.bu ej.bL ej.per
 have zM:=ay.length
 have fD:(Value.ref (s.heap.objs.size+1)::bf).length=(params ao).length:=by
  (refine B gv ?_;refine B List.length_cons ?_;refine B List.length_cons ?_;refine B zM ?_;refine bt (EI _ Dk) ?_;rfl)
 have ho:=rb _ fD.symm
 refine codeAny_call_cells (s:={s with heap:=M}) (Nat.lt_of_le_of_lt (vP (k:=k) A _ _ _) bc.depth) (i0 _ _ bU.gp) bU.data (bl.sq _ i0) (codeRec_of i0 bU.code) bU.body (bU.bind _ fD sz) bU.tB (fun y aQ=> ?_) (fun aj x=> ?_) (by refine B bU.scope ?_;exact bU.J.tJ) (by refine B bU.scope ?_;exact bU.J.gen) (by refine B bU.scope ?_;exact bU.J.kind)
 ·have:y.1∈params ao:=by refine bt ho ?_;exact List.mem_map.mpr ⟨_,aQ,rfl⟩
  refine B bU.scope ?_
  rcases bU.J.par _ this with q|q
  ·exact .inl q
  ·exact .inr ⟨q,bU.J.ff _ _ q⟩
 ·have uJ:(("self":Str),Value.ref (s.heap.objs.size+1))∈(params ao).zip (Value.ref (s.heap.objs.size+1)::bf):=by refine B gv ?_;exact List.mem_cons_self
  have a1:=tD (w:=w) (CM:=CM) (K:=K) (loc:=l.map fun p=>(p.1,cg.U p.2)) (ρ:=bQ (bo ρ) M) bU fD.symm (fun y bh g=>by
   refine dN (AP _ Dk h9 g) ?_;intro z v ak ar bP
   exact⟨z,v,ak,by refine B gv ?_;exact List.mem_cons_of_mem _ ar,bP⟩) nV lN rfl x
  have VK:=m3 bU fD.symm rfl x uJ
  have mM:=bU.J
  obtain⟨og,gD,uR⟩:=a1
  have ol:=gD.aU _ kP
  have n2:=gD.aU _ jU
  refine wpAny_mono (Cb (K:={K with frames:=(callEnvC bK M.objs.size fI).locals::K.frames}) (E:=fun _ _=>False) (fs:=⟨l.map fun p=>(p.1,cg.U p.2),fs.per⟩) (C:=C) (dx:=s.heap.objs.size) (es:=[]) (n:=0) (l:=[]) (na:=l) eY.ao bA ol n2 (Nat.succ_ne_self _) (fun y c M O=>absurd M (mM.c0 y)) (by refine B qh ?_;exact sG) og VK ⟨gD.keep _ _ kP jD,gD.keep _ _ jU o3⟩ rfl
   (IF _ (by refine B qh ?_;exact eY.ex)) (fun p an=>eY.tk _ (by refine bt qh ?_;exact List.mem_map.mpr ⟨p,an,rfl⟩)) (fun p an=>eY.L8 _ (by refine bt qh ?_;exact List.mem_map.mpr ⟨p,an,rfl⟩)) (by refine B qh ?_;exact eY.ex) (fun p an=>by simp) (by refine B bC ?_;have:=eY.fx;simp only [List.length_nil];exact TE this)) (fun f az P=> ?_) fun _ _ f=>f.elim
  obtain⟨rfl,h',tk,d4,i5,m,rfl,hs,hb,hH,my,Uu⟩:=P
  refine⟨rfl,?_⟩
  have nS:cr w CM {K with frames:=(callEnvC bK M.objs.size fI).locals::K.frames} (callEnvC bK M.objs.size fI) (bN ao) (bo ρ) s _ {aj with heap:=h',toks:=tk} ⟨l.map fun p=>(p.1,cg.U p.2),fs.per⟩:=
   ⟨hb,(ej.trans gD).hL hC hs,fun a y e=>ej.h3 _ (uR a y e)⟩
  refine eg (cr.tO (K:=K) (K':={K with frames:=(callEnvC bK M.objs.size fI).locals::K.frames}) rfl rfl (fun L h=>List.mem_cons_of_mem _ h) nS (hX ρ)) ?_;intro cS dA l4
  refine eg (I.q4 cS dA l4) ?_;intro e7 l0 l6
  have Y2:=my
  replace my:=(List.nil_append _)▸my
  have yn:fh ρ (bo (h2 (bQ (bo ρ) M) aj.heap (callEnvC bK M.objs.size fI).locals (callEnvC bK M.objs.size fI).cells)) (s.heap.objs.size+1)=.aU:=(kI nB).trans (nD ol)
  have wc:fh ρ (bo (h2 (bQ (bo ρ) M) aj.heap (callEnvC bK M.objs.size fI).locals (callEnvC bK M.objs.size fI).cells)) s.heap.objs.size=.aU:=(kI hC).trans (nD n2)
  have r3:h'.get? (s.heap.objs.size+1)=some (instObj C s.heap.objs.size):=(hs.2 _ (Nat.succ_ne_self _)).trans (gD.keep _ _ kP jD)
  have yt:=e7.fE (ob:=instObj C s.heap.objs.size) yn (h4 I jZ) r3
  have lK:=yt.fE (a:=s.heap.objs.size) (ob:=dictOf d4 i5) ((bp (Nat.ne_of_lt (Nat.lt_succ_self _))).trans wc) (h4 I iY) hH
  refine⟨_,lK,(l0.fE jZ).fE iY,(l6.fE jZ).fE iY,?_⟩
  refine bY.C9 ck ((bp (Nat.succ_ne_self _)).trans dK) dK my (Uu.bu (fun b o e=> ?_) fun b o e=> ?_) (by refine B qh ?_;exact eY.ex)
  ·have ah:b≠s.heap.objs.size+1:=fun q=>by(replace e:=q▸e;replace e:=ol▸e);cases e
   have kC:b≠s.heap.objs.size:=fun q=>by(replace e:=q▸e;replace e:=n2▸e);cases e
   (refine B (bp kC) ?_;refine B (bp ah) ?_)
   exact(pD dA).1 _ _ (mh.mpr e)
  ·have ah:b≠s.heap.objs.size+1:=fun q=>by(replace e:=q▸e;replace e:=ol▸e);cases e
   have kC:b≠s.heap.objs.size:=fun q=>by(replace e:=q▸e;replace e:=n2▸e);cases e
   (refine B (bp kC) ?_;refine B (bp ah) ?_)
   exact(pD dA).2 _ _ (nw.mpr e)
theorem Uy {k:Nat} (bl:xn CM bj F) (bA:K.f=F) (bc:ek K k A) (S:cC w CM K env J A R) {f:Str} {p pos:Pos} {args:List Expr} {names:List Str} {vs:List H} {l:List (Str×H)}
  (ae:J.names.lookup f=some .globalImplicit) (aR:jN f=some names) (bZ:dp R args fs=some (vs,fs₁)) (hz:pP names vs=some l) (I:aK w CM K env J ρ s fs):
  wpAny (model aw w) A (eval (.Call (.Name f p) args [] pos) env) (b4 w CM K env J ρ s fs (.U (.dV f l)) fs₁) cf s:=by
 subst bA
 refine gw (bl.FX f names aR) ?_;intro C ck bi eY p3
 refine lr bi ae I p3 (D9 S eY.keep bZ I fun bf aj P=> ?_)
 refine gw P ?_;clear P;intro aN aZ a0 bv gE
 exact wpAny_mono (K8 bl.topZ.tojB.totZ.topO rfl bc ck eY hz aZ gE) (fun v cu P=>P.trans a0 bv) fun _ _ f=>f
end
end Mine
end
section
open PySem PySem.W PySem.Calls PyProof.Rows
namespace Mine
section
variable{prog:Program} {w:World} {A:Around} {s:Shared}
theorem DQ {R:Result->Shared->Prop} {a:Addr} {o:Obj} {bK:FuncData} {body:List Stmt} {bf:List Value} {vh:List (Str×Value)}
  (P8:A.depth<recursionLimit) (cq:s.heap.get? a=some o) (LL:o.data=.func bK) (KB:s.heap.NoLimit) (sw:s.heap.CodeRec bK.code bK.qualname)
  (sG:bK.body=.stmts body) (re:BindsTo s bK ⟨bf,[]⟩ vh) (TD:bK.closure=[])
  (kN:∀x∈vh,bK.scope.names.lookup x.1=some .local\/(bK.scope.names.lookup x.1=some .cell/\((cellsFrom (s.heap.objs.size+1) bK.scope.names []).lookup x.1).isSome=true))
  (h:∀aj,InCallC s (callEnvC bK s.heap.objs.size a).locals (bindL (callEnvC bK s.heap.objs.size a).kindOf vh fun _=>none) (callEnvC bK s.heap.objs.size a).cells
    (bindC (callEnvC bK s.heap.objs.size a).kindOf vh fun _=>none) aj->
   wpAny (model prog w) (A.deeper (callEnvC bK s.heap.objs.size a)) (execs body (callEnvC bK s.heap.objs.size a)) (fun f az=>R (.ok (.ret (match f with|.ret v=>v|_=>.none))) az)
    (fun e az=>wpAny (model prog w) (A.deeper (callEnvC bK s.heap.objs.size a)) (leaving (callEnvC bK s.heap.objs.size a) e) (fun _ tH=>R (.error e) tH) (fun ci tH=>R (.error ci) tH) az) aj)
  (MN:bK.scope.isCoroutine=false) (Vk:bK.scope.isGenerator=false) (ag:bK.scope.kind=.function):
  codeAny (model prog w) A (.call (.ref a) ⟨bf,[]⟩) R s:=by
 refine codeAny_call_function P8 cq LL MN Vk sG sw (re _ _ _ _ ?_)
 refine B TD ?_
 refine wpAny_newFunctionEnv_cells ag kN fun env aX az x=> ?_
 subst aX
 exact⟨KB.keeps x.toInCall.keep,codeAny_func (h az x)⟩
end
section
variable{w:World} {CM:cp} {bj:dM} {F:Frag} {K:Top} {env:Env} {J:Scope} {A:Around} {E:Value->Shared->Prop} {ρ ρ₀ ρ':a5} {s db az:Shared} {fs fs' fs₁:X} {R:bk}
theorem cM.mQ {per:List H} {a:Addr} {v:H} (ap:cM w CM K ρ s per) (hd:ρ a=.aU) (ay:dR w CM ρ s.heap a v):cM w CM K (cx ρ a (.per per.length)) s (per++[v]):=by
 have aB:∀b o,ρ b=.be o->cx ρ a (.per per.length) b=.be o:=fun b o e=>by
  refine B (bp (fun q:b=a=>by rw [q,hd] at e;cases e)) ?_;exact e
 have an:∀b k,ρ b=.per k->cx ρ a (.per per.length) b=.per k:=fun b k e=>by
  refine B (bp (fun q:b=a=>by rw [q,hd] at e;cases e)) ?_;exact e
 have cz:∀b k,ρ b=.per k->k<per.length:=fun b k e=>by
  refine ba (ap.fT b k e) ?_;intro x M _
  rcases Nat.lt_or_ge k per.length with h|h
  ·exact h
  ·replace M:=(List.getElem?_eq_none h)▸M;exact Z M
 refine⟨fun b x e=>aB _ _ (ap.fV b x e),fun b x e=>aB _ _ (ap.fC b x e),fun b e=>let⟨M,O⟩:=ap.fl b e;⟨by refine B (bp (fun q:b=a=>by rw [q,hd] at M;exact M)) ?_;exact M,O⟩,fun b o e=> ?_,fun b=> ?_,fun k ag=> ?_,fun b k e=> ?_,fun b c k ak ar=> ?_⟩
 ·by_cases q:b=a
  ·subst q;replace e:=dK▸e;cases e
  ·replace e:=(bp q)▸e;exact ap.bL b o e
 ·by_cases q:b=a
  ·subst q
   refine B dK ?_
   refine⟨fun e=>(nomatch e),fun e=> ?_⟩
   replace hd:=((ap.c0 b).mpr e)▸hd;cases hd
  ·refine B (bp q) ?_;exact ap.c0 b
 ·(replace ag:=List.length_append▸ag;replace ag:=List.length_cons▸ag;replace ag:=List.length_nil▸ag)
  by_cases eC:k<per.length
  ·obtain⟨b,e⟩:=ap.gh k eC;exact⟨b,an _ _ e⟩
  ·have:k=per.length:=by exact S7 ag eC
   subst this
   exact⟨a,dK⟩
 ·by_cases q:b=a
  ·subst q
   replace e:=dK▸e;cases e
   exact⟨v,by simp,ay.bu aB an fun _ e=>e⟩
  ·replace e:=(bp q)▸e
   obtain⟨x,M,O⟩:=ap.fT b k e
   exact⟨x,by refine B (List.getElem?_append_left (cz b k e)) ?_;exact M,O.bu aB an fun _ e=>e⟩
 ·by_cases bZ:b=a
  ·subst bZ
   replace ak:=dK▸ak;cases ak
   by_cases bn:c=b
   ·exact bn.symm
   ·replace ar:=(bp bn)▸ar
    exact absurd (cz c _ ar) (Nat.lt_irrefl _)
  ·replace ak:=(bp bZ)▸ak
   by_cases bn:c=a
   ·subst bn
    replace ar:=dK▸ar;cases ar
    exact absurd (cz b _ ak) (Nat.lt_irrefl _)
   ·replace ar:=(bp bn)▸ar
    exact ap.inj b c k ak ar
theorem aK.mQ {a:Addr} {v:H} (I:aK w CM K env J ρ s fs) (hd:ρ a=.aU) (eD:∀x c,J.names.lookup x=some .free->env.cells.lookup x=some c->c≠a) (ay:dR w CM ρ s.heap a v):
  aK w CM K env J (cx ρ a (.per fs.per.length)) s {fs with per:=fs.per++[v]}:=by
 have aB:∀b o,ρ b=.be o->cx ρ a (.per fs.per.length) b=.be o:=fun b o e=>by
  refine B (bp (d6 e hd)) ?_;exact e
 have an:∀b k,ρ b=.per k->cx ρ a (.per fs.per.length) b=.per k:=fun b o e=>by
  refine B (bp (d6 e hd)) ?_;exact e
 have bx:∀b k,ρ b=.aD k->cx ρ a (.per fs.per.length) b=.aD k:=fun b o e=>by
  refine B (bp (d6 e hd)) ?_;exact e
 have aY:∀b,ρ b=.frame->cx ρ a (.per fs.per.length) b=.frame:=fun b e=>by
  refine B (bp (d6 e hd)) ?_;exact e
 have pi:∀b,ρ b=.cell->cx ρ a (.per fs.per.length) b=.cell:=fun b e=>by
  refine B (bp (d6 e hd)) ?_;exact e
 have iz:∀b x,cx ρ a (.per fs.per.length) b=.aD x->ρ b=.aD x:=fun b x e=>by
  by_cases q:b=a
  ·(replace e:=q▸e;replace e:=dK▸e);cases e
  ·rwa [bp q] at e
 exact⟨I.base.mQ hd ay,I.c2,aY _ I.cL,I.fv,fun x bh e=>let⟨v,M,O⟩:=I.eZ x bh e;⟨v,M,O.bu aB an bx⟩,
  fun x e=>let⟨c,v,M,O,Y⟩:=I.cells x e;⟨c,v,M,pi _ O,Y⟩,
  fun x c ak ar=>(bp (eD x c ak ar)).trans (I.frees x c ak ar),I.apart,
  fun b x e=>let⟨aL,c,M,O⟩:=I.eX b x (iz _ _ e);⟨aL,c,M,O.bu aB an fun _ e=>e⟩,fun b c x ak ar=>I.fq b c x (iz _ _ ak) (iz _ _ ar)⟩
theorem a2.kX {a:Addr} {r:cV} (av:a2 ρ₀ db ρ s) (aL:ρ₀ a=.free):a2 ρ₀ db (cx ρ a r) s:=by
 have b1:∀{b:Addr},ρ₀ b≠.free->b≠a:=fun h q=>h (by refine B q ?_;exact aL)
 exact⟨fun b o e=>(bp (b1 (bI e))).trans (av.bL b o e),fun b e=>(bp (b1 (bI e))).trans (av.aU b e),
  fun b o e=>(bp (b1 (bI e))).trans (av.per b o e),fun b e=>(bp (b1 (bI e))).trans (av.cL b e),
  fun b e=>(bp (b1 (bI e))).trans (av.ff b e),fun b e=>(bp (b1 (bI e))).trans (av.stk b e),
  fun b o e=>by refine B (bp (b1 (bI e))) ?_;exact av.aD b o e,av.keep,av.ig,av.ao⟩
theorem ce.mQ {a:Addr} {k:Nat} {l dc:List (Str×cg)} (av:ce ρ₀ l ρ dc) (aL:ρ₀ a=.free):ce ρ₀ l (cx ρ a (.per k)) dc where
 U:=av.U
 aD:=fun b x e=>by
  by_cases q:b=a
  ·subst q;replace e:=aL▸e;cases e
  ·refine B (bp q) ?_;exact av.aD b x e
 gu:=fun b x e=>by
  by_cases q:b=a
  ·subst q;replace e:=dK▸e;cases e
  ·replace e:=(bp q)▸e;exact av.gu b x e
noncomputable def x6 (n:Str) (ao:Stmt):Prop:=∃g2 hE iG kn DM C8 EN E3 B3 k,ao=.Assign [.Attribute (.Name "self" g2) n hE] (.IfExp (.Compare (.Name n iG) [.Is] [.Constant .none k kn] DM) (.Dict [] [] C8) (.Name n EN) E3) B3
structure yv (F:Frag) (C:Addr):Prop where
 tE:makesIn F C=true
 ao:sL F C
 tk:takerIn F C "table"=some none/\takerIn F C "trailer"=some none
 init:∃ao fI ob bK d3 dS,findIn F (.ref C) "__init__"=some (some (.ref fI))/\typeIn F (.ref fI)=some (.type "function")/\kg F ao fI ob bK/\params ao=(["self","table","trailer"]:List Str)/\g3 ao=[d3,dS]/\x6 "table" d3/\x6 "trailer" dS/\
  ∀s,F.In s.heap->∀v,BindsTo s bK ⟨[v],[]⟩ [("self",v),("table",.none),("trailer",.none)]
 keep:keepIn F (.ref C)=true
theorem Bb {x dx C:Addr} {n:Str} {ao:Stmt} {es:List DictEntry} {k:Nat} {l:List (Str×Value)} {Q:Flow->Shared->Prop} (mK:x6 n ao) (ck:sL F C) (bA:K.f=F) (ae:ρ x=.aU) (l2:ρ dx=.aU) (b1:x≠dx) (eD:∀x c,J.names.lookup x=some .free->env.cells.lookup x=some c->c≠dx)
  (aG:takerIn F C n=some none) (fC:(n==("__debug__":Str))=false)
  (I:aK w CM K env J ρ s fs) (ay:e1 env J s.heap "self" (.ref x)) (aE:e1 env J s.heap n .none) (aP:yi s.heap x dx C es k) (aB:fB es l) (ec:n∉l.map (·.1)) (hz:es.length<1000)
  (h:∀h' tk d4,s.heap.objs.size≠dx->h'.get? dx=some (dictOf d4 (k+1))->fB d4 (l++[(n,.ref s.heap.objs.size)])->d4.length=es.length+1->h'.get? s.heap.objs.size=some emptyDict->(∀b o,b≠dx->s.heap.get? b=some o->h'.get? b=some o)->(∀b,b≠dx->s.heap.get? b=none->b≠s.heap.objs.size->h'.get? b=none)->
   (aK w CM K env J (bQ ρ (s.heap.push emptyDict)) {s with heap:=h',toks:=tk} fs)->Heap.SameBut dx (s.heap.push emptyDict) h'->(∀y v,e1 env J s.heap y v->e1 env J h' y v)->Q .next {s with heap:=h',toks:=tk}):
  wpAny (model aw w) A (exec ao env) Q E s:=by
 obtain⟨g2,hE,iG,kn,DM,C8,EN,E3,B3,kk,rfl⟩:=mK
 refine plainObj_wpAny_Assign_Attribute (wpAny_IfExp (wpAny_isTrue_Compare1 (aE.eval I.c2 fC (wpAny_Constant_none (is_none ?_))))) (hs:=rfl)
 refine B (show(Value.none==Value.none)=true from by decide) ?_
 refine wpAny_truthy_bool ?_
 refine B (if_pos rfl) ?_
 refine wpAny_Dict_empty ?_
 have ag:∀b o,s.heap.get? b=some o->(s.heap.push emptyDict).get? b=some o:=fun b o e=>Heap.get?_push_of_some _ e
 have jt:aK w CM K env J (bQ ρ (s.heap.push emptyDict)) {s with heap:=s.heap.push emptyDict} fs:=I.dF (tk:=s.toks) ag
 have h9:=ay.bu ag
 have Br:s.heap.objs.size≠dx:=fun q=>by have:=Heap.lt_size aP.V;replace this:=(Eq.symm q)▸this;exact Nat.lt_irrefl _ this
 refine h9.eval (s:={s with heap:=s.heap.push emptyDict}) jt.c2 (by decide+kernel) ?_
 have Gk:bQ ρ (s.heap.push emptyDict) dx=.aU:=(lZ (bI l2)).trans l2
 refine DW (s:={s with heap:=s.heap.push emptyDict}) (bA▸jt.in) ck aG ⟨ag _ _ aP.gp,ag _ _ aP.V⟩ aB ec hz fun h' d4 hs hH my oW=> ?_
 refine h h' _ d4 Br hH my oW ((hs.2 _ Br).trans (Heap.get?_push_size _ rfl)) (fun b o ah e=>(hs.2 b ah).trans (ag b o e)) (fun b ah e kC=>(hs.2 b ah).trans ?_) (jt.hL Gk eD hs (by refine B hH ?_;nofun)) hs fun y v q=>(q.bu ag).hL jt Gk eD hs
 refine B (Heap.get?_push_ne _ _ _ kC) ?_;exact e
theorem Dm (i3:∃ob,K.f.lookup sysModules=some ob) (I:aK w CM K env J ρ s fs) {a:Addr} (aE:s.heap.get? a=none) {ρ':a5} {h':Heap} (h:h'.get? a=some emptyDict):dR w CM ρ' h' a (.V []):=
 ⟨_,#[],0,[],q9 i3 I aE,h,⟨rfl,rfl,rfl⟩,rfl,fun e aX=>by simp at aX,.nil,.nil,rfl⟩
set_option maxHeartbeats 1000000 in
theorem M3 {k:Nat} (bl:pO CM bj F) (bA:K.f=F) (bc:ek K k A) {C:Addr} (ck:CM "Shelf"=some C) (eY:yv F C) (I:aK w CM K env J ρ s fs):
  wpAny (model aw w) A (call (.ref C) []) (b4 w CM K env J ρ s fs (.U (.dV "Shelf" [("table",.per fs.per.length),("trailer",.per (fs.per.length+1))])) {fs with per:=fs.per++[.V [],.V []]}) E s:=by
 obtain⟨ao,fI,ob,bK,YA,Yp,aR,v0,bU,gv,sG,rv,Ke,re⟩:=eY.init
 have e5:F.In s.heap:=bA▸I.in
 have jZ:ρ (s.heap.objs.size+1)=.free:=(I.base.c0 _).mpr (by
  cases e:s.heap.get? (s.heap.objs.size+1) with
  |none=>rfl
  |some ob=>exact absurd (Heap.lt_size e) (Nat.not_lt.mpr (Nat.le_succ _)))
 have iY:ρ s.heap.objs.size=.free:=(I.base.c0 _).mpr e8
 refine wpAny_call (make_core (makes_of e5 eY.tE) (looks_findIn e5 aR) (fun self=>bind_fn e5 self v0) (.inl rfl) ?_)
 have iD:∀b o,s.heap.get? b=some o->((s.heap.push emptyDict).push (instObj C s.heap.objs.size)).get? b=some o:=fun b o e=>Heap.get?_push_of_some _ (Heap.get?_push_of_some _ e)
 generalize oh:(s.heap.push emptyDict).push (instObj C s.heap.objs.size)=M at iD
 have jD:M.get? (s.heap.objs.size+1)=some (instObj C s.heap.objs.size):=by(refine bt oh ?_;refine bt (Heap.size_push s.heap emptyDict) ?_);exact Heap.get?_push_size _ rfl
 have o3:M.get? s.heap.objs.size=some emptyDict:=by refine bt oh ?_;exact Heap.get?_push_of_some _ (Heap.get?_push_size _ rfl)
 have nB:bo ρ (s.heap.objs.size+1)=.free:=gQ.mpr jZ
 have hC:bo ρ s.heap.objs.size=.free:=gQ.mpr iY
 have ej:a2 (bo ρ) s (bQ (bo ρ) M) {s with heap:=M}:=a2.dF (tk:=s.toks) iD
 have nV:cM w CM K (bQ (bo ρ) M) {s with heap:=M} fs.per:=I.base.bo.dF (tk:=s.toks) iD
 have lN:ii (bQ (bo ρ) M):=fun a=>⟨fun x q=>(hX ρ a).1 x (gb.mp q),fun q=>(hX ρ a).2.1 (ou.mp q),fun q=>(hX ρ a).2.2 (o8.mp q)⟩
 have kP:bQ (bo ρ) M (s.heap.objs.size+1)=.aU:=gF nB jD
 have jU:bQ (bo ρ) M s.heap.objs.size=.aU:=gF hC o3
 have i0:F.In M:=fun b x e=>iD _ _ (e5 b x e)
 have fD:(params ao).length=[Value.ref (s.heap.objs.size+1),.none,.none].length:=by refine B gv ?_;rfl
 have km:(params ao).zip [Value.ref (s.heap.objs.size+1),.none,.none]=([("self",.ref (s.heap.objs.size+1)),("table",.none),("trailer",.none)]:List (Str×Value)):=by refine B gv ?_;rfl
 have mM:=bU.J
 refine DQ (s:={s with heap:=M}) (Nat.lt_of_le_of_lt (vP (k:=k) A _ _ _) bc.depth) (i0 _ _ bU.gp) bU.data (bl.sq _ i0) (codeRec_of i0 bU.code) bU.body (re _ i0 _) bU.tB (fun y aQ=> ?_) (fun aj x=> ?_) (by refine B bU.scope ?_;exact bU.J.tJ) (by refine B bU.scope ?_;exact bU.J.gen) (by refine B bU.scope ?_;exact bU.J.kind)
 ·have:y.1∈params ao:=by(refine bt (rb _ fD) ?_;refine B km ?_);exact List.mem_map.mpr ⟨_,aQ,rfl⟩
  refine B bU.scope ?_
  rcases mM.par _ this with q|q
  ·exact .inl q
  ·exact .inr ⟨q,mM.ff _ _ q⟩
 replace x:=(Eq.symm km)▸x
 have a1:=tD (w:=w) (CM:=CM) (K:=K) (loc:=[]) (ρ:=bQ (bo ρ) M) bU fD (fun y bh g=>nomatch g) nV lN rfl x
 have lJ:=m3 bU fD rfl x (y:="self") (v:=.ref (s.heap.objs.size+1)) (by refine B km ?_;simp)
 have nP:=m3 bU fD rfl x (y:="table") (v:=.none) (by refine B km ?_;simp)
 have yP:=m3 bU fD rfl x (y:="trailer") (v:=.none) (by refine B km ?_;simp)
 obtain⟨og,gD,uR⟩:=a1
 generalize w6:h2 (bQ (bo ρ) M) aj.heap (callEnvC bK M.objs.size fI).locals (callEnvC bK M.objs.size fI).cells=bH at*
 have og:aK w CM {K with frames:=(callEnvC bK M.objs.size fI).locals::K.frames} (callEnvC bK M.objs.size fI) (bN ao) bH aj ⟨[],fs.per⟩:=w6▸og
 have gD:a2 (bQ (bo ρ) M) {s with heap:=M} bH aj:=w6▸gD
 have uR:∀a x,bH a=.aD x->bQ (bo ρ) M a=.free:=w6▸uR
 have ol:=gD.aU _ kP
 have n2:=gD.aU _ jU
 have eD:∀y c,(bN ao).names.lookup y=some .free->(callEnvC bK M.objs.size fI).cells.lookup y=some c->c≠s.heap.objs.size:=fun y c M O=>absurd M (mM.c0 y)
 refine B sG ?_
 have nv:∀b o,s.heap.get? b=some o->aj.heap.get? b=some o:=fun b o e=>x.toInCall.keep b o (iD b o e)
 have kr:s.heap.get? aj.heap.objs.size=none:=by
  cases e:s.heap.get? aj.heap.objs.size with
  |none=>rfl
  |some o=>exact absurd (Heap.lt_size (nv _ _ e)) (Nat.lt_irrefl _)
 refine wpAny_execs_cons (Bb (K:={K with frames:=(callEnvC bK M.objs.size fI).locals::K.frames}) rv eY.ao bA ol n2 (Nat.succ_ne_self _) eD eY.tk.1 (by decide+kernel) og lJ nP ⟨gD.keep _ _ kP jD,gD.keep _ _ jU o3⟩ (l:=[]) rfl (by simp) (by decide) fun O vN YX bZ bn ef ib iy pT YC kx Hp GN=> ?_)
 have k7:s.heap.get? O.objs.size=none:=by
  cases e:s.heap.get? O.objs.size with
  |none=>rfl
  |some o=>
   by_cases ah:O.objs.size=s.heap.objs.size
   ·(replace e:=ah▸e;replace e:=e8▸e);exact Z e
   ·exact absurd (Heap.lt_size (pT _ _ ah (nv _ _ e))) (Nat.lt_irrefl _)
 have Fw:=mG (h':=aj.heap.push emptyDict) ol
 have CO:=mG (h':=aj.heap.push emptyDict) n2
 refine wpAny_execs_cons (Bb (K:={K with frames:=(callEnvC bK M.objs.size fI).locals::K.frames}) (s:={aj with heap:=O,toks:=vN}) Ke eY.ao bA Fw CO (Nat.succ_ne_self _) eD eY.tk.2 (by decide+kernel) kx (GN _ _ lJ) (GN _ _ yP)
  ⟨pT _ _ (Nat.succ_ne_self _) (gD.keep _ _ kP jD),bn⟩ ef (by simp;decide+kernel) (by refine B ib ?_;decide) fun Y A3 ML eU j1 yK tQ PK uF GO n4 MH X4=>wpAny_execs_nil ?_)
 refine⟨rfl,?_⟩
 have d8:bH aj.heap.objs.size=.free:=(og.base.c0 _).mpr e8
 have VE:bQ bH (aj.heap.push emptyDict) aj.heap.objs.size=.aU:=gF d8 (Heap.get?_push_size _ rfl)
 have fG:bQ bH (aj.heap.push emptyDict) O.objs.size=.free:=(kx.base.c0 _).mpr e8
 have UA:bQ (bQ bH (aj.heap.push emptyDict)) (O.push emptyDict) O.objs.size=.aU:=gF fG (Heap.get?_push_size _ rfl)
 have PI:=mG (h':=O.push emptyDict) VE
 have Sg:=mG (h':=O.push emptyDict) Fw
 have Si:=mG (h':=O.push emptyDict) CO
 have DA:a2 (bo ρ) s bH aj:=ej.trans gD
 have Mg:a2 (bo ρ) s (bQ bH (aj.heap.push emptyDict)) {aj with heap:=O,toks:=vN}:=(DA.trans (a2.dF (tk:=aj.toks) (fun b o e=>Heap.get?_push_of_some _ e))).hL hC Hp
 have RK:a2 (bo ρ) s (bQ (bQ bH (aj.heap.push emptyDict)) (O.push emptyDict)) {aj with heap:=Y,toks:=A3}:=(Mg.trans (a2.dF (s:={aj with heap:=O,toks:=vN}) (tk:=vN) (fun b o e=>Heap.get?_push_of_some _ e))).hL hC MH
 have nS:cr w CM {K with frames:=(callEnvC bK M.objs.size fI).locals::K.frames} (callEnvC bK M.objs.size fI) (bN ao) (bo ρ) s _ {aj with heap:=Y,toks:=A3} ⟨[],fs.per⟩:=
  ⟨n4,RK,fun a y e=>DA.h3 _ (by have:=gb.mp (gb.mp e);exact absurd this (by
   intro q
   have:=(og.eX a y q).2
   refine ba this ?_;clear this;intro c hc _
   exact Z hc))⟩
 refine eg (cr.tO (K:=K) (K':={K with frames:=(callEnvC bK M.objs.size fI).locals::K.frames}) rfl rfl (fun L h=>List.mem_cons_of_mem _ h) nS (hX ρ)) ?_;intro cS dA l4
 refine eg (I.q4 cS dA l4) ?_;intro e7 l0 l6
 have bV:ρ aj.heap.objs.size=.free:=(I.base.c0 _).mpr kr
 have cD:ρ O.objs.size=.free:=(I.base.c0 _).mpr k7
 have yn:=(kI (ρ':=bo (bQ (bQ bH (aj.heap.push emptyDict)) (O.push emptyDict))) nB).trans (nD Sg)
 have wc:=(kI (ρ':=bo (bQ (bQ bH (aj.heap.push emptyDict)) (O.push emptyDict))) hC).trans (nD Si)
 have ak:=(kI (ρ':=bo (bQ (bQ bH (aj.heap.push emptyDict)) (O.push emptyDict))) (gQ.mpr bV)).trans (nD PI)
 have ar:=(kI (ρ':=bo (bQ (bQ bH (aj.heap.push emptyDict)) (O.push emptyDict))) (gQ.mpr cD)).trans (nD UA)
 have r3:Y.get? (s.heap.objs.size+1)=some (instObj C s.heap.objs.size):=uF _ _ (Nat.succ_ne_self _) (pT _ _ (Nat.succ_ne_self _) (gD.keep _ _ kP jD))
 have br:Y.get? aj.heap.objs.size=some emptyDict:=uF _ _ bZ iy
 have BK:O.objs.size≠aj.heap.objs.size:=fun q=>by have:=Heap.lt_size iy;replace this:=q▸this;exact Nat.lt_irrefl _ this
 have Co:s.heap.objs.size+1≠aj.heap.objs.size:=fun q=>by have:=Heap.lt_size (gD.keep _ _ kP jD);replace this:=q▸this;exact Nat.lt_irrefl _ this
 have A7:s.heap.objs.size+1≠O.objs.size:=fun q=>by have:=Heap.lt_size (pT (s.heap.objs.size+1) _ (Nat.succ_ne_self _) (gD.keep _ _ kP jD));replace this:=q▸this;exact Nat.lt_irrefl _ this
 have D2:∃ob,K.f.lookup sysModules=some ob:=bA▸bl.rH
 have yt:=e7.mQ (v:=.V []) ak (h4 I bV) (Dm D2 I kr br)
 have lK:=yt.mQ (a:=O.objs.size) (v:=.V []) (by refine B (bp BK) ?_;exact ar) (h4 I cD) (Dm D2 I k7 PK)
 have SV:=lK.fE (a:=s.heap.objs.size+1) (ob:=instObj C s.heap.objs.size) (by(refine B (bp A7) ?_;refine B (bp Co) ?_);exact yn) (h4 I jZ) r3
 have G2:=SV.fE (a:=s.heap.objs.size) (ob:=dictOf ML (0+1+1)) (by(refine B (bp (Nat.ne_of_lt (Nat.lt_succ_self _))) ?_;refine B (bp (Ne.symm eU)) ?_;refine B (bp (Ne.symm bZ)) ?_);exact wc) (h4 I iY) j1
 refine⟨_,by rw [List.append_assoc] at G2;exact G2,(((l0.kX bV).kX cD).kX jZ).kX iY,(((l6.mQ bV).mQ cD).fE jZ).fE iY,?_⟩
 replace yK:=(List.nil_append _)▸yK
 refine bY.C9 (m:=([("table",.ref aj.heap.objs.size),("trailer",.ref O.objs.size)]:List (Str×Value))) ck ((bp (Nat.succ_ne_self _)).trans dK) dK yK ⟨_,_,rfl,⟨_,rfl,?_⟩,_,_,rfl,⟨_,rfl,?_⟩,rfl⟩ (by simp;decide+kernel)
 ·(refine B (bp bZ) ?_;refine B (bp (Ne.symm Co)) ?_;refine B (bp (Ne.symm BK)) ?_);exact dK
 ·(refine B (bp eU) ?_;refine B (bp (Ne.symm A7)) ?_)
  have:(fs.per++[H.V []]).length=fs.per.length+1:=by simp
  refine bt this ?_;exact dK
end
end Mine
end
section
open PySem PySem.W PySem.Calls PyProof.Rows
namespace Mine
section
variable{w:World} {CM:cp} {bj:dM} {F:Frag} {K:Top} {env:Env} {J:Scope} {A:Around} {E:Value->Shared->Prop} {ρ ρ₀ ρ':a5} {s db az:Shared} {fs fs' fs₁:X} {R:bk}
theorem e1.sameBut {a:Addr} {h':Heap} {y:Str} {v:Value} (q:e1 env J s.heap y v) (I:aK w CM K env J ρ s fs) (M:ρ a≠.frame) (O:ρ a≠.cell) (Y:ρ a≠.aU) (hs:Heap.SameBut a s.heap h'):e1 env J h' y v:=by
 rcases q with⟨bV,cD,m,cZ,dX⟩|⟨bV,cD,c,cZ,dX⟩
 ·exact .inl ⟨bV,cD,m,cZ.sameBut hs (fun q=>M (by refine bt q ?_;exact I.cL)),dX⟩
 ·refine .inr ⟨bV,cD,c,cZ,dX.sameBut hs ?_⟩
  rcases bV with bV|bV
  ·intro q
   refine dN (I.cells y bV) ?_;intro c' e4 cS dA _
   replace cS:=cZ▸cS;cases cS
   exact O (by refine bt q ?_;exact dA)
  ·exact fun q=>Y (by refine bt q ?_;exact I.frees y c bV cZ)
theorem aK.qo {a:Addr} {x:Str} {c c':H} {h':Heap} {tk:Nat} (I:aK w CM K env J ρ s fs) (hd:ρ a=.aD x) (ae:Mine.getL x fs.loc=some (.aD c)) (hs:Heap.SameBut a s.heap h') (hc:dR w CM ρ h' a c'):
  aK w CM K env J ρ {s with heap:=h',toks:=tk} {fs with loc:=bX x (.aD c') fs.loc}/\a2 ρ s ρ {s with heap:=h',toks:=tk}/\ce ρ fs.loc ρ (bX x (.aD c') fs.loc):=by
 have b1:∀{b:Addr},(∀y,ρ b≠.aD y)->b≠a:=fun h q=>h x (by refine B q ?_;exact hd)
 have keep:∀b ob,(∀y,ρ b≠.aD y)->s.heap.get? b=some ob->h'.get? b=some ob:=fun b ob h e=>(hs.2 b (b1 h)).trans e
 refine bT hc.eW ?_;intro pb bz
 have ap:cM w CM K ρ {s with heap:=h',toks:=tk} fs.per:=by
  refine⟨I.base.fV,I.base.fC,fun b e=> ?_,fun b ob e=>keep b ob (fun _=>bI e) (I.base.bL b ob e),fun b=> ?_,I.base.gh,fun b k e=> ?_,I.base.inj⟩
  ·obtain⟨M,o,O,Y⟩:=I.base.fl b e
   exact⟨M,o,keep b o (fun y q=>by replace M:=q▸M;exact M) O,Y⟩
  ·by_cases q:b=a
   ·subst q
    refine B hd ?_
    exact⟨fun e=>(nomatch e),fun e=>by replace e:=(show h'.get? b=some pb from bz)▸e;exact hM e⟩
   ·show ρ b=.free↔h'.get? b=none
    refine B (hs.2 b q) ?_;exact I.base.c0 b
  ·refine ba (I.base.fT b k e) ?_;intro y M O
   exact⟨y,M,O.bu (fun _ _ q=>q) (fun _ _ q=>q) fun ob q=>keep b ob (fun _=>bI e) q⟩
 refine⟨⟨ap,I.c2,I.cL,let⟨m,e⟩:=I.fv;⟨m,e.sameBut hs (b1 (fun _=>bI I.cL))⟩,fun y bh e=> ?_,fun y e=> ?_,I.frees,I.apart,fun b y e=> ?_,I.fq⟩,⟨fun _ _ e=>e,fun _ e=>e,fun _ _ e=>e,fun _ e=>e,fun _ e=>e,fun _ e=>e,fun _ _ e=>.inl e,fun b ob e q=>keep b ob (fun _=>bI e) q,fun b ob e q=>⟨_,keep b ob (fun _=>bI e) q⟩,⟨_,_,rfl⟩⟩,⟨fun y v e=> ?_,fun b y e=>.inl e,fun _ _ e=>e⟩⟩
 ·by_cases q:y=x
  ·subst q
   replace e:=j9▸e;cases e
   obtain⟨v,M,b,rfl,O⟩:=I.eZ _ _ ae
   exact⟨_,M.sameBut I (bI hd) (bI hd) (bI hd) hs,b,rfl,O⟩
  ·replace e:=(ip q)▸e
   refine ba (I.eZ _ _ e) ?_;intro v M O
   exact⟨v,M.sameBut I (bI hd) (bI hd) (bI hd) hs,O⟩
 ·refine gn (I.cells y e) ?_;intro c v M O Y aC
  exact⟨c,v,M,O,Y,aC.sameBut hs (b1 (fun _=>bI O))⟩
 ·obtain⟨aL,wL,M,O⟩:=I.eX b y e
  by_cases q:y=x
  ·subst q
   obtain rfl:=I.fq b a y e hd
   exact⟨aL,c',j9,hc⟩
  ·refine⟨aL,wL,by refine B (ip q) ?_;exact M,O.bu (fun _ _ q=>q) (fun _ _ q=>q) fun ob cI=>(hs.2 b (fun ci=>q ?_)).trans cI⟩
   (replace e:=ci▸e;replace e:=hd▸e);cases e;rfl
 ·by_cases q:y=x
  ·subst q;replace e:=ae▸e;cases e
  ·refine B (ip q) ?_;exact e
theorem aK.Sp {a:Addr} {k:Nat} {c':H} {h':Heap} {tk:Nat} (I:aK w CM K env J ρ s fs) (hd:ρ a=.per k) (hs:Heap.SameBut a s.heap h') (hc:dR w CM ρ h' a c'):
  aK w CM K env J ρ {s with heap:=h',toks:=tk} {fs with per:=fs.per.set k c'}/\a2 ρ s ρ {s with heap:=h',toks:=tk}:=by
 have b1:∀{b:Addr},(∀y,ρ b≠.per y)->b≠a:=fun h q=>h k (by refine B q ?_;exact hd)
 have keep:∀b ob,(∀y,ρ b≠.per y)->s.heap.get? b=some ob->h'.get? b=some ob:=fun b ob h e=>(hs.2 b (b1 h)).trans e
 refine bT hc.eW ?_;intro pb bz
 have ap:cM w CM K ρ {s with heap:=h',toks:=tk} (fs.per.set k c'):=by
  refine⟨I.base.fV,I.base.fC,fun b e=> ?_,fun b ob e=>keep b ob (fun _=>bI e) (I.base.bL b ob e),fun b=> ?_,fun j bF=>I.base.gh j (by simpa using bF),fun b j e=> ?_,I.base.inj⟩
  ·obtain⟨M,o,O,Y⟩:=I.base.fl b e
   exact⟨M,o,keep b o (fun y q=>by replace M:=q▸M;exact M) O,Y⟩
  ·by_cases q:b=a
   ·subst q
    refine B hd ?_
    exact⟨fun e=>(nomatch e),fun e=>by replace e:=(show h'.get? b=some pb from bz)▸e;exact hM e⟩
   ·show ρ b=.free↔h'.get? b=none
    refine B (hs.2 b q) ?_;exact I.base.c0 b
  ·refine ba (I.base.fT b j e) ?_;intro y M O
   by_cases q:j=k
   ·subst q
    obtain rfl:=I.base.inj b a j e hd
    refine⟨c',?_,hc⟩
    have:j<fs.per.length:=by
     rcases Nat.lt_or_ge j fs.per.length with h|h
     ·exact h
     ·replace M:=(List.getElem?_eq_none h)▸M;exact Z M
    simp [this]
   ·exact⟨y,by refine B (List.getElem?_set_ne (fun e=>q e.symm)) ?_;exact M,O.bu (fun _ _ q=>q) (fun _ _ q=>q) fun ob cI=>(hs.2 b (fun ci=>q (by(replace e:=ci▸e;replace e:=hd▸e);cases e;rfl))).trans cI⟩
 refine⟨⟨ap,I.c2,I.cL,let⟨m,e⟩:=I.fv;⟨m,e.sameBut hs (b1 (fun _=>bI I.cL))⟩,fun y bh e=> ?_,fun y e=> ?_,I.frees,I.apart,fun b y e=> ?_,I.fq⟩,⟨fun _ _ e=>e,fun _ e=>e,fun _ _ e=>e,fun _ e=>e,fun _ e=>e,fun _ e=>e,fun _ _ e=>.inl e,fun b ob e q=>keep b ob (fun _=>bI e) q,fun b ob e q=>⟨_,keep b ob (fun _=>bI e) q⟩,⟨_,_,rfl⟩⟩⟩
 ·refine ba (I.eZ _ _ e) ?_;intro v M O
  exact⟨v,M.sameBut I (bI hd) (bI hd) (bI hd) hs,O⟩
 ·refine gn (I.cells y e) ?_;intro c v M O Y aC
  exact⟨c,v,M,O,Y,aC.sameBut hs (b1 (fun _=>bI O))⟩
 ·obtain⟨aL,wL,M,O⟩:=I.eX b y e
  exact⟨aL,wL,M,O.bu (fun _ _ q=>q) (fun _ _ q=>q) fun ob q=>keep b ob (fun _=>bI e) q⟩
theorem eN.sx {x:Str} {c:H} {v:Value} (aP:eN w CM ρ₀ ρ s fs (.var x) v) (I:aK w CM K env J ρ s fs) (bi:Mine.getL x fs.loc=some (.aD c)):∃a,v=.ref a/\ρ a=.aD x/\dR w CM ρ s.heap a c:=by
 refine ba aP ?_;clear aP;intro a u;subst u;intro O
 have O:ρ a=.aD x:=by
  rcases O with O|⟨y,O⟩
  ·exact O
  ·replace O:=bi▸O;cases O
 obtain⟨aL,c',Y,aC⟩:=I.eX a x O
 replace Y:=bi▸Y;cases Y
 exact⟨a,rfl,O,aC⟩
theorem Av {i j:Int} {v:Value} (q:bY w CM ρ (.aF [.int i,.int j]) v):∃a t u n,v=.ref a/\ρ a=.be (qk [.int i t,.int j u] n):=by
 refine dG q ?_;clear q;intro a vs n e M O
 refine dN O ?_;clear O;intro lJ Kk ak Y aC
 refine dN aC ?_;clear aC;intro nP yY ar bR dL
 refine Y.elim fun t bP=>bR.elim fun u cY=>⟨a,t,u,n,e,?_⟩
 (refine B M ?_;refine B ak ?_;refine B ar ?_;refine B bP ?_;refine B cY ?_;refine B (show yY=[] from dL) ?_;rfl)
theorem VV {x df:H} {v:Value} (h:np x=true) (h':np df=true) (q:bY w CM ρ x v) (cI:bY w CM ρ df v):x=df:=by
 refine jd (CB h) ?_;intro i j e
 refine jd (CB h') ?_;intro nh hk ci
 refine pL (Av (e▸q)) ?_;intro a t u n ak M
 refine pL (Av (ci▸cI)) ?_;intro jk dW sl i5 ar O
 (replace O:=(Value.ref.inj (ar.symm.trans ak))▸O;replace O:=M▸O)
 have z:=List.cons.inj (Array.mk.inj (Data.seq.inj (congrArg Obj.data (cV.be.inj O))).1)
 (refine B e ?_;refine B ci ?_;refine B ((Value.int.inj z.1).1) ?_;refine B ((Value.int.inj (List.cons.inj z.2).1).1) ?_;rfl)
end
end Mine
end
section
open PySem PySem.W PySem.Calls PyProof.Rows
namespace Mine
structure uc (CM:cp) (bj:dM) (F:Frag):Prop extends xn CM bj F where
 BJ:∀c m f C,qt c m=some f->CM c=some C->findIn F (.ref C) "__getattribute__"=some (some (.builtin "object.__getattribute__"))/\findIn F (.ref C) "__getattr__"=some none/\
  ∃a,bj f=some a/\findIn F (.ref C) m=some (some (.ref a))/\typeIn F (.ref a)=some (.type "function")
 AW:∃C,CM "Shelf"=some C/\hv F "Shelf"=some (.ref C)/\yv F C
section
variable{w:World} {CM:cp} {bj:dM} {F:Frag} {K:Top} {env:Env} {J:Scope} {A:Around} {E:Value->Shared->Prop} {ρ ρ₀ ρ':a5} {s db az:Shared} {fs fs' fs₁:X} {R:bk}
theorem Ax {o:Expr} {name:Str} {AJ:Sem Value} (h:kS o=true):attributeBase o name env AJ=AJ:=by
 cases o with
 |Call f args lv pos=>cases f with
  |Name id p=>cases args with
   |nil=>cases lv with
    |nil=>
     have:(id !=("super":Str))=true:=h
     exact if_pos (by refine B this ?_;rfl)
    |cons _ _=>rfl
   |cons _ _=>rfl
  |_=>rfl
 |_=>rfl
theorem TX {α:Type} {l:List (Bool×α)} (h:l.any (·.1)=false):l.all (!·.1)=true:=by
 refine B List.all_eq_not_any_not ?_
 simp only [Bool.not_not]
 refine B h ?_;rfl
theorem wJ {o:Expr} {name:Str} {hO pos:Pos} {args:List Expr} {Q:Value->Shared->Prop} (eA:kS o=true) (hi:(hO.endLine==pos.line)=true) (bC:args.length<30) (an:(backTo pos (starEach args env)).any (·.1)=false)
  (h:wpAny (model aw w) A (eval o env) (fun fd aj=>wpAny (model aw w) A (getMethod fd name (do return (<-importBound o env).getD true)) (fun p cu=>wpAny (model aw w) A (callWith pos p.1 p.2 (backTo pos (starEach args env)) []) Q E cu) E aj) E s):
  wpAny (model aw w) A (eval (.Call (.Attribute o name hO) args [] pos) env) Q E s:=by
 (rw [arm_eval_Call];refine B (Ax eA) ?_)
 refine wpAny_bind (wpAny_mono h (fun fd aj bw=>wpAny_bind (wpAny_standAt ?_)) fun _ _ e=>e)
 have Tg:methodCallForm (args.length+([]:List Keyword).length) (backTo pos (starEach args env)) (backToKw pos (keywordEach [] env))=true:=by
  unfold methodCallForm
  refine B (TX an) ?_
  exact Bool.and_eq_true_iff.mpr ⟨rfl,decide_eq_true bC⟩
 have me:methodCallPos true o env hO pos=pure pos:=by unfold methodCallPos;simp [hi]
 unfold methodCall
 refine B Tg ?_
 refine wpAny_bind (wpAny_holding ?_)
 show wpAny _ _ (getMethod fd name _) _ _ _
 refine wpAny_mono bw (fun p cu dJ=> ?_) fun _ _ e=>e
 exact wpAny_bind (wpAny_of_eq me dJ)
theorem CF (S:cC w CM K env J A R) {pos:Pos} {es:List Expr} {xs:List H} (q:dp R es fs=some (xs,fs')):(backTo pos (starEach es env)).any (·.1)=false:=(rK S _ q).1
theorem TJ (bl:uc CM bj F) (bA:K.f=F) {k:Nat} {C:ct} (c6:gJ w CM bj F k C) (bc:ek K k A) (S:cC w CM K env J A R) {o:Expr} {m f c:Str} {hO pos:Pos} {args:List Expr} {r r':aV} {l:List (Str×H)} {self:H} {vs dh:List H} {kf fs₂:X}
  (eA:kS o=true) (hi:(hO.endLine==pos.line)=true) (bC:args.length<30) (kQ:R.a9 o fs=some (r,fs₁)) (bZ:fs₁.cE r=some (.dV c l)) (bn:qt c m=some f) (ef:iu m l=none) (ib:fs₁.nL r=some (self,kf))
  (iy:dp R args kf=some (vs,fs₂)) (pT:C f (self::vs) fs₂.per=some (.ret r',dh)) (I:aK w CM K env J ρ s fs):
  wpAny (model aw w) A (eval (.Call (.Attribute o m hO) args [] pos) env) (b4 w CM K env J ρ s fs r' {fs₂ with per:=dh}) cf s:=by
 subst bA
 refine wJ eA hi bC (CF S iy) (S.eM kQ I fun fd aj aN aZ a0 bv aP=> ?_)
 have aR:=(hT aZ aP bZ).dV
 refine gw (wU I aZ a0 bv aP ib) ?_;intro b9 cP ca dH uJ
 refine Fn aR ?_;clear aR;intro ad d gZ oA e M O Y aC bR
 rw [e] at uJ|-
 refine eg (bl.BJ c m f oA bn M) ?_;intro bH b8 g
 refine et g ?_;clear g;intro a c9 fo hp
 have In:InstAt aj.heap ad (instObj oA d) oA (some gZ):=⟨aZ.base.bL _ _ O,rfl,rfl,aZ.base.bL _ _ Y⟩
 refine method_fn aZ.in In bH b8 fo hp (by show(lookIn m gZ).map (·.isSome)=_;refine B (aC m ef) ?_;rfl) ?_
 refine bT (c6 f (self::vs) fs₂.per _ dh pT K A rfl bc) ?_;intro jk h
 replace h:=(Eq.symm (Option.some.inj (c9.symm.trans h.yW)))▸h
 refine p5 h.rc ?_;intro ao ob bK aB
 exact zf S aB.keep iy cP fun bf jQ jO gY eo ku ay=>wpAny_mono (gY.Cc h (a8.cons (bY.bu eo.bL eo.per uJ) ay)) (fun v mv P=>b4.trans (ca.trans eo) (dH.trans ku) P) fun e mv P=>nomatch P.1
theorem rX (S:cC w CM K env J A R) {o:Expr} {m:Str} {hO pos:Pos} {args:List Expr} {r r':aV} {vs:List H} {fs₂ fs₃:X} {T id:String} {x:H}
  (eA:kS o=true) (hi:(hO.endLine==pos.line)=true) (bC:args.length<30) (kQ:R.a9 o fs=some (r,fs₁)) (bZ:fs₁.cE r=some x) (iy:dp R args fs₁=some (vs,fs₂))
  (T9:PlainAttrs T) (slot:Slot T m id) (Os:typeOf (.builtin id)=pure (.type "method_descriptor"))
  (gO:∀{ρ:a5} {s:Shared} {v:Value},aK w CM K env J ρ s fs₁->cv w CM ρ s x v->s.TypeIs v T/\∃a ob,v=.ref a/\s.heap.get? a=some ob/\ob.dict=none)
  (h:∀{b9:a5} {cu:Shared} {fd:Value} {bf:List Value},aK w CM K env J b9 cu fs₂->eN w CM ρ b9 cu fs₂ r fd->a8 w CM b9 vs bf->wpAny (model aw w) A (call (.builtin id) (fd::bf)) (b4 w CM K env J b9 cu fs₂ r' fs₃) cf cu)
  (I:aK w CM K env J ρ s fs):
  wpAny (model aw w) A (eval (.Call (.Attribute o m hO) args [] pos) env) (b4 w CM K env J ρ s fs r' fs₃) cf s:=by
 refine wJ eA hi bC (CF S iy) (S.eM kQ I fun fd aj aN aZ a0 bv aP=> ?_)
 refine cm (gO aZ (hT aZ aP bZ)) ?_;intro nR t
 refine dN t ?_;clear t;intro a ob e n1 n7
 refine getMethod_builtin nR T9 slot Os (fun b ci=>by refine bt (Value.ref.inj (e.symm.trans ci)) ?_;exact⟨ob,n1,n7⟩) ?_
 refine DE S iy aZ fun bf cu P=> ?_
 refine gw P ?_;clear P;intro b9 cP ca dH ay
 exact iB (a0.trans ca) (bv.trans dH) (h cP (aP.bu ca dH) ay)
theorem Bu {l:List (al×H)} {v:Value} (I:aK w CM K env J ρ s fs) (h:cv w CM ρ s (.V l) v):s.TypeIs v "dict"/\∃a ob,v=.ref a/\s.heap.get? a=some ob/\ob.dict=none:=by
 refine gn (h.V I.base) ?_;intro a aS u;subst u;intro aL M O
 refine⟨M.typeIs,a,?_⟩
 refine dG M ?_;clear M;intro ob es cs ak ar _
 exact⟨ob,rfl,ak,ar.2.1⟩
theorem zJ {l:List H} {v:Value} (I:aK w CM K env J ρ s fs) (h:cv w CM ρ s (.am l) v):s.TypeIs v "list"/\∃a ob,v=.ref a/\s.heap.get? a=some ob/\ob.dict=none:=by
 refine dG (h.am I.base) ?_;intro a vs n u;subst u;intro M O
 exact⟨⟨_,M,rfl⟩,a,_,rfl,M,rfl⟩
theorem ED {l:List (al×H)} {aS:List (al×Value)} {k:al} {d:H} {lL:Value} (O:dU w CM ρ l aS) (hd:bY w CM ρ d lL):bY w CM ρ ((bb k l).getD d) ((valueAt aS k).getD lL):=by
 have:=O.gk (k:=k)
 cases e:bb k l with
 |some x=>replace this:=e▸this;exact this.elim fun u z=>by refine B z.1 ?_;exact z.2
 |none=>replace this:=e▸this;refine B this ?_;exact hd
theorem WO {l:List (al×H)} {k:al} {eJ:H} {d:Option H} {fd:Value} {bf:List Value} (ag:f8 eJ=some k) (I:aK w CM K env J ρ s fs) (h:cv w CM ρ s (.V l) fd) (ay:a8 w CM ρ (eJ::d.toList) bf):
  wpAny (model aw w) A (call (.builtin "dict.get") (fd::bf)) (b4 w CM K env J ρ s fs (.U ((bb k l).getD (d.getD .none))) fs) cf s:=by
 refine gn (h.V I.base) ?_;intro a aS u;subst u;intro aL M O
 refine dN ay ?_;clear ay;intro v t u;subst u;intro h9 ik
 have ho:ix k v=true:=cv.key (s:=s) (.gf h9) ag
 cases d with
 |none=>
  refine B (show t=[] from ik) ?_
  exact call_meetsIn F.slot_dict_get M.typeIs F.entry_dict_get (F.args_dict_get_2 _ _) (meets_dict_get (kk w) a ho aL) ⟨_,M.mapOf,eu I (ED O rfl)⟩
 |some d=>
  refine dN ik ?_;clear ik;intro u dW e ik wM
  (refine B e ?_;refine B (show dW=[] from wM) ?_)
  exact call_meetsIn F.slot_dict_get M.typeIs F.entry_dict_get (F.args_dict_get_3 _ _ _) (meets_dict_get_default (kk w) a ho aL u) ⟨_,M.mapOf,eu I (ED O ik)⟩
theorem dU.Pc (l:List (al×H)):∀{aS:List (al×Value)} {k:al},dU w CM ρ l aS->(aS.map (·.1)).Nodup->dU w CM ρ (hY k l) (PySem.without aS k):=by
 induction l with
 |nil=>intro aS k h _;refine B (show aS=[] from h) ?_;rfl
 |cons p r ih=>
  intro aS k h aE
  refine dN h ?_;clear h;intro v t u O Y;subst u
  refine cm (List.nodup_cons.mp aE) ?_;intro kr k7
  by_cases e:k=p.1
  ·refine B (show hY k (p::r)=r from if_pos e) ?_
   have:PySem.without ((p.1,v)::t) k=t:=by
    show List.filter _ _=_
    (refine B (List.filter_cons_of_neg (by rw [e];simp)) ?_;refine B e ?_)
    exact without_of_not_mem t _ kr
   refine B this ?_;exact Y
  ·refine B (show hY k (p::r)=p::hY k r from if_neg e) ?_
   have:PySem.without ((p.1,v)::t) k=(p.1,v)::PySem.without t k:=by
    show List.filter _ _=_
    refine B (List.filter_cons_of_pos (by simpa using fun q:p.1=k=>e q.symm)) ?_;rfl
   refine B this ?_
   exact⟨v,_,rfl,O,ih Y k7⟩
theorem U5 (l:List (al×H)):∀{k:al},bb k l=none->hY k l=l:=by
 induction l with
 |nil=>intro k _;rfl
 |cons p r ih=>
  intro k h
  by_cases e:k=p.1
  ·exact hM ((if_pos e).symm.trans h)
  ·exact(if_neg e).trans (congrArg (p:: ·) (ih ((if_neg e).symm.trans h)))
theorem GD {k:al} {v:Value} (h:ix k v=true):(keyPart v).isSome=true:=by
 cases k with
 |int i=>obtain⟨t,rfl⟩:=jg h;rfl
 |str x=>obtain⟨t,rfl⟩:=jE h;rfl
theorem Rj {x:Str} {l:List (al×H)} {k:al} {eJ:H} {fd:Value} {bf:List Value} (ag:f8 eJ=some k) (hz:l.length<=a4) (bi:Mine.getL x fs.loc=some (.aD (.V l))) (I:aK w CM K env J ρ s fs)
  (aP:eN w CM ρ₀ ρ s fs (.var x) fd) (ay:a8 w CM ρ [eJ,.none] bf):
  wpAny (model aw w) A (call (.builtin "dict.pop") (fd::bf)) (b4 w CM K env J ρ s fs (.U ((bb k l).getD .none)) {fs with loc:=bX x (.aD (.V (hY k l))) fs.loc}) cf s:=by
 obtain⟨a,rfl,bz,ob,es,cs,aS,aL,ak,ar,bP,cY,dn,fb,jA⟩:=aP.sx I bi
 refine dN ay ?_;clear ay;intro v t u h9 ik;subst u
 refine dN ik ?_;clear ik;intro u dW e ik wM
 (refine B e ?_;refine B (show dW=[] from wM) ?_;refine B (show u=.none from ik) ?_)
 clear e
 have ho:ix k v=true:=cv.key (s:=s) (.gf h9) ag
 have dQ:s.heap.DictOf (kk w) a aS:=⟨ob,es,cs,ak,ar,bP,cY,dn,fb⟩
 have:=jA.gk (k:=k)
 cases e:bb k l with
 |some y=>
  replace this:=e▸this
  refine ba this ?_;clear this;intro u Y aC
  refine call_meetsIn F.slot_dict_pop dQ.typeIs F.entry_dict_pop (F.args_dict_pop_3 _ _ _) (meets_dict_pop_there (kk w) a ho [.none] (.inr ⟨_,rfl⟩) (GD ho)) ⟨aS,u,dQ,by refine B jA.length ?_;exact Nat.le_trans hz iP,Y,fun h' sM ft=> ?_⟩
  refine pa sM ?_;clear sM;intro hF d4 uZ d8 fG hu kG pW sE
  refine eg (I.qo (tk:=s.toks+1) bz bi ft (c':=.V (hY k l)) ⟨hF,d4,uZ,_,aL,d8,fG,hu,kG,pW,sE,dU.Pc l jA fb⟩) ?_;intro hb e6 g1
  exact⟨ρ,hb,e6,g1,aC⟩
 |none=>
  replace this:=e▸this
  refine call_meetsIn F.slot_dict_pop dQ.typeIs F.entry_dict_pop (F.args_dict_pop_3 _ _ _) (meets_dict_pop_default (kk w) a ho aL (GD ho) .none) ⟨aS,dQ,this,?_⟩
  refine eg (I.qo (tk:=s.toks+1) (h':=s.heap) bz bi (Heap.SameBut.refl ..) (c':=.V (hY k l)) ⟨ob,es,cs,_,aL,ak,ar,bP,cY,dn,fb,by refine B (U5 l e) ?_;exact jA⟩) ?_;intro hb e6 g1
  exact⟨ρ,hb,e6,g1,rfl⟩
theorem Jd {x:Str} {l:List H} {v:H} {fd:Value} {bf:List Value} (hz:l.length<=a4) (bi:Mine.getL x fs.loc=some (.aD (.am l))) (I:aK w CM K env J ρ s fs)
  (aP:eN w CM ρ₀ ρ s fs (.var x) fd) (ay:a8 w CM ρ [v] bf):
  wpAny (model aw w) A (call (.builtin "list.append") (fd::bf)) (b4 w CM K env J ρ s fs (.U .none) {fs with loc:=bX x (.aD (.am (l++[v]))) fs.loc}) cf s:=by
 obtain⟨a,rfl,bz,vs,n,M,O⟩:=aP.sx I bi
 refine dN ay ?_;clear ay;intro u t u;subst u;intro h9 ik
 refine B (show t=[] from ik) ?_
 have bC:=O.length
 refine call_meets F.slot_list_append ⟨_,M,rfl⟩ F.entry_list_append (F.args_list_append_2 _ _) (list_append a (Array.mk vs) n u (by simp only [List.size_toArray];refine B bC ?_;exact Nat.le_trans hz iP)) ⟨M,?_⟩
 obtain⟨hb,e6,g1⟩:=I.qo (tk:=s.toks) bz bi (Heap.SameBut.update s.heap a (Obj.mapSeq fun y=>y.push u)) (c':=.am (l++[v])) ⟨vs++[u],n+1,by
  have:=get?_update_seq M (fun y=>y.push u)
  simpa using this,O.append (a8.cons h9 a8.nil)⟩
 exact⟨ρ,hb,e6,g1,rfl⟩
theorem a8.dropLast (l:List H):∀{vs:List Value},a8 w CM ρ l vs->a8 w CM ρ l.dropLast vs.dropLast:=by
 induction l with
 |nil=>intro vs h;refine B (show vs=[] from h) ?_;exact a8.nil
 |cons x r ih=>
  intro vs h
  refine dN h ?_;clear h;intro v t u O Y;subst u
  cases r with
  |nil=>refine B (show t=[] from Y) ?_;exact a8.nil
  |cons b r=>
   have z:=ih Y
   refine dN Y ?_;clear Y;intro e4 dW u bR dL;subst u
   exact a8.cons O z
theorem a8.QA {l:List H} {vs:List Value} {x:H} (h:a8 w CM ρ l vs) (e:l.getLast? =some x):∃v,vs[vs.length-1]? =some v/\bY w CM ρ x v:=by
 replace e:=List.getLast?_eq_getElem?▸e
 refine B h.length ?_
 exact h.gk e
theorem XD {x:Str} {l:List H} {v:H} {fd:Value} (aq:l.getLast? =some v) (hz:l.length<=a4) (bi:Mine.getL x fs.loc=some (.aD (.am l))) (I:aK w CM K env J ρ s fs)
  (aP:eN w CM ρ₀ ρ s fs (.var x) fd):
  wpAny (model aw w) A (call (.builtin "list.pop") [fd]) (b4 w CM K env J ρ s fs (.U v) {fs with loc:=bX x (.aD (.am l.dropLast)) fs.loc}) cf s:=by
 obtain⟨a,rfl,bz,vs,n,M,O⟩:=aP.sx I bi
 refine ba (O.QA aq) ?_;intro y aQ XH
 have bC:=O.length
 have xi:(Array.mk vs)[(Array.mk vs).size-1]? =some y:=by simpa using aQ
 have me:0<vs.length:=by
  rcases Nat.eq_zero_or_pos vs.length with h|h
  ·rw [List.getElem?_eq_none (by exact Qa h)] at aQ;exact Z aQ
  ·exact h
 refine call_meets F.slot_list_pop ⟨_,M,rfl⟩ F.entry_list_pop (F.args_list_pop_1 _) (PySem.MeetsSeq.list_pop_last a (Array.mk vs) n y xi (by simp only [List.size_toArray];refine B bC ?_;exact Nat.le_trans hz iP)) ⟨M,?_⟩
 have iA:=get?_update_seq M (fun xs=>xs.eraseIdxIfInBounds ((Array.mk vs).size-1))
 have ak:((Array.mk vs).eraseIdxIfInBounds ((Array.mk vs).size-1))=Array.mk vs.dropLast:=by
  unfold Array.eraseIdxIfInBounds
  refine B (dif_pos (by simp;exact Kj me)) ?_
  apply Array.toList_inj.mp
  refine B Array.toList_eraseIdx ?_
  simp only [List.size_toArray]
  exact List.eraseIdx_eq_dropLast (by exact Xs me)
 obtain⟨hb,e6,g1⟩:=I.qo (tk:=s.toks) bz bi (Heap.SameBut.update s.heap a (Obj.mapSeq fun xs=>xs.eraseIdxIfInBounds ((Array.mk vs).size-1))) (c':=.am l.dropLast) ⟨vs.dropLast,_,by
  (refine B iA ?_;refine B ak ?_;rfl),a8.dropLast l O⟩
 exact⟨ρ,hb,e6,g1,XH⟩
theorem MB {x:H} (l:List H):∀{j:Nat},Mine.m2 x l=some j->(∃y,l[j]? =some y/\eP eG y x=some true)/\∀m y,m<j->l[m]? =some y->eP eG y x=some false:=by
 induction l with
 |nil=>intro j q;exact Z q
 |cons y r ih=>
  intro j q
  refine bG q (fun b h q=> ?_) Z
  cases b with
  |true=>exact cG (show some 0=some j from q) ⟨⟨y,rfl,h⟩,fun m z aY=>absurd aY (Nat.not_lt_zero _)⟩
  |false=>
   refine bG (show br (Mine.m2 x r) (fun n=>some (n+1))=some j from q) (fun i aR q=>cG q ?_) Z
   refine⟨(ih aR).1,fun m u aY b2=> ?_⟩
   cases m with
   |zero=>refine bt (Option.some.inj b2) ?_;exact h
   |succ m=>exact(ih aR).2 m u (Nat.lt_of_succ_lt_succ aY) b2
open Classical in
theorem Lx {l:List H} {eR:H} {j:Nat} {fd:Value} {bf:List Value} (b2:A.units+40<cLine) (hz:l.length<=a4) (u1:l.all (fun y=>np y&&(eP eG y eR).isSome)=true) (bF:Mine.m2 eR l=some j) (I:aK w CM K env J ρ s fs) (h:cv w CM ρ s (.am l) fd) (ay:a8 w CM ρ [eR] bf):
  wpAny (model aw w) A (call (.builtin "list.index") (fd::bf)) (b4 w CM K env J ρ s fs (.U (.int j)) fs) cf s:=by
 refine dG (h.am I.base) ?_;intro a vs n u;subst u;intro M O
 refine dN ay ?_;clear ay;intro QS t u;subst u;intro h9 ik
 refine B (show t=[] from ik) ?_
 refine cm (MB l bF) ?_;intro aQ gP
 refine ba aQ ?_;clear aQ;intro y sW xi
 have bC:=O.length
 have cz:j<vs.length:=by
  rcases Nat.lt_or_ge j l.length with h|h
  ·refine B bC ?_;exact h
  ·replace sW:=(List.getElem?_eq_none h)▸sW;exact Z sW
 have lh:∀(m:Nat) (y:H) (v:Value),l[m]? =some y->vs[m]? =some v->bY w CM ρ y v:=fun m y v ak ar=>by
  refine ba (O.gk ak) ?_;intro e4 bP cY
  replace bP:=ar▸bP;cases bP;exact cY
 have Ew:∀(m:Nat) (y:H),l[m]? =some y->np y=true:=fun m y e=>(Bool.and_eq_true_iff.mp (List.all_eq_true.mp u1 _ (List.mem_of_getElem? e))).1
 have Sw:∀(m lb:Nat) (y g6:H) (v:Value),l[m]? =some y->l[lb]? =some g6->vs[m]? =some v->vs[lb]? =some v->∀{b gj},eP eG y eR=some b->eP eG g6 eR=some gj->b=gj:=fun m lb y g6 v ak ar bP cY {b gj} q cI=>
  Option.some.inj (q.symm.trans (VV (Ew m y ak) (Ew lb g6 ar) (lh m y v ak bP) (lh lb g6 v ar cY)▸cI))
 let e:Value->Bool:=fun v=>decide (∃(m:Nat) (y:H),l[m]? =some y/\vs[m]? =some v/\eP eG y eR=some true)
 have fr:∀(m:Nat) y v b,l[m]? =some y->vs[m]? =some v->eP eG y eR=some b->e v=b:=fun m y v b ak ar q=>by
  cases b with
  |true=>exact decide_eq_true ⟨m,y,ak,ar,q⟩
  |false=>
   refine decide_eq_false ?_
   rintro ⟨lb,g6,bP,cY,cI⟩
   have:=Sw m lb y g6 v ak bP ar cY q cI
   cases this
 have pF:∀m (aY:m<(Array.mk vs).size),∃y v b,l[m]? =some y/\vs[m]? =some v/\(Array.mk vs)[m]=v/\eP eG y eR=some b:=fun m aY=>by
  have m8:m<vs.length:=by simpa using aY
  have ve:m<l.length:=by refine bt bC ?_;exact m8
  have:=(Bool.and_eq_true_iff.mp (List.all_eq_true.mp u1 _ (List.getElem_mem ve))).2
  refine bT (Option.isSome_iff_exists.mp this) ?_;intro b ah
  exact⟨_,_,b,List.getElem?_eq_getElem ve,List.getElem?_eq_getElem m8,by simp,ah⟩
 refine call_meets F.slot_list_index ⟨_,M,rfl⟩ F.entry_list_index (F.args_list_index_2 _ _) (PySem.SeqAt.list_indexAt a (Array.mk vs) n none #[] QS e j (by simpa using cz) (by unfold a4 at hz;exact NS hz bC cz) ?_ (fun m aY JJ=> ?_)) ⟨M,fun v VP=> ?_,eu I ⟨_,rfl⟩⟩
 ·refine nJ (pF j (by simpa using cz)) ?_;intro g6 v b bH b8 c9 fo
  refine B c9 ?_
  replace bH:=sW▸bH;cases(bH)
  exact fr j y v true sW b8 xi
 ·refine nJ (pF m aY) ?_;intro g6 v b bH b8 c9 fo
  refine B c9 ?_
  exact fr m g6 v false bH b8 (gP m g6 JJ bH)
 ·obtain⟨m,aY,ak⟩:=Array.mem_iff_getElem.mp VP
  refine nJ (pF m aY) ?_;intro g6 e4 b bH b8 c9 fo
  have:e4=v:=c9.symm.trans ak
  subst this
  refine B (fr m g6 e4 b bH b8 fo) ?_
  exact v8 I.base eG (by simp only [Around.in1_units];unfold eG;exact KQ b2) (lh m g6 e4 bH b8) h9 fo
theorem Kp (bl:uc CM bj F) (bA:K.f=F) {k:Nat} {C:ct} (c6:gJ w CM bj F k C) (bc:ek K k A) (S:cC w CM K env J A R) {o:Expr} {m:Str} {hO pos:Pos} {args:List Expr} {r r':aV} {fs₃:X}
  (eA:kS o=true) (hi:(hO.endLine==pos.line)=true) (bC:args.length<30) (kQ:R.a9 o fs=some (r,fs₁)) (q:iK C R m r args fs₁=some (r',fs₃)) (I:aK w CM K env J ρ s fs):
  wpAny (model aw w) A (eval (.Call (.Attribute o m hO) args [] pos) env) (b4 w CM K env J ρ s fs r' fs₃) cf s:=by
 refine bG q (fun dd M q=> ?_) Z
 cases dd with
 |dV c l=>exact cK q (fun Y q=>bG q (fun f O q=>b6 q (fun self kf aC q=>b6 q (fun vs fs₂ bR q=>yV q (fun uT per dL q=>b7 q (TJ bl bA c6 bc S eA hi bC kQ M O (Option.isNone_iff_eq_none.mp Y) aC bR dL I)) Z) Z) Z) Z) Z
 |V l=>
  refine g5 q (fun aY q=> ?_) fun _ q=>cK q (fun aY q=> ?_) Z
  ·refine B aY ?_
   refine b6 q (fun vs fs₂ bR q=>b6 q (fun k d hd q=>hJ q (fun l₂ qw dL f2 q=>b7 q ?_) Z) Z) Z
   exact rX S eA hi bC kQ M bR PySem.F.plainAttrs_dict PySem.F.slot_dict_get PySem.F.type_dict_get (fun I h=>Bu I h) (fun I aP ay=>WO f2 I (hT I aP (He dL)) (z4 hd▸ay)) I
  ·refine B aY ?_
   refine bG q (fun x ae q=>b6 q (fun vs fs₂ bR q=>b6 q (fun k d hd q=>hJ q (fun l₂ qw dL f2 q=>cK q (fun hz q=>b7 q ?_) Z) Z) Z) Z) Z
   have hz:=Bool.and_eq_true_iff.mp hz
   have e:=z4 hd
   replace e:=(UH hz.1)▸e
   exact rX S eA hi bC kQ M bR PySem.F.plainAttrs_dict PySem.F.slot_dict_pop PySem.F.type_dict_pop (fun I h=>Bu I h) (fun I aP ay=>Rj f2 (of_decide_eq_true hz.2) (oX (He dL)) I (zx ae▸aP) (e▸ay)) I
 |am l=>
  refine g5 q (fun aY q=> ?_) fun _ q=>g5 q (fun aY q=> ?_) fun _ q=>cK q (fun aY q=> ?_) Z
  ·refine B aY ?_
   refine bG q (fun x ae q=>b6 q (fun vs fs₂ bR q=>hJ q (fun v l₂ h9 dL q=>cK q (fun hz q=>b7 q ?_) Z) Z) Z) Z
   exact rX S eA hi bC kQ M bR PySem.F.plainAttrs_list PySem.F.slot_list_append PySem.F.type_list_append (fun I h=>zJ I h) (fun I aP ay=>Jd hz (oX (tx dL)) I (zx ae▸aP) (xt h9▸ay)) I
  ·refine B aY ?_
   refine bG q (fun x ae q=>bG q (fun l₂ dL q=>bG q (fun v aq q=>cK q (fun hz q=>b7 q ?_) Z) Z) Z) Z
   have hz:=Bool.and_eq_true_iff.mp hz
   rw [List.isEmpty_iff.mp hz.1] at bC|-
   refine rX S eA hi bC kQ M (vs:=[]) (fs₂:=fs₁) rfl PySem.F.plainAttrs_list PySem.F.slot_list_pop PySem.F.type_list_pop (fun I h=>zJ I h) (fun I aP ay=> ?_) I
   refine B (show _=[] from ay) ?_
   exact XD aq (of_decide_eq_true hz.2) (oX (tx dL)) I (zx ae▸aP)
  ·refine B aY ?_
   refine b6 q (fun vs fs₂ bR q=>hJ q (fun v l₂ h9 dL q=>cK q (fun hz q=>bG q (fun i aR q=>b7 q ?_) Z) Z) Z) Z
   have hz:=Bool.and_eq_true_iff.mp hz
   exact rX S eA hi bC kQ M bR PySem.F.plainAttrs_list PySem.F.slot_list_index PySem.F.type_list_index (fun I h=>zJ I h) (fun I aP ay=>Lx (by have:=bc.units;exact JT this) (of_decide_eq_true hz.1) hz.2 aR I (hT I aP (tx dL)) (xt h9▸ay)) I
 |_=>exact Z q
end
end Mine
end
section
open PySem PySem.W PySem.Calls PyProof.Rows
namespace Mine
section
variable{w:World} {CM:cp} {bj:dM} {F:Frag} {K:Top} {env:Env} {J:Scope} {A:Around} {E:Value->Shared->Prop} {ρ ρ₀ aT ρ':a5} {s db a7 az:Shared} {fs fs' fs₁:X} {R:bk}
theorem aK.nW {l:List (Str×cg)} (I:aK w CM K env J ρ s fs) (h:∀y,Mine.getL y l=Mine.getL y fs.loc):aK w CM K env J ρ s {fs with loc:=l}:=
 ⟨I.base,I.c2,I.cL,I.fv,fun y bh e=>I.eZ y bh ((h y).symm.trans e),I.cells,I.frees,I.apart,fun a y e=>let⟨aL,c,M,O⟩:=I.eX a y e;⟨aL,c,(h y).trans M,O⟩,I.fq⟩
open Classical in
noncomputable def fm (ρ:a5) (x:Str):a5:=fun a=>if ρ a=.aD x then .aU else ρ a
theorem qx {a:Addr} {x:Str} (h:ρ a≠.aD x):fm ρ x a=ρ a:=if_neg h
theorem nQ {a:Addr} {x y:Str}:fm ρ x a=.aD y↔ρ a=.aD y/\y≠x:=by
 unfold fm
 by_cases e:ρ a=.aD x
 ·refine B (if_pos e) ?_
  exact⟨fun q=>cV.noConfusion q,fun q=>absurd (cV.aD.inj (q.1.symm.trans e)) q.2⟩
 ·refine B (if_neg e) ?_
  exact⟨fun q=>⟨q,fun ci=>e (by(refine B q ?_;refine B ci ?_;rfl))⟩,fun q=>q.1⟩
theorem aK.fm (I:aK w CM K env J ρ s fs) (x:Str):aK w CM K env J (fm ρ x) s {fs with loc:=jI x fs.loc}/\a2 ρ s (Mine.fm ρ x) s/\(∀a y,Mine.fm ρ x a=.aD y->ρ a=.aD y)/\∀a,Mine.fm ρ x a≠.aD x:=by
 have aB:∀a o,ρ a=.be o->Mine.fm ρ x a=.be o:=fun a o e=>(qx (bI e)).trans e
 have an:∀a o,ρ a=.per o->Mine.fm ρ x a=.per o:=fun a o e=>(qx (bI e)).trans e
 have hd:∀a,ρ a=.aU->Mine.fm ρ x a=.aU:=fun a e=>(qx (bI e)).trans e
 have aY:∀a,ρ a=.frame->Mine.fm ρ x a=.frame:=fun a e=>(qx (bI e)).trans e
 have hc:∀a,ρ a=.cell->Mine.fm ρ x a=.cell:=fun a e=>(qx (bI e)).trans e
 have hs:∀a,ρ a=.stack->Mine.fm ρ x a=.stack:=fun a e=>(qx (bI e)).trans e
 have ap:cM w CM K (Mine.fm ρ x) s fs.per:=I.base.qi fun a=>by
  unfold Mine.fm
  by_cases e:ρ a=.aD x
  ·(refine B (if_pos e) ?_;refine B e ?_);exact .inr ⟨trivial,trivial,fun h=>h.elim⟩
  ·exact .inl (if_neg e)
 refine⟨⟨ap,I.c2,aY _ I.cL,I.fv,fun y bh e=> ?_,fun y e=> ?_,fun y c ak ar=>hd _ (I.frees y c ak ar),I.apart,fun a y e=> ?_,fun a b y ak ar=>I.fq a b y (nQ.mp ak).1 (nQ.mp ar).1⟩,
  ⟨aB,hd,an,aY,hc,hs,fun a y e=> ?_,fun _ _ _ e=>e,fun _ _ _ e=>⟨_,e⟩,⟨_,_,rfl⟩⟩,fun a y e=>(nQ.mp e).1,fun a e=>(nQ.mp e).2 rfl⟩
 ·by_cases q:y=x
  ·subst q;replace e:=qW▸e;exact Z e
  ·replace e:=(qY q)▸e
   refine ba (I.eZ y bh e) ?_;intro v M O
   refine⟨v,M,?_⟩
   cases bh with
   |U z=>exact bY.bu aB an O
   |aD z=>
    refine ba O ?_;clear O;intro a Y aC
    exact⟨a,Y,nQ.mpr ⟨aC,q⟩⟩
 ·refine dN (I.cells y e) ?_;intro c v M O Y
  exact⟨c,v,M,hc _ O,Y⟩
 ·refine cm (nQ.mp e) ?_;intro ak ar
  obtain⟨aL,c,M,O⟩:=I.eX a y ak
  exact⟨aL,c,by refine B (qY ar) ?_;exact M,O.bu aB an fun _ e=>e⟩
 ·by_cases q:y=x
  ·subst q;right;left;unfold Mine.fm;(refine B (if_pos e) ?_;rfl)
  ·exact .inl (nQ.mpr ⟨e,q⟩)
theorem aK.C4 {x:Str} {m:Str->Option Value} {val:Value} {h':Heap} {tk:Nat} (I:aK w CM K env J ρ s fs) (ae:J.names.lookup x=some .local) (gP:Mine.getL x fs.loc=none) (aY:s.heap.Ns env.locals m)
  (aE:h'.Ns env.locals fun y=>if y=x then some val else m y) (hs:Heap.SameBut env.locals s.heap h'):
  aK w CM K env J ρ {s with heap:=h',toks:=tk} fs/\a2 ρ s ρ {s with heap:=h',toks:=tk}/\e1 env J h' x val:=by
 have dO:=I.cL
 have b1:∀{b:Addr},ρ b≠.frame->b≠env.locals:=fun h q=>h (by refine B q ?_;exact dO)
 have keep:∀b ob,ρ b≠.frame->s.heap.get? b=some ob->h'.get? b=some ob:=fun b ob h e=>(hs.2 b (b1 h)).trans e
 refine dG (id aE) ?_;intro tg IK Qv rB wy YB
 have Io:=I.c2.loc x ae
 refine⟨⟨⟨I.base.fV,I.base.fC,fun b e=> ?_,fun b ob e=>keep b ob (bI e) (I.base.bL b ob e),fun b=> ?_,I.base.gh,fun b k e=> ?_,I.base.inj⟩,I.c2,I.cL,⟨_,aE⟩,fun y bh e=> ?_,fun y e=> ?_,I.frees,I.apart,fun b y e=> ?_,I.fq⟩,
  ⟨fun _ _ e=>e,fun _ e=>e,fun _ _ e=>e,fun _ e=>e,fun _ e=>e,fun _ e=>e,fun _ _ e=>.inl e,fun b ob e q=>keep b ob (bI e) q,fun b ob e q=>⟨_,keep b ob (bI e) q⟩,⟨_,_,rfl⟩⟩,.inl ⟨ae,Io,_,aE,if_pos rfl⟩⟩
 ·obtain⟨M,o,O,Y⟩:=I.base.fl b e
  by_cases q:b=env.locals
  ·subst q;exact⟨M,tg,rB,fun vs q=>by replace q:=wy▸q;cases q⟩
  ·exact⟨M,o,(hs.2 b q).trans O,Y⟩
 ·by_cases q:b=env.locals
  ·subst q;refine B dO ?_;exact⟨fun e=>(nomatch e),fun e=>by replace e:=(show h'.get? env.locals=some tg from rB)▸e;exact hM e⟩
  ·show ρ b=.free↔h'.get? b=none
   refine B (hs.2 b q) ?_;exact I.base.c0 b
 ·refine ba (I.base.fT b k e) ?_;intro y M O
  exact⟨y,M,O.bu (fun _ _ q=>q) (fun _ _ q=>q) fun ob q=>keep b ob (bI e) q⟩
 ·have xO:y≠x:=fun q=>by(replace e:=q▸e;replace e:=gP▸e);exact Z e
  refine ba (I.eZ y bh e) ?_;intro v M O
  refine⟨v,?_,O⟩
  rcases M with⟨bV,cD,lb,cZ,dX⟩|⟨bV,cD,c,cZ,dX⟩
  ·refine .inl ⟨bV,cD,_,aE,?_⟩
   refine nJ cZ ?_;clear cZ;intro o es cs gr gK jY oJ
   refine nJ aY ?_;clear aY;intro oy d4 uZ sh rS E8 xB
   replace sh:=gr▸sh;cases sh
   replace rS:=gK▸rS;cases rS
   show(if y=x then some val else m y)=some v
   (refine B (if_neg xO) ?_;refine bt (xB y) ?_;refine B (oJ y) ?_);exact dX
  ·refine .inr ⟨bV,cD,c,cZ,dX.sameBut hs (b1 ?_)⟩
   rcases bV with bV|bV
   ·refine dN (I.cells y bV) ?_;intro c' e4 cS dA _
    replace cS:=cZ▸cS;cases cS
    refine B dA ?_;nofun
   ·refine B (I.frees y c bV cZ) ?_;nofun
 ·refine gn (I.cells y e) ?_;intro c v M O Y aC
  exact⟨c,v,M,O,Y,aC.sameBut hs Y⟩
 ·obtain⟨aL,c,M,O⟩:=I.eX b y e
  exact⟨aL,c,M,O.bu (fun _ _ q=>q) (fun _ _ q=>q) fun ob q=>keep b ob (bI e) q⟩
theorem aK.zr {x:Str} {v:H} {val:Value} (I:aK w CM K env J ρ s fs) (gP:∀a,ρ a≠.aD x) (ay:e1 env J s.heap x val) (aP:bY w CM ρ v val):aK w CM K env J ρ s {fs with loc:=bX x (.U v) fs.loc}:=by
 refine⟨I.base,I.c2,I.cL,I.fv,fun y bh e=> ?_,I.cells,I.frees,I.apart,fun a y e=> ?_,I.fq⟩
 ·by_cases q:y=x
  ·subst q;replace e:=j9▸e;cases e;exact⟨val,ay,aP⟩
  ·replace e:=(ip q)▸e;exact I.eZ y bh e
 ·obtain⟨aL,c,M,O⟩:=I.eX a y e
  exact⟨aL,c,(ip (fun q:y=x=>gP a (by refine bt q ?_;exact e))).trans M,O⟩
theorem aK.K0 {x:Str} {a:Addr} {v:H} (I:aK w CM K env J ρ s fs) (ae:J.names.lookup x=some .local) (gP:∀a,ρ a≠.aD x) (ay:e1 env J s.heap x (.ref a)) (bz:ρ a=.aU) (eD:∀x c,J.names.lookup x=some .free->env.cells.lookup x=some c->c≠a) (bx:dR w CM ρ s.heap a v):
  aK w CM K env J (cx ρ a (.aD x)) s {fs with loc:=bX x (.aD v) fs.loc}:=by
 have b1:∀{b:Addr},ρ b≠.aU->b≠a:=fun h q=>h (by refine B q ?_;exact bz)
 have aB:∀b o,ρ b=.be o->cx ρ a (.aD x) b=.be o:=fun b o e=>(bp (b1 (bI e))).trans e
 have an:∀b o,ρ b=.per o->cx ρ a (.aD x) b=.per o:=fun b o e=>(bp (b1 (bI e))).trans e
 have iz:∀b y,ρ b=.aD y->cx ρ a (.aD x) b=.aD y:=fun b y e=>(bp (b1 (bI e))).trans e
 have g9:∀b y,cx ρ a (.aD x) b=.aD y->(b=a/\y=x)\/(ρ b=.aD y/\y≠x):=fun b y e=>by
  by_cases q:b=a
  ·subst q;replace e:=dK▸e;cases e;exact .inl ⟨rfl,rfl⟩
  ·replace e:=(bp q)▸e;exact .inr ⟨e,fun cI=>gP b (cI▸e)⟩
 refine⟨I.base.qi fun b=> ?_,I.c2,(bp (b1 (bI I.cL))).trans I.cL,I.fv,fun y bh e=> ?_,fun y e=> ?_,fun y c ak ar=>(bp (eD y c ak ar)).trans (I.frees y c ak ar),I.apart,fun b y e=> ?_,fun b c y ak ar=> ?_⟩
 ·by_cases q:b=a
  ·subst q;(refine B dK ?_;refine B bz ?_);exact .inr ⟨trivial,trivial,fun h=>h.elim⟩
  ·exact .inl (bp q)
 ·by_cases q:y=x
  ·subst q;replace e:=j9▸e;cases e;exact⟨_,ay,a,rfl,dK⟩
  ·replace e:=(ip q)▸e
   refine ba (I.eZ y bh e) ?_;intro v M O
   exact⟨v,M,O.bu aB an iz⟩
 ·refine dN (I.cells y e) ?_;intro c v M O Y
  exact⟨c,v,M,(bp (b1 (bI O))).trans O,Y⟩
 ·rcases g9 b y e with⟨rfl,rfl⟩|⟨ak,ar⟩
  ·exact⟨ae,v,j9,bx.bu aB an fun _ e=>e⟩
  ·obtain⟨aL,c,M,O⟩:=I.eX b y ak
   exact⟨aL,c,by refine B (ip ar) ?_;exact M,O.bu aB an fun _ e=>e⟩
 ·rcases g9 b y ak with⟨rfl,rfl⟩|⟨bZ,bn⟩
  ·rcases g9 c y ar with⟨rfl,_⟩|⟨_,ib⟩
   ·rfl
   ·exact absurd rfl ib
  ·rcases g9 c y ar with⟨rfl,rfl⟩|⟨ef,_⟩
   ·exact absurd rfl bn
   ·exact I.fq b c y bZ ef
theorem aK.Am {x:Str} {c:Addr} {val:Value} {h':Heap} {tk:Nat} (I:aK w CM K env J ρ s fs) (ae:J.names.lookup x=some .cell) (hc:env.cells.lookup x=some c) (gP:Mine.getL x fs.loc=none)
  (aE:h'.IsCell c (some val)) (hs:Heap.SameBut c s.heap h'):
  aK w CM K env J ρ {s with heap:=h',toks:=tk} fs/\a2 ρ s ρ {s with heap:=h',toks:=tk}/\e1 env J h' x val:=by
 refine gn (I.cells x ae) ?_;intro c' e4 gr gK jY oJ
 replace gr:=hc▸gr;cases(gr)
 have b1:∀{b:Addr},ρ b≠.cell->b≠c:=fun h q=>h (by refine B q ?_;exact gK)
 have keep:∀b ob,ρ b≠.cell->s.heap.get? b=some ob->h'.get? b=some ob:=fun b ob h e=>(hs.2 b (b1 h)).trans e
 refine ba (id aE) ?_;intro F7 lN Uj
 refine⟨⟨⟨I.base.fV,I.base.fC,fun b e=> ?_,fun b ob e=>keep b ob (bI e) (I.base.bL b ob e),fun b=> ?_,I.base.gh,fun b k e=> ?_,I.base.inj⟩,I.c2,I.cL,let⟨m,e⟩:=I.fv;⟨m,e.sameBut hs (b1 (bI I.cL))⟩,fun y bh e=> ?_,fun y e=> ?_,I.frees,I.apart,fun b y e=> ?_,I.fq⟩,
  ⟨fun _ _ e=>e,fun _ e=>e,fun _ _ e=>e,fun _ e=>e,fun _ e=>e,fun _ e=>e,fun _ _ e=>.inl e,fun b ob e q=>keep b ob (bI e) q,fun b ob e q=>⟨_,keep b ob (bI e) q⟩,⟨_,_,rfl⟩⟩,.inr ⟨.inl ae,I.c2.ff x ae,c,hc,aE⟩⟩
 ·obtain⟨M,o,O,Y⟩:=I.base.fl b e
  exact⟨M,o,keep b o (fun q=>by replace M:=q▸M;exact M) O,Y⟩
 ·by_cases q:b=c
  ·subst q;refine B gK ?_;exact⟨fun e=>(nomatch e),fun e=>by replace e:=(show h'.get? b=some F7 from lN)▸e;exact hM e⟩
  ·show ρ b=.free↔h'.get? b=none
   refine B (hs.2 b q) ?_;exact I.base.c0 b
 ·refine ba (I.base.fT b k e) ?_;intro y M O
  exact⟨y,M,O.bu (fun _ _ q=>q) (fun _ _ q=>q) fun ob q=>keep b ob (bI e) q⟩
 ·have xO:y≠x:=fun q=>by(replace e:=q▸e;replace e:=gP▸e);exact Z e
  refine ba (I.eZ y bh e) ?_;intro v M O
  refine⟨v,?_,O⟩
  rcases M with⟨bV,cD,lb,cZ,dX⟩|⟨bV,cD,d,cZ,dX⟩
  ·exact .inl ⟨bV,cD,lb,cZ.sameBut hs (b1 (bI I.cL)),dX⟩
  ·exact .inr ⟨bV,cD,d,cZ,dX.sameBut hs (fun q=>xO (I.apart y x c (q▸cZ) hc))⟩
 ·refine gn (I.cells y e) ?_;intro d v M O Y aC
  by_cases q:d=c
  ·subst q
   exact⟨d,some val,M,O,Y,aE⟩
  ·exact⟨d,v,M,O,Y,aC.sameBut hs q⟩
 ·obtain⟨aL,c',M,O⟩:=I.eX b y e
  exact⟨aL,c',M,O.bu (fun _ _ q=>q) (fun _ _ q=>q) fun ob q=>keep b ob (bI e) q⟩
theorem vD {x y:Str} {v:cg} {l:List (Str×cg)}:Mine.getL y (bX x v l)=Mine.getL y (bX x v (jI x l)):=by
 by_cases q:y=x
 ·subst q;(refine B j9 ?_;refine B j9 ?_;rfl)
 ·(refine B (ip q) ?_;refine B (ip q) ?_;refine B (qY q) ?_;rfl)
theorem oD.plain (h:oD env J):(env.scope.kind==.class||(env.scope.kind==.module&&env.locals !=env.globals))=false:=by refine B h.kind ?_;rfl
theorem rT {x:Str} {y:H} {v:Value} {Q:Unit->Shared->Prop} (q:eQ J x (.U y) fs=some fs') (I:aK w CM K env J ρ s fs) (aP:bY w CM ρ y v)
  (h:∀ρ' h' tk,aK w CM K env J ρ' {s with heap:=h',toks:=tk} fs'->a2 ρ s ρ' {s with heap:=h',toks:=tk}->(∀a y,ρ' a=.aD y->ρ a=.aD y)->(∀b ob,b≠env.locals->ρ b≠.cell->s.heap.get? b=some ob->h'.get? b=some ob)->Q () {s with heap:=h',toks:=tk}):
  wpAny (model aw w) A (storeName env x v) Q E s:=by
 refine nX (I.fm x) ?_;intro jt ej cS g7
 have gP:Mine.getL x (jI x fs.loc)=none:=qW
 refine yG q (fun ae q=> ?_) (fun ae q=> ?_)<;>(have q:=Option.some.inj (show some _=some fs' from q);subst q)
 ·refine bT I.fv ?_;intro m aY
  refine wpAny_storeName_local (I.c2.loc x ae) aY (fun h' aE hs=> ?_) I.c2.plain
  refine eg (jt.C4 (tk:=s.toks+1) ae gP aY aE hs) ?_;intro kx lE ay
  have n4:=kx.zr (v:=y) g7 ay (bY.bu (fun a o e=>ej.bL a o e) (fun a o e=>ej.per a o e) aP)
  exact h _ h' _ (n4.nW fun z=>vD) (ej.trans lE) cS fun b ob ah _ e=>(hs.2 b ah).trans e
 ·refine gn (I.cells x ae) ?_;intro c XN nr op XX zD
  refine wpAny_storeName_cell I.c2.kind (I.c2.ff x ae) nr zD fun h' aE hs=> ?_
  refine eg (jt.Am (tk:=s.toks) ae nr gP aE hs) ?_;intro kx lE ay
  have n4:=kx.zr (v:=y) g7 ay (bY.bu (fun a o e=>ej.bL a o e) (fun a o e=>ej.per a o e) aP)
  exact h _ h' _ (n4.nW fun z=>vD) (ej.trans lE) cS fun b ob _ ah e=>(hs.2 b (fun q=>ah (by refine B q ?_;exact op))).trans e
theorem Gl {x:Str} {r:aV} {v:Value} {Q:Unit->Shared->Prop} (q:eQ J x r fs=some fs') (I:aK w CM K env J ρ s fs) (aP:eN w CM ρ₀ ρ s fs r v) (aL:∀a,ρ₀ a=.free->∀x c,J.names.lookup x=some .free->env.cells.lookup x=some c->c≠a)
  (h:∀ρ' h' tk,aK w CM K env J ρ' {s with heap:=h',toks:=tk} fs'->a2 ρ s ρ' {s with heap:=h',toks:=tk}\/(∀a7,a2 ρ₀ a7 ρ s->a2 ρ₀ a7 ρ' {s with heap:=h',toks:=tk})->(∀a y,ρ' a=.aD y->ρ a=.aD y\/ρ₀ a=.free)->(∀a ob,ρ a=.aU->s.heap.get? a=some ob->h'.get? a=some ob)->(∀a,ρ a=.aU->v≠.ref a->ρ' a=.aU)->Q () {s with heap:=h',toks:=tk}):
  wpAny (model aw w) A (storeName env x v) Q E s:=by
 cases r with
 |var y=>exact yG q (fun _ q=>Z q) fun _ q=>Z q
 |U y=>exact rT q I aP fun ρ' h' tk hb e6 b _=>h ρ' h' tk hb (.inl e6) (fun a z e=>.inl (b a z e)) e6.keep fun a e _=>e6.aU a e
 |b5 y=>
  refine nX (I.fm x) ?_;intro jt ej cS g7
  have gP:Mine.getL x (jI x fs.loc)=none:=qW
  refine gw aP ?_;clear aP;intro a u;subst u;intro r4 qy FK
  have bz:Mine.fm ρ x a=.aU:=ej.aU a qy
  have g9:∀{b:Addr} {z:Str} {r:cV},cx (Mine.fm ρ x) a r b=.aD z->ρ b=.aD z\/ρ₀ b=.free:=fun{b z r} e=>by
   by_cases q:b=a
   ·exact .inr (q▸r4)
   ·replace e:=(bp q)▸e;exact .inl (cS b z e)
  have aU:∀{b:Addr} {r:cV},ρ b=.aU->b≠a->cx (Mine.fm ρ x) a r b=.aU:=fun e ah=>(bp ah).trans (ej.aU _ e)
  refine yG q (fun ae q=> ?_) (fun ae q=> ?_)<;>(have q:=Option.some.inj (show some _=some fs' from q);subst q)
  ·refine bT I.fv ?_;intro m aY
   refine wpAny_storeName_local (I.c2.loc x ae) aY (fun h' aE hs=> ?_) I.c2.plain
   refine eg (jt.C4 (tk:=s.toks+1) ae gP aY aE hs) ?_;intro kx lE ay
   have fr:dR w CM (Mine.fm ρ x) h' a y:=FK.bu ej.bL ej.per fun ob e=>(hs.2 a (d6 qy I.cL)).trans e
   have n4:=kx.K0 ae g7 ay bz (aL a r4) fr
   exact h _ h' _ (n4.nW fun z=>vD) (.inr fun a7 av=>(av.trans (ej.trans lE)).kX r4) (fun b z e=>g9 e) (ej.trans lE).keep fun b e ah=>aU e (fun q=>ah (by(refine B q ?_;rfl)))
  ·refine gn (I.cells x ae) ?_;intro c XN nr op XX zD
   refine wpAny_storeName_cell I.c2.kind (I.c2.ff x ae) nr zD fun h' aE hs=> ?_
   refine eg (jt.Am (tk:=s.toks) ae nr gP aE hs) ?_;intro kx lE ay
   have fr:dR w CM (Mine.fm ρ x) h' a y:=FK.bu ej.bL ej.per fun ob e=>(hs.2 a (d6 qy op)).trans e
   have Kt:=(kx.mQ bz (aL a r4) fr).zr (x:=x) (v:=.per fs.per.length) (fun b e=>by
    by_cases q:b=a
    ·(replace e:=q▸e;replace e:=dK▸e);exact cV.noConfusion e
    ·replace e:=(bp q)▸e;exact g7 b e) ay ⟨a,rfl,dK⟩
   exact h _ h' _ (Kt.nW fun z=>vD) (.inr fun a7 av=>(av.trans (ej.trans lE)).kX r4) (fun b z e=>g9 e) (ej.trans lE).keep fun b e ah=>aU e (fun q=>ah (by(refine B q ?_;rfl)))
end
end Mine
end
section
open PySem PySem.W PySem.Calls PyProof.Rows
namespace Mine
section
variable{w:World} {CM:cp} {bj:dM} {F:Frag} {K:Top} {env:Env} {J:Scope} {A:Around} {E:Value->Shared->Prop} {ρ ρ₀ aT ρ':a5} {s db a7 az:Shared} {fs fs' fs₁:X} {R:bk}
structure mE (w:World) (CM:cp) (A:Around) (ρ:a5) (s:Shared) (items:List H) (o:Obj) (fp:List Addr) (P:Nat->Value->Prop) (cB:Nat->Heap->Prop):Prop where
 k8:Walks aw w A s.heap.objs.size fp [s.heap.objs.size] items.length P cB
 eW:o.isFreed=false
 vb:∀i h,cB i h->∃ob,h.get? s.heap.objs.size=some ob
 ao:cB 0 (s.heap.push o)
 uI:∀b∈fp,b≠s.heap.objs.size->∃ob,ρ b=.be ob
 bf:∀i v,i<items.length->P i v->∃x,items[i]? =some x/\bY w CM ρ x v
noncomputable def ko (w:World) (CM:cp) (A:Around) (K:Top) (env:Env) (J:Scope) (ρ:a5) (s:Shared) (fs:X) (items:List H) (fs':X) (dj:Value) (az:Shared):Prop:=
 ∃ρ' aj o fp P cB,dj=.ref aj.heap.objs.size/\az={aj with heap:=aj.heap.push o}/\aK w CM K env J ρ' aj fs'/\a2 ρ s ρ' aj/\ce ρ fs.loc ρ' fs'.loc/\mE w CM A ρ' aj items o fp P cB
theorem MP {e:Expr} (h:∀es k p,e≠.Set es k p):∀x,foldedSetIterable e env x=pure x:=by
 intro x
 cases e<;>first|rfl|exact absurd rfl (h _ _ _)
theorem aK.push {o:Obj} (I:aK w CM K env J ρ s fs) (lI:o.isFreed=false):aK w CM K env J (bQ ρ (s.heap.push o)) {s with heap:=s.heap.push o} fs/\a2 ρ s (bQ ρ (s.heap.push o)) {s with heap:=s.heap.push o}/\ce ρ fs.loc (bQ ρ (s.heap.push o)) fs.loc/\
  bQ ρ (s.heap.push o) s.heap.objs.size=.aU/\ρ s.heap.objs.size=.free:=by
 have ag:∀b ob,s.heap.get? b=some ob->(s.heap.push o).get? b=some ob:=fun b ob e=>Heap.get?_push_of_some _ e
 have aL:ρ s.heap.objs.size=.free:=(I.base.c0 _).mpr e8
 exact⟨I.dF (tk:=s.toks) ag,a2.dF (tk:=s.toks) ag,ce.dF,gF aL (Heap.get?_push_size _ lI),aL⟩
theorem qX {o:Obj} {items:List H} {fp:List Addr} {P:Nat->Value->Prop} {cB:Nat->Heap->Prop} (lI:o.isFreed=false) (I:aK w CM K env J ρ s fs)
  (W:Walks aw w A s.heap.objs.size fp [s.heap.objs.size] items.length P cB) (vb:∀i h,cB i h->∃ob,h.get? s.heap.objs.size=some ob) (ao:cB 0 (s.heap.push o)) (uI:∀b∈fp,b≠s.heap.objs.size->∃ob,ρ b=.be ob)
  (bf:∀i v,i<items.length->P i v->∃x,items[i]? =some x/\bY w CM ρ x v):ko w CM A K env J ρ s fs items fs (.ref s.heap.objs.size) {s with heap:=s.heap.push o}:=
 ⟨ρ,s,o,fp,P,cB,rfl,rfl,I,a2.refl ..,ce.refl ..,W,lI,vb,ao,uI,bf⟩
theorem ko.trans {aN:a5} {aj cu:Shared} {fs₂:X} {items:List H} {dj:Value} (av:a2 ρ s aN aj) (dw:ce ρ fs.loc aN fs₁.loc) (q:ko w CM A K env J aN aj fs₁ items fs₂ dj cu):ko w CM A K env J ρ s fs items fs₂ dj cu:=by
 obtain⟨b9,Kb,o,fp,P,cB,M,O,e7,e6,g1,W⟩:=q
 exact⟨b9,Kb,o,fp,P,cB,M,O,e7,av.trans e6,dw.trans g1,W⟩
theorem Xq {l:List (al×H)} {a:Addr} (h:bY w CM ρ (.V l) (.ref a)):∃ob,ρ a=.be ob:=
 h.elim fun b h=>h.elim fun ob h=>h.elim fun _ h=>h.elim fun _ h=>h.elim fun _ h=>⟨ob,by refine B (Value.ref.inj h.1) ?_;exact h.2.2.1⟩
theorem Dn (bc:f5 K A) {x:H} {v:Value} {items:List H} (q:qj x=some items) (I:aK w CM K env J ρ s fs) (h:bY w CM ρ x v):wpAny (model aw w) A (pyIter v) (ko w CM A K env J ρ s fs items fs) E s:=by
 have bx:=I.base.lV bc
 have cz:=oU bx
 have d7:s.heap.objs.size∉Mine.dT A:=fun q=>Nat.lt_irrefl _ (cz _ q)
 have rL:∀{d:Addr} {ob:Obj},ρ d=.be ob->∀b∈s.heap.objs.size::d::Mine.dT A,b≠s.heap.objs.size->∃ob,ρ b=.be ob:=fun hd b ah aE=>by
  rcases List.mem_cons.mp ah with e|ah
  ·exact absurd e aE
  ·rcases List.mem_cons.mp ah with e|ah
   ·refine B e ?_;exact⟨_,hd⟩
   ·exact I.base.dT bc b ah
 cases x with
 |am l=>
  refine cG q ?_
  refine dG h ?_;clear h;intro a vs n u;subst u;intro M O
  have iL:=I.base.bL _ _ M
  have aq:s.heap.IsList a (Array.mk vs):=fy iL
  refine wpAny_pyIter_list aq ?_
  have bC:=O.length
  have W:=yg (w:=w) (A:=A) s.heap.objs.size a (Nat.ne_of_lt (Heap.lt_size iL)) d7 (Array.mk vs)
  replace W:=(show(Array.mk vs).size=l.length from bC)▸W
  refine qX rfl I W (fun i h z=>let⟨o,cq,_⟩:=z.1.1;⟨o,cq⟩) ⟨⟨⟨_,Heap.get?_push_size _ rfl,rfl,rfl⟩,aq.push _⟩,bx.keeps fun b _ o e=>Heap.get?_push_of_some _ e⟩ (rL M) fun i v aR ay=> ?_
  refine ba (O.gk (List.getElem?_eq_getElem aR)) ?_;intro u ak ar
  exact⟨_,List.getElem?_eq_getElem aR,Option.some.inj (ak.symm.trans ((List.getElem?_toArray ..).symm.trans ay))▸ar⟩
 |aF l=>
  refine cG q ?_
  refine dG h ?_;clear h;intro a vs n u;subst u;intro M O
  have iL:=I.base.bL _ _ M
  have aq:s.heap.IsTuple a (Array.mk vs):=lD iL
  refine wpAny_pyIter_tuple aq ?_
  have bC:=O.length
  have W:=C7 (w:=w) (A:=A) s.heap.objs.size a (Nat.ne_of_lt (Heap.lt_size iL)) d7 (Array.mk vs)
  replace W:=(show(Array.mk vs).size=l.length from bC)▸W
  refine qX rfl I W (fun i h z=>let⟨o,cq,_⟩:=z.1.1;⟨o,cq⟩) ⟨⟨⟨_,Heap.get?_push_size _ rfl,rfl,rfl⟩,aq.push _⟩,bx.keeps fun b _ o e=>Heap.get?_push_of_some _ e⟩ (rL M) fun i v aR ay=> ?_
  refine ba (O.gk (List.getElem?_eq_getElem aR)) ?_;intro u ak ar
  exact⟨_,List.getElem?_eq_getElem aR,Option.some.inj (ak.symm.trans ((List.getElem?_toArray ..).symm.trans ay))▸ar⟩
 |V l=>
  refine cG q ?_
  refine gn ((cv.gf (s:=s) h).V I.base) ?_;intro a aS u;subst u;intro aL dQ jA
  have M:=(Xq h).choose_spec
  refine bT dQ.dictAt ?_;intro cs fr
  refine wpAny_pyIter_dict aL fr ?_
  have bC:=jA.length
  have W:=EL (w:=w) (A:=A) (knd:=kk w) s.heap.objs.size a (Nat.ne_of_lt fr.lt_size) d7 aS cs
  (replace W:=bC▸W;replace W:=(Eq.symm (List.length_map (f:=fun p:al×H=>pt p.1) (as:=l)))▸W)
  refine qX rfl I W (fun i h z=>let⟨o,cq,_⟩:=z.1.1;⟨o,cq⟩) ⟨⟨⟨_,Heap.get?_push_size _ rfl,rfl,by simp [bC]⟩,by have:=fr.push {cls:=.type "dict_keyiterator",data:=.fields #[.ref a,.int 0 0,.int aS.length 0,.int cs 0]};simpa [bC] using this⟩,bx.keeps fun b _ o e=>Heap.get?_push_of_some _ e⟩ (rL M) fun i v aR ay=> ?_
  refine hq ay ?_;clear ay;intro k y ag qa
  have ot:=jA.xX
  have nK:(aS.map (·.1))[i]? =some k:=by(refine B List.getElem?_map ?_;refine B ag ?_);rfl
  (replace nK:=ot▸nK;replace nK:=List.getElem?_map▸nK)
  refine ba (Option.map_eq_some_iff.mp nK) ?_;intro p an u;subst u
  refine⟨pt p.1,by(refine B List.getElem?_map ?_;refine B an ?_);rfl,?_⟩
  generalize p.1=k at qa
  cases k with
  |int n=>exact jg qa
  |str n=>exact jE qa
 |_=>exact Z q
theorem tq {a:Expr} {v:H} (h:d2 R a fs=some (v,fs')):dp R [a] fs=some ([v],fs'):=by
 show ob (d2 R a fs) _=_
 refine B h ?_;rfl
theorem Qp (bl:jB CM bj K.f) (bc:f5 K A) (S:cC w CM K env J A R) {e a:Expr} {n:Int} (bw:d2 R a fs=some (.int n,fs')) (hz:(decide (-1048576<=n)&&decide (n<=1048576))=true) (ae:J.names.lookup ("range":Str)=some .globalImplicit)
  (aX:∃p q,e=.Call (.Name "range" p) [a] [] q) (I:aK w CM K env J ρ s fs):
  (∀x,foldedSetIterable e env x=pure x)/\wpAny (model aw w) A (eval e env) (fun eR aj=>wpAny (model aw w) A (pyIter eR) (ko w CM A K env J ρ s fs ((List.range n.toNat).map fun(i:Nat)=>H.int i) fs') cf aj) cf s:=by
 refine jd aX ?_;clear aX;intro Po pos u;subst u
 have kr:=of_decide_eq_true (Bool.and_eq_true_iff.mp hz).1
 have k7:=of_decide_eq_true (Bool.and_eq_true_iff.mp hz).2
 clear hz
 refine⟨fun x=>rfl,lr (bl.tt "range" (by decide)) ae I (pC (.inr (by decide))) ?_⟩
 refine PyProof.Rows.callWith_type (rK S _ (tq bw)).1 (Ar S (tq bw) I fun bf aj aN aZ a0 bv ay=> ?_)
 refine dN ay ?_;clear ay;intro v t u ay aG;subst u
 refine ay.elim fun tk u=> ?_;subst u
 refine B (show t=[] from aG) ?_
 refine call_range_1 ?_
 refine j3 ((aZ.tok (tk:=aj.toks+1+1)).push (o:={cls:=.type "range",data:=.fields #[.int 0 aj.toks,.int n tk,.int 1 (aj.toks+1)]}) rfl) ?_;intro cP ca dH pQ mI
 have aP:=IsRange.new aj.heap 0 n 1 aj.toks tk (aj.toks+1)
 refine wpAny_pyIter_range (s:={aj with heap:=aj.heap.push {cls:=.type "range",data:=.fields #[.int 0 aj.toks,.int n tk,.int 1 (aj.toks+1)]},toks:=aj.toks+1+1}) aP (small_one (by decide) (by decide) (by exact Jm kr) (by exact Qy k7)) ?_
 have dv:Builtin.Range.rangeSize 0 n 1=(n.toNat:Int):=by refine B (rangeSize_one _ _) ?_;split<;>omega
 have bx:=cP.base.lV bc
 have d7:(aj.heap.push {cls:=.type "range",data:=.fields #[.int 0 aj.toks,.int n tk,.int 1 (aj.toks+1)]}).objs.size∉Mine.dT A:=fun q=>Nat.lt_irrefl _ (oU bx _ q)
 have W:=Iw (w:=w) (A:=A) _ d7 0 1 ((List.range n.toNat).map fun(i:Nat)=>H.int i).length
 have bC:((List.range n.toNat).map fun(i:Nat)=>H.int i).length=n.toNat:=by simp
 refine ko.trans ((a0.trans (a2.tok (tk:=aj.toks+1+1))).trans ca) (bv.trans dH) (qX (items:=(List.range n.toNat).map fun(i:Nat)=>H.int i) rfl cP W (fun i h z=>⟨_,z.1⟩) ⟨?_,dz.keeps (A:=A) bx fun b _ o e=>Heap.get?_push_of_some _ e⟩ (fun b ah IA=> ?_) fun i v aR ay=> ?_)
 ·have:=Heap.get?_push_size (aj.heap.push {cls:=.type "range",data:=.fields #[.int 0 aj.toks,.int n tk,.int 1 (aj.toks+1)]}) (o:={cls:=.type "range_iterator",data:=.fields #[rawInt 0,rawInt (Builtin.Range.rangeSize 0 n 1),rawInt 1]}) rfl
  rw [dv] at this|-
  refine B bC ?_
  simpa using this
 ·rcases List.mem_cons.mp ah with e|ah
  ·exact absurd e IA
  ·exact cP.base.dT bc b ah
 ·refine bT ay ?_;clear ay;intro WU u;subst u
  have ud:i<n.toNat:=by simpa using aR
  exact⟨.int i,by(refine B List.getElem?_map ?_;refine B (List.getElem?_range ud) ?_);rfl,WU,by simp⟩
theorem XQ (bl:jB CM bj K.f) (bc:f5 K A) (S:cC w CM K env J A R) {e a:Expr} {l:List H} (bw:d2 R a fs=some (.am l,fs')) (ae:J.names.lookup ("reversed":Str)=some .globalImplicit)
  (aX:∃p q,e=.Call (.Name "reversed" p) [a] [] q) (I:aK w CM K env J ρ s fs):
  (∀x,foldedSetIterable e env x=pure x)/\wpAny (model aw w) A (eval e env) (fun eR aj=>wpAny (model aw w) A (pyIter eR) (ko w CM A K env J ρ s fs l.reverse fs') cf aj) cf s:=by
 refine jd aX ?_;clear aX;intro Po pos u;subst u
 refine⟨fun x=>rfl,lr (bl.tt "reversed" (by decide)) ae I (pC (.inr (by decide))) ?_⟩
 refine PyProof.Rows.callWith_type (rK S _ (tq bw)).1 (Ar S (tq bw) I fun bf aj aN aZ a0 bv ay=> ?_)
 refine dN ay ?_;clear ay;intro v t u ay aG;subst u
 refine dG ay ?_;clear ay;intro ad vs n u O Y;subst u
 refine B (show t=[] from aG) ?_
 have y5:=aZ.base.bL _ _ O
 have bC:=Y.length
 refine call_reversed_list (fy y5) ?_
 have bx:=aZ.base.lV bc
 have d7:aj.heap.objs.size∉Mine.dT A:=fun q=>Nat.lt_irrefl _ (oU bx _ q)
 have At:(aj.heap.push (revObj ad (((Array.mk vs).size:Int)-1))).IsRevIter aj.heap.objs.size ad (((Array.mk vs).size:Int)-1):=⟨_,Heap.get?_push_size _ rfl,rfl,rfl⟩
 refine wpAny_pyIter_revIter (s:={aj with heap:=aj.heap.push (revObj ad (((Array.mk vs).size:Int)-1))}) At ?_
 have W:=SI (w:=w) (A:=A) aj.heap.objs.size ad (Nat.ne_of_lt (Heap.lt_size y5)) d7 (Array.mk vs)
 replace W:=(show(Array.mk vs).size=l.reverse.length by simpa using bC)▸W
 refine ko.trans a0 bv (qX rfl aZ W (fun i h z=>let⟨o,cq,_⟩:=z.1.2.1;⟨o,cq⟩) ⟨⟨Nat.zero_le _,by simpa [bC] using At,(fy y5).push _⟩,bx.keeps fun b _ o e=>Heap.get?_push_of_some _ e⟩ (fun b ah aE=> ?_) fun i v aR ay=> ?_)
 ·rcases List.mem_cons.mp ah with e|ah
  ·exact absurd e aE
  ·rcases List.mem_cons.mp ah with e|ah
   ·refine B e ?_;exact⟨_,O⟩
   ·exact aZ.base.dT bc b ah
 ·have ud:i<l.length:=by simpa using aR
  have zQ:vs[l.length-1-i]? =some v:=by simpa using ay
  have bF:l.length-1-i<l.length:=by exact Tp ud
  refine ba (Y.gk (List.getElem?_eq_getElem bF)) ?_;intro u ak ar
  replace ak:=zQ▸ak;cases ak
  exact⟨_,by(refine B (List.getElem?_reverse ud) ?_;refine B (List.getElem?_eq_getElem bF) ?_;rfl),ar⟩
theorem xq (bl:jB CM bj F) (bA:K.f=F) (bc:f5 K A) (S:cC w CM K env J A R) {e:Expr} {items:List H} (q:hy R J e fs=some (items,fs')) (I:aK w CM K env J ρ s fs):
  (∀x,foldedSetIterable e env x=pure x)/\wpAny (model aw w) A (eval e env) (fun eR aj=>wpAny (model aw w) A (pyIter eR) (ko w CM A K env J ρ s fs items fs') cf aj) cf s:=by
 replace bl:=(Eq.symm bA)▸bl
 have other:oj R qj e fs=some (items,fs')->(∀x,foldedSetIterable e env x=pure x)/\wpAny (model aw w) A (eval e env) (fun eR aj=>wpAny (model aw w) A (pyIter eR) (ko w CM A K env J ρ s fs items fs') cf aj) cf s:=fun q=>
  b6 q (fun v fs₁ bw q=>bG q (fun l aq q=>b7 q ⟨MP fun es k p h=>b6 (h▸bw) (fun r fs₂ dJ _=>Z ((S.set es k p fs).symm.trans dJ)) Z,rE S bw I fun v aj aN aZ a0 bv aP=>wpAny_mono (Dn bc aq aZ aP) (fun dj cu P=>P.trans a0 bv) fun _ _ f=>f⟩) Z) Z
 unfold hy at q
 generalize hc:w1 e=c at q
 cases c with
 |none=>exact other q
 |some p=>
  obtain⟨f,a⟩:=p
  refine cK q (fun ae q=>g5 q (fun aB q=> ?_) fun _ q=>g5 q (fun aB q=> ?_) fun _ q=>other q) Z<;>clear other
  ·refine b6 q (fun n fs₁ bw q=>bG q (fun l aq q=>b7 q ?_) Z) Z
   exact bG aq (fun n aE aq=>cK aq (fun hz aq=>cG aq (Qp bl bc S (jP aE▸bw) hz (aB▸ae) (aB▸AI hc) I)) Z) Z
  ·refine b6 q (fun n fs₁ bw q=>bG q (fun l aq q=>b7 q ?_) Z) Z
   exact bG aq (fun n aE aq=>cG aq (XQ bl bc S (ri aE▸bw) (aB▸ae) (aB▸AI hc) I)) Z
end
end Mine
end
section
open PySem PySem.W PySem.Calls PyProof.Rows
namespace Mine
theorem x1 {env:Env}:∀(names:List (Str×NameKind)) (fM:List (Str×Addr)),(∀n k,(n,k)∈names->k=.free->∃c,env.cells.lookup n=some c)->(∀n c,(n,c)∈fM->env.cells.lookup n=some c)->
  ∃eF,(forIn names fM fun(x:Str×NameKind) r=>(if(x.2==.free)=true then(do let a<-cellOf env x.1;pure (ForInStep.yield ((x.1,a)::r))) else pure (ForInStep.yield r):Sem (ForInStep (List (Str×Addr)))))=(pure eF:Sem _)/\
   (∀n c,(n,c)∈eF->env.cells.lookup n=some c)/\(∀n c,(n,c)∈fM->∃c',(n,c')∈eF)/\∀n,(n,NameKind.free)∈names->∃c,(n,c)∈eF
 |[],fM,_,u8=>⟨fM,rfl,u8,fun n c h=>⟨c,h⟩,fun n h=>nomatch h⟩
 |(n,k)::r,fM,aE,u8=>by
  rw [List.forIn_cons]
  by_cases ag:k=.free
  ·subst ag
   refine bT (aE n .free List.mem_cons_self rfl) ?_;intro c hc
   obtain⟨eF,M,O,Y,aC⟩:=x1 r ((n,c)::fM) (fun m k h=>aE m k (List.mem_cons_of_mem _ h)) (fun m d h=>by
    rcases List.mem_cons.mp h with e|h
    ·cases e;exact hc
    ·exact u8 m d h)
   refine⟨eF,?_,O,fun m d h=>Y m d (List.mem_cons_of_mem _ h),fun m h=> ?_⟩
   ·refine B (if_pos (show((n,NameKind.free).2==NameKind.free)=true from rfl)) ?_
    unfold cellOf
    refine B hc ?_
    simp only [pure_bind]
    exact M
   ·rcases List.mem_cons.mp h with e|h
    ·cases e;exact Y n c List.mem_cons_self
    ·exact aC m h
  ·refine gw (x1 r fM (fun m k h=>aE m k (List.mem_cons_of_mem _ h)) u8) ?_;intro eF M O Y aC
   refine⟨eF,?_,O,Y,fun m h=> ?_⟩
   ·refine B (if_neg (show¬((n,k).2==NameKind.free)=true from by simpa using ag)) ?_
    simp only [pure_bind]
    exact M
   ·rcases List.mem_cons.mp h with e|h
    ·cases e;exact absurd rfl ag
    ·exact aC m h
theorem Ch {env:Env} {scope:Scope} (aE:∀n k,(n,k)∈scope.names->k=.free->∃c,env.cells.lookup n=some c):
  ∃eF,closureFor scope env=pure eF/\(∀n c,eF.lookup n=some c->env.cells.lookup n=some c)/\∀n,scope.names.lookup n=some .free->∃c,eF.lookup n=some c:=by
 refine gw (x1 scope.names [] aE (fun n c h=>nomatch h)) ?_;intro eF M O Y aC
 refine⟨eF,?_,fun n c h=>O n c (mem_of_lookup h),fun n h=> ?_⟩
 ·unfold closureFor
  simp only []
  (refine bt (bind_pure (pure eF:Sem (List (Str×Addr)))) ?_;refine bt M ?_;rfl)
 ·refine bT (aC n (mem_of_lookup h)) ?_;intro c hc
  cases e:eF.lookup n with
  |some d=>exact⟨d,rfl⟩
  |none=>
   have:=List.lookup_eq_none_iff.mp e (n,c) hc
   simp at this
theorem xJ {env:Env}:∀{names:List (Str×NameKind)} {x:Str},names.lookup x=some .free->env.scope.kind=.function->env.kindOf x=some .cell->
  (names.map fun(n,k)=>if(k==NameKind.free&&env.scope.kind==.function&&env.kindOf n==some .cell) then(n,NameKind.cell) else(n,k)).lookup x=some .cell
 |[],_,h,_,_=>by simp at h
 |(n,k)::r,x,h,ag,hc=>by
  have ih:= @xJ env r x
  show List.lookup x ((if(k==NameKind.free&&env.scope.kind==.function&&env.kindOf n==some .cell)=true then(n,NameKind.cell) else(n,k))::_)=_
  cases ae:x==n with
  |true=>
   simp only [List.lookup_cons,ae] at h
   refine oa h ?_;clear h;intro u;subst u
   have mJ:=beq_iff_eq.mp ae
   subst mJ
   refine B (if_pos (by rw [ag,hc];rfl)) ?_
   simp [List.lookup_cons]
  |false=>
   simp only [List.lookup_cons,ae] at h
   by_cases fX:(k==NameKind.free&&env.scope.kind==.function&&env.kindOf n==some .cell)=true
   ·refine B (if_pos fX) ?_;simp only [List.lookup_cons,ae];exact ih h ag hc
   ·refine B (if_neg fX) ?_;simp only [List.lookup_cons,ae];exact ih h ag hc
theorem Bt {env:Env}:∀{names:List (Str×NameKind)} {x:Str},names.lookup x=some .globalImplicit->
  (names.map fun(n,k)=>if(k==NameKind.free&&env.scope.kind==.function&&env.kindOf n==some .cell) then(n,NameKind.cell) else(n,k)).lookup x=some .globalImplicit
 |[],_,h=>by simp at h
 |(n,k)::r,x,h=>by
  have ih:= @Bt env r x
  show List.lookup x ((if(k==NameKind.free&&env.scope.kind==.function&&env.kindOf n==some .cell)=true then(n,NameKind.cell) else(n,k))::_)=_
  cases ae:x==n with
  |true=>
   simp only [List.lookup_cons,ae] at h
   refine oa h ?_;clear h;intro u;subst u
   simp [List.lookup_cons,ae]
  |false=>
   simp only [List.lookup_cons,ae] at h
   by_cases fX:(k==NameKind.free&&env.scope.kind==.function&&env.kindOf n==some .cell)=true
   ·refine B (if_pos fX) ?_;simp only [List.lookup_cons,ae];exact ih h
   ·refine B (if_neg fX) ?_;simp only [List.lookup_cons,ae];exact ih h
theorem QE {aW:Scope} {loc:List (Str×cg)} {x:Str} {bh:cg} (h:Mine.getL x (ls aW loc)=some bh):aW.names.lookup x=some .free/\∃v,bh=.U v/\Mine.getL x loc=some (.U v):=by
 unfold ls at h
 have key:∀(l:List (Str×cg)),Mine.getL x (l.filterMap fun p=>if aW.names.lookup p.1=some .free then(match Mine.getL p.1 loc with
   |some (.U v)=>some (p.1,cg.U v)
   |_=>none) else none)=some bh->aW.names.lookup x=some .free/\∃v,bh=.U v/\Mine.getL x loc=some (.U v):=by
  intro l
  induction l with
  |nil=>intro h;exact Z h
  |cons p r ih=>
   intro h
   replace h:=List.filterMap_cons▸h
   split at h
   ·exact ih h
   ·rename_i b ah
    refine cK ah ?_ Z;clear ah;intro eD ah
    split at ah
    ·rename_i v ay
     refine oa ah ?_;clear ah;intro u;subst u
     unfold Mine.getL at h
     split at h
     ·rename_i e
      refine oa h ?_;clear h;intro u;subst u
      subst e
      exact⟨eD,v,rfl,ay⟩
     ·exact ih h
    ·exact Z ah
 exact key loc h
structure y0 (J aW:Scope):Prop where
 kind:aW.kind=.function
 cell:∀y∈aW.names,y.2≠.cell
 loc:∀y∈aW.names,y.2=.local->aW.names.lookup y.1=some .local
 c0:∀n,(n,NameKind.free)∈aW.names->J.names.lookup n=some .cell
theorem Be {J aW:Scope} (h:oK J aW=true):y0 J aW:=by
 unfold oK at h
 simp only [Bool.and_eq_true,beq_iff_eq,List.all_eq_true] at h
 refine cm h ?_;clear h;intro M O
 refine⟨M,fun y aQ q=> ?_,fun y aQ q=> ?_,fun n aE=> ?_⟩
 ·have:=(O y aQ).1.1;simp [q] at this
 ·have:=(O y aQ).1.2;simpa [q] using this
 ·have:=(O _ aE).2;simpa using this
section
variable{w:World} {CM:cp} {bj:dM} {F:Frag} {K:Top} {env:Env} {J aW:Scope} {A:Around} {E:Value->Shared->Prop} {ρ ρ₀ aT ρ':a5} {s db a7 az:Shared} {fs fs' fs₁:X} {R:bk}
noncomputable def eL (ρ:a5) (i:Addr) (h':Heap):a5:=bQ (cx ρ i .free) h'
theorem m1 {a i:Addr} {h':Heap} {r:cV} (e:ρ a=r) (aE:a≠i) (M:(r.lf==0)=false:=by rfl) (O:(r.lf==1)=false:=by rfl):Mine.eL ρ i h' a=r:=(mO M O).mpr ((bp aE).trans e)
theorem xf {a i:Addr} {h':Heap} {r:cV} (e:Mine.eL ρ i h' a=r) (M:(r.lf==0)=false:=by rfl) (O:(r.lf==1)=false:=by rfl):a≠i/\ρ a=r:=by
 have z:=(mO M O).mp e
 by_cases q:a=i
 ·(replace z:=q▸z;replace z:=dK▸z);replace M:=(Eq.symm z)▸M;exact Bool.noConfusion M
 ·exact⟨q,(bp q).symm.trans z⟩
theorem aK.eL {i:Addr} {h':Heap} {tk:Nat} (I:aK w CM K env J ρ s fs) (aR:ρ i=.aU) (eD:∀x c,J.names.lookup x=some .free->env.cells.lookup x=some c->c≠i)
  (ag:∀b o,b≠i->s.heap.get? b=some o->h'.get? b=some o):
  aK w CM K env J (Mine.eL ρ i h') {s with heap:=h',toks:=tk} fs/\(∀{ρ₀:a5} {db:Shared},ρ₀ i=.free->a2 ρ₀ db ρ s->a2 ρ₀ db (Mine.eL ρ i h') {s with heap:=h',toks:=tk})/\(∀a y,Mine.eL ρ i h' a=.aD y->ρ a=.aD y)/\
  (∀a,a≠i->ρ a≠.free->Mine.eL ρ i h' a=ρ a)/\(h'.get? i≠none->Mine.eL ρ i h' i=.aU):=by
 have f3:∀{a:Addr},ρ a≠.aU->a≠i:=fun h q=>h (by refine B q ?_;exact aR)
 have aB:∀a o,ρ a=.be o->Mine.eL ρ i h' a=.be o:=fun a o e=>m1 e (f3 (bI e))
 have an:∀a o,ρ a=.per o->Mine.eL ρ i h' a=.per o:=fun a o e=>m1 e (f3 (bI e))
 have bx:∀a o,ρ a=.aD o->Mine.eL ρ i h' a=.aD o:=fun a o e=>m1 e (f3 (bI e))
 have ak:∀{a:Addr},a≠i->ρ a≠.free->Mine.eL ρ i h' a=ρ a:=fun{a} aE d7=>(lZ (fun q=>d7 ((bp aE).symm.trans q))).trans (bp aE)
 have Mp:∀a o,Mine.eL ρ i h' a=.be o->a≠i/\ρ a=.be o:=fun a o e=>xf e
 have wF:∀a o,Mine.eL ρ i h' a=.per o->a≠i/\ρ a=.per o:=fun a o e=>xf e
 have uC:∀a o,Mine.eL ρ i h' a=.aD o->a≠i/\ρ a=.aD o:=fun a o e=>xf e
 have eW:∀{a:Addr} {o:Obj},a≠i->s.heap.get? a=some o->h'.get? a=some o:=fun aE e=>ag _ _ aE e
 refine⟨⟨⟨fun a x e=>aB _ _ (I.base.fV a x e),fun a x e=>aB _ _ (I.base.fC a x e),fun a e=> ?_,fun a o e=> ?_,fun a=> ?_,fun k cz=>let⟨a,e⟩:=I.base.gh k cz;⟨a,an _ _ e⟩,fun a k e=> ?_,fun a b k ak ar=>I.base.inj a b k (wF _ _ ak).2 (wF _ _ ar).2⟩,
   I.c2,?_,?_,fun x bh e=> ?_,fun x e=> ?_,fun x c bZ bn=> ?_,I.apart,fun a x e=> ?_,fun a b x bZ bn=>I.fq a b x (uC _ _ bZ).2 (uC _ _ bn).2⟩,
  fun{ρ₀ db} aL av=> ?_,fun a y e=>(uC a y e).2,fun a aE d7=>ak aE d7,fun h=> ?_⟩
 ·obtain⟨M,o,O,Y⟩:=I.base.fl a e
  have aE:a≠i:=f3 (fun q=>by replace M:=q▸M;exact M)
  exact⟨by refine B (ak aE (fun q=>by rw [q] at M;exact M)) ?_;exact M,o,eW aE O,Y⟩
 ·refine cm (Mp a o e) ?_;intro aE e
  exact eW aE (I.base.bL _ _ e)
 ·by_cases q:a=i
  ·refine B q ?_
   exact xb (h:=⟨#[],{}⟩) ⟨fun _=>rfl,fun _=>dK⟩ fun ob e=>Z e
  ·exact xb ((by refine B (bp q) ?_;exact I.base.c0 a)) fun ob e=>eW q e
 ·refine cm (wF a k e) ?_;intro aE e
  refine ba (I.base.fT a k e) ?_;intro x M O
  exact⟨x,M,O.bu aB an fun ob q=>eW aE q⟩
 ·exact m1 I.cL (f3 (bI I.cL))
 ·refine pL I.fv ?_;intro m o es cs bZ bn
  exact⟨m,o,es,cs,eW (f3 (bI I.cL)) bZ,bn⟩
 ·refine ba (I.eZ x bh e) ?_;intro v M O
  refine⟨v,?_,O.bu aB an bx⟩
  rcases M with⟨bV,cD,m,⟨o,es,cs,bZ,bn⟩,dX⟩|⟨bV,cD,c,cZ,⟨o,dX,sc⟩⟩
  ·exact .inl ⟨bV,cD,m,⟨o,es,cs,eW (f3 (bI I.cL)) bZ,bn⟩,dX⟩
  ·refine .inr ⟨bV,cD,c,cZ,o,eW ?_ dX,sc⟩
   rcases bV with bV|bV
   ·refine dN (I.cells x bV) ?_;intro c' e4 cS dA _
    replace cS:=cZ▸cS;cases cS
    exact f3 (bI dA)
   ·exact eD x c bV cZ
 ·obtain⟨c,v,bZ,bn,ef,⟨o,ib,iy⟩⟩:=I.cells x e
  have aE:c≠i:=f3 (bI bn)
  exact⟨c,v,bZ,m1 bn aE,ef,o,eW aE ib,iy⟩
 ·have:=I.frees x c bZ bn
  exact(ak (eD x c bZ bn) (bI this)).trans this
 ·refine cm (uC a x e) ?_;intro aE e
  obtain⟨aL,c,M,O⟩:=I.eX a x e
  exact⟨aL,c,M,O.bu aB an fun ob q=>eW aE q⟩
 ·have oG:∀{a:Addr},ρ₀ a≠.free->a≠i:=fun h q=>h (by refine B q ?_;exact aL)
  refine⟨fun a o e=>aB _ _ (av.bL a o e),fun a e=> ?_,fun a k e=>an _ _ (av.per a k e),fun a e=> ?_,fun a e=> ?_,fun a e=> ?_,fun a x e=> ?_,fun a ob e q=>eW (oG (bI e)) (av.keep a ob e q),fun a ob e q=> ?_,?_⟩
  ·exact(ak (oG (bI e)) (bI (av.aU a e))).trans (av.aU a e)
  ·exact m1 (av.cL a e) (oG (bI e))
  ·exact m1 (av.ff a e) (oG (bI e))
  ·exact m1 (av.stk a e) (oG (bI e))
  ·rcases av.aD a x e with q|q|⟨ob,q⟩
   ·exact .inl (bx _ _ q)
   ·exact .inr (.inl ((ak (oG (bI e)) (bI q)).trans q))
   ·exact .inr (.inr ⟨ob,aB _ _ q⟩)
  ·refine bT (av.ig a ob e q) ?_;intro f6 ci
   exact⟨f6,eW (oG (bI e)) ci⟩
  ·obtain⟨h,mj,e⟩:=av.ao;refine B e ?_;exact⟨h',tk,rfl⟩
 ·exact(Option.ne_none_iff_exists'.mp h).elim fun ob e=>gF dK e
theorem aK.drop {c:Addr} (I:aK w CM K env J ρ s fs) (hc:ρ c=.stack) (aE:c∉K.frames):aK w CM K env J (cx ρ c .aU) s fs:=by
 have f3:∀{a:Addr},ρ a≠.stack->a≠c:=fun h q=>h (by refine B q ?_;exact hc)
 have aB:∀a o,ρ a=.be o->cx ρ c .aU a=.be o:=fun a o e=>(bp (f3 (bI e))).trans e
 have an:∀a o,ρ a=.per o->cx ρ c .aU a=.per o:=fun a o e=>(bp (f3 (bI e))).trans e
 have bx:∀a o,ρ a=.aD o->cx ρ c .aU a=.aD o:=fun a o e=>(bp (f3 (bI e))).trans e
 have nx:∀a r,r≠.aU->cx ρ c .aU a=r->a≠c/\ρ a=r:=fun a r aP e=>by
  by_cases q:a=c
  ·subst q;replace e:=dK▸e;exact absurd e.symm aP
  ·replace e:=(bp q)▸e;exact⟨q,e⟩
 refine⟨⟨fun a x e=>aB _ _ (I.base.fV a x e),fun a x e=>aB _ _ (I.base.fC a x e),fun a e=> ?_,fun a o e=>I.base.bL a o (nx a _ (by nofun) e).2,fun a=> ?_,fun k cz=>let⟨a,e⟩:=I.base.gh k cz;⟨a,an _ _ e⟩,fun a k e=> ?_,fun a b k ak ar=>I.base.inj a b k (nx _ _ (by nofun) ak).2 (nx _ _ (by nofun) ar).2⟩,
  I.c2,(bp (f3 (bI I.cL))).trans I.cL,I.fv,fun x bh e=>let⟨v,M,O⟩:=I.eZ x bh e;⟨v,M,O.bu aB an bx⟩,fun x e=> ?_,fun x d bZ bn=> ?_,I.apart,fun a x e=> ?_,fun a b x bZ bn=>I.fq a b x (nx _ _ (by nofun) bZ).2 (nx _ _ (by nofun) bn).2⟩
 ·refine cm (I.base.fl a e) ?_;intro M O
  exact⟨by refine B (bp (fun q:a=c=>aE (q▸e))) ?_;exact M,O⟩
 ·by_cases q:a=c
  ·subst q
   refine B dK ?_
   refine⟨fun e=>(nomatch e),fun e=> ?_⟩
   replace hc:=((I.base.c0 a).mpr e)▸hc;cases hc
  ·refine B (bp q) ?_;exact I.base.c0 a
 ·refine ba (I.base.fT a k (nx _ _ (by nofun) e).2) ?_;intro x M O
  exact⟨x,M,O.bu aB an fun _ e=>e⟩
 ·refine dN (I.cells x e) ?_;intro d v bZ bn ef
  exact⟨d,v,bZ,(bp (f3 (bI bn))).trans bn,ef⟩
 ·have:=I.frees x d bZ bn
  refine B (bp (f3 (bI this))) ?_;exact this
 ·obtain⟨aL,d,M,O⟩:=I.eX a x (nx _ _ (by nofun) e).2
  exact⟨aL,d,M,O.bu aB an fun _ e=>e⟩
theorem ce.kX {a:Addr} {r:cV} {l dc:List (Str×cg)} (av:ce ρ₀ l ρ dc) (aL:ρ₀ a=.free) (aP:∀x,r≠.aD x):ce ρ₀ l (cx ρ a r) dc where
 U:=av.U
 aD:=fun b x e=>by
  by_cases q:b=a
  ·subst q;replace e:=aL▸e;cases e
  ·refine B (bp q) ?_;exact av.aD b x e
 gu:=fun b x e=>by
  by_cases q:b=a
  ·subst q;replace e:=dK▸e;exact absurd e (aP x)
  ·replace e:=(bp q)▸e;exact av.gu b x e
theorem mE.Ah {items:List H} {o:Obj} {fp:List Addr} {P:Nat->Value->Prop} {cB:Nat->Heap->Prop} (dZ:mE w CM A ρ s items o fp P cB) {Dx iq fQ:a5} {iF fA:Shared} {j:Nat} (aL:∀b ob,ρ b=.be ob->Dx b=.be ob) (vA:a2 Dx s iq iF)
  (fw:iq s.heap.objs.size=.aU) (av:a2 iq iF fQ fA) (M:∀a ob,iq a=.be ob->iF.heap.get? a=some ob) (O:∀a ob,fQ a=.be ob->fA.heap.get? a=some ob) (ao:cB j iF.heap):cB j fA.heap:=
 dZ.k8.frame _ _ _ ao fun b ah ob e=>by
  by_cases q:b=s.heap.objs.size
  ·exact av.keep b ob (by refine B q ?_;exact fw) e
  ·refine(dZ.uI b ah q).elim fun hF ci=> ?_
   have t8:=vA.bL _ _ (aL _ _ ci)
   refine B (Option.some.inj (e.symm.trans (M b hF t8))) ?_;exact O b _ (av.bL _ _ t8)
end
end Mine
end
section
open PySem PySem.W PySem.Calls PyProof.Rows
namespace Mine
section
variable{w:World} {CM:cp} {bj:dM} {F:Frag} {K:Top} {env d9:Env} {J aW:Scope} {A:Around} {E:Value->Shared->Prop} {ρ ρ₀ aT ρ':a5} {s db a7 az:Shared} {fs fs' fs₁:X} {R:bk}
theorem QV {h:Heap} {a:Addr} {l:List H} (q:dR w CM ρ h a (.am l)):∃vs,h.PlainList a (Array.mk vs)/\a8 w CM ρ l vs:=by
 refine hq q ?_;clear q;intro vs n M O
 exact⟨vs,⟨n,M⟩,O⟩
theorem TR {h:Heap} {a:Addr} {l:List H} {vs:Array Value} (q:h.PlainList a vs) (r:a8 w CM ρ l vs.toList):dR w CM ρ h a (.am l):=by
 refine bT q ?_;clear q;intro n M
 exact⟨vs.toList,n,M,r⟩
structure Xc (w:World) (CM:cp) (K:Top) (d9:Env) (aW:Scope) (R:bk) (ρ:a5) (s:Shared) (x:Str) (ifs:List Expr) (elt:Expr) (items cl:List H) (kH:X) (cB:Nat->Heap->Prop) (D:Addr) (i:Nat) (gl:a5) (t:Shared) (ha:X) (cn po:List H):Prop where
 aR:i<=items.length
 go:gd R x ifs elt (items.drop i) ha=some (po,kH)
 cl:cn++po=cl
 dI:cr w CM K d9 aW (bo ρ) s gl t ha
 dj:gl s.heap.objs.size=.aU
 QC:gl D=.aU
 PZ:dR w CM gl t.heap D (.am cn)
 ao:cB i t.heap
 len:cn.length<=i
theorem Wx (S:cC w CM K d9 aW A R) (ec:d9.locals≠s.heap.objs.size) {elt iter:Expr} {x:Str} {px pos:Pos} {ifs:List Expr} {scope:Scope} {items:List H} {o:Obj} {fp:List Addr} {P:Nat->Value->Prop} {cB:Nat->Heap->Prop} {D:Addr}
  {RR:Result->Shared->Prop} {cl:List H} {wn kH:X}
  (ae:aW.names.lookup x=some .local) (dv:items.length<=a4) (dZ:mE w CM A ρ s items o fp P cB) (qN:bo ρ s.heap.objs.size=.free) (wi:bo ρ D=.free) (nz:D≠s.heap.objs.size)
  (q:gd R x ifs elt items wn=some (cl,kH))
  {q7:a5} {t1:Shared} (a1:cr w CM K d9 aW (bo ρ) s q7 t1 wn) (vl:∀x c,aW.names.lookup x=some .free->d9.cells.lookup x=some c->bo ρ c=.aU)
  (fw:q7 s.heap.objs.size=.aU) (dQ:q7 D=.aU) (tI:dR w CM q7 t1.heap D (.am [])) (eT:cB 0 t1.heap)
  (ga:∀iO u0,cr w CM K d9 aW (bo ρ) s iO u0 kH->iO D=.aU->dR w CM iO u0.heap D (.am cl)->RR (.ok .next) u0):
  codeAny (model aw w) A (.compLoop (.ListComp elt [⟨.Name x px,iter,ifs,0⟩] scope pos) 0 (.ref s.heap.objs.size) (.ref D) d9) RR t1:=by
 obtain⟨e7,j7⟩:∃e7:Nat->Shared->Prop,∀n t,e7 n t↔∃i,n=items.length-i+1/\∃gl ha cn po,Xc w CM K d9 aW R ρ s x ifs elt items cl kH cB D i gl t ha cn po:=⟨_,fun _ _=>Iff.rfl⟩
 refine codeAny_compLoop_tests e7 ?_ (items.length+1) ((j7 _ _).mpr ⟨0,rfl,q7,wn,[],cl,Nat.zero_le _,q,rfl,a1,fw,dQ,tI,eT,Nat.le_refl _⟩)
 intro n t aE
 refine ba ((j7 n t).mp aE) ?_;clear aE;intro i aE h;subst aE
 refine jl h ?_;clear h;intro gl ha cn po C
 have aR:=C.aR;have fc:=C.go;have rM:=C.cl;have pX:=C.dI;have lG:=C.dj;have vM:=C.QC;have Ge:=C.PZ;have BQ:=C.ao;have ir:=C.len;clear C
 have CA:∀x c,aW.names.lookup x=some .free->d9.cells.lookup x=some c->c≠s.heap.objs.size:=fun x c M O q=>by have:=vl x c M O;(replace this:=q▸this;replace this:=qN▸this);cases this
 have N3:∀x c,aW.names.lookup x=some .free->d9.cells.lookup x=some c->c≠D:=fun x c M O q=>by have:=vl x c M O;(replace this:=q▸this;replace this:=wi▸this);cases this
 have rL:∀b∈fp,b≠s.heap.objs.size->∃ob,bo ρ b=.be ob:=fun b ah aE=>let⟨ob,e⟩:=dZ.uI b ah aE;⟨ob,mh.mpr e⟩
 by_cases cz:i<items.length
 ·refine dZ.k8.item i t _ _ cz BQ fun v bw kv iQ mL lU=> ?_
  have rm:∀b ob,b≠s.heap.objs.size->t.heap.get? b=some ob->bw.get? b=some ob:=fun b ob ah e=>lU b ob (fun q=>ah (List.mem_singleton.mp q)) e
  refine j3 (pX.dI.eL (tk:=kv) lG CA rm) ?_;intro aZ a0 kp mb rZ
  refine bT (dZ.vb _ _ mL) ?_;intro pB zT
  have sA:=rZ (fun q=>Z (q.symm.trans zT))
  have lj:=a0 qN pX.ext
  have CP:eL gl s.heap.objs.size bw D=.aU:=by refine B (mb D nz (bI vM)) ?_;exact vM
  have RC:dR w CM (eL gl s.heap.objs.size bw) bw D (.am cn):=Ge.bu (fun a ob e=>by refine B (mb a (d6 e lG) (bI e)) ?_;exact e) (fun a k e=>by refine B (mb a (d6 e lG) (bI e)) ?_;exact e) fun ob e=>rm D ob nz e
  refine ba (dZ.bf i v cz iQ) ?_;intro eR qc sg
  have Pn:items.drop i=eR::items.drop (i+1):=by
   refine B (List.drop_eq_getElem_cons cz) ?_
   replace qc:=(List.getElem?_eq_getElem cz)▸qc
   refine oa qc ?_;clear qc;intro u;subst u;rfl
  replace fc:=Pn▸fc
  have Ts:bY w CM (eL gl s.heap.objs.size bw) eR v:=bY.bu lj.bL lj.per sg.bo
  have TZ:eQ aW x (.U eR) ha=some {ha with loc:=bX x (.U eR) ha.loc}:=by show br _ _=_;refine B ae ?_;rfl
  have nO:∀{iq fQ:a5} {iF fA:Shared},a2 (bo ρ) s iq iF->iq s.heap.objs.size=.aU->a2 iq iF fQ fA->(∀a ob,iq a=.be ob->iF.heap.get? a=some ob)->(∀a ob,fQ a=.be ob->fA.heap.get? a=some ob)->cB (i+1) iF.heap->cB (i+1) fA.heap:=dZ.Ah fun b ob e=>mh.mpr e
  refine wpAny_assign_Name (rT TZ aZ Ts fun b9 dJ jh cP ca oO qw=> ?_)
  have mn:=lj.trans ca
  have xV:∀a y,b9 a=.aD y->bo ρ a=.free:=fun a y e=>pX.gA a y (kp a y (oO a y e))
  have nb:=ca.aU _ sA
  have sR:=ca.aU _ CP
  have y7:dR w CM b9 dJ D (.am cn):=RC.bu ca.bL ca.per fun ob e=>ca.keep D ob CP e
  have sb:cB (i+1) dJ:=nO lj sA ca aZ.base.bL cP.base.bL mL
  have cJ:∀{fQ:a5} {fA:Shared} {U:X} {hj C1:List H},aK w CM K d9 aW fQ fA U->a2 (bo ρ) s fQ fA->(∀a y,fQ a=.aD y->bo ρ a=.free)->fQ s.heap.objs.size=.aU->fQ D=.aU->dR w CM fQ fA.heap D (.am hj)->cB (i+1) fA.heap->hj.length<=i+1->
    gd R x ifs elt (items.drop (i+1)) U=some (C1,kH)->hj++C1=cl->∃m,m<items.length-i+1/\e7 m fA:=fun tn tM xE uH tW zm xl bC Wy yX=>
   ⟨items.length-(i+1)+1,by exact XV cz,(j7 _ _).mpr ⟨i+1,rfl,_,_,_,_,cz,Wy,yX,⟨tn,tM,xE⟩,uH,tW,zm,xl,bC⟩⟩
  have Fa:∀{fQ:a5} {fA:Shared} {U:X},aK w CM K d9 aW fQ fA U->a2 (bo ρ) s fQ fA->(∀a y,fQ a=.aD y->bo ρ a=.free)->fQ s.heap.objs.size=.aU->fQ D=.aU->dR w CM fQ fA.heap D (.am cn)->cB (i+1) fA.heap->
    (ob (d2 R elt U) fun y fs₂=>ob (gd R x ifs elt (items.drop (i+1)) fs₂) fun cl fs₃=>some (y::cl,fs₃))=some (po,kH)->
    wpAny (model aw w) A (eval elt d9) (fun y mv=>wpAny (model aw w) A (call (.builtin "list.append") [.ref D,y]) (fun _ v6=>∃m,m<items.length-i+1/\e7 m v6) (notedBy (model aw w) A d9 fun e az=>RR (.error e) az) mv) (notedBy (model aw w) A d9 fun e az=>RR (.error e) az) fA:=fun{fQ fA U} tn tM xE uH tW zm xl bi=>by
   refine b6 bi ?_ Z;clear bi;intro y fs₂ aQ bi
   refine b6 bi ?_ Z;clear bi;intro Ye fs₃ ME bi
   cases(bi)
   refine rE S aQ tn fun mX mv wu tL kZ QI KX=> ?_
   have F6:=kZ.aU _ tW
   have MM:=kZ.aU _ uH
   have Oe:dR w CM wu mv.heap D (.am cn):=zm.bu kZ.bL kZ.per fun ob e=>kZ.keep D ob tW e
   have Pj:=nO tM uH kZ tn.base.bL tL.base.bL xl
   obtain⟨vs,gs,i6⟩:=QV Oe
   have bC:=i6.length
   refine wpAny_list_append_plain gs (fun Fi G8 zv=> ?_) (by simp only [List.size_toArray];refine B bC ?_;have:=iP;exact Vl dv ir cz this)
   have Th:Fi.get? D≠none:=by obtain⟨n,e⟩:=G8;refine B e ?_;nofun
   have NI:dR w CM wu Fi D (.am (cn++[y])):=TR G8 (by simpa using i6.append (a8.cons KX a8.nil))
   refine cJ (tL.hL (tk:=mv.toks) F6 N3 zv Th) ((tM.trans kZ).hL wi zv) (fun a y e=>xE a y (QI.gu a y e)) MM F6 NI ?_ (by simp;exact Ra ir) ME (by refine bt rM ?_;simp)
   refine dZ.k8.frame _ _ _ Pj fun b ah ob e=>(zv.2 b (fun q=> ?_)).trans e
   by_cases bn:b=s.heap.objs.size
   ·exact nz (q.symm.trans bn)
   ·exact(rL b ah bn).elim fun hF ci=>cV.noConfusion (wi.symm.trans ((congrArg (bo ρ) q).symm.trans ci))
  refine b6 fc (fun b fs₁ hc fc=> ?_) Z
  cases ifs with
  |nil=>
   refine wpAny_pure ?_
   refine B (if_pos rfl) ?_
   cases hc
   exact Fa cP mn xV nb sR y7 sb fc
  |cons c ifs=>cases ifs with
   |cons _ _=>exact Z hc
   |nil=>
    rw [List.forIn_cons]
    refine wpAny_bind ?_
    refine B (if_pos rfl) ?_
    refine wpAny_bind (S.mg hc cP fun jQ jO gY eo ku=>wpAny_pure ?_)
    cases b with
    |true=>
     refine wpAny_pure ?_
     refine B (if_pos rfl) ?_
     exact Fa gY (mn.trans eo) (fun a y e=>xV a y (ku.gu a y e)) (eo.aU _ nb) (eo.aU _ sR) (y7.bu eo.bL eo.per fun ob e=>eo.keep D ob sR e) (nO mn nb eo cP.base.bL gY.base.bL sb) fc
    |false=>
     refine wpAny_pure ?_
     refine B (if_neg Bool.false_ne_true) ?_
     exact cJ gY (mn.trans eo) (fun a y e=>xV a y (ku.gu a y e)) (eo.aU _ nb) (eo.aU _ sR) (y7.bu eo.bL eo.per fun ob e=>eo.keep D ob sR e) (nO mn nb eo cP.base.bL gY.base.bL sb) (Nat.le_succ_of_le ir) fc rM
 ·have xY:i=items.length:=by exact QZ aR cz
  subst xY
  refine dZ.k8.done t _ _ BQ fun bw kv lU=> ?_
  replace fc:=List.drop_length▸fc
  refine zE fc ?_;clear fc;intro u v;subst u;subst v
  replace rM:=(List.append_nil _)▸rM
  subst rM
  have rm:∀b ob,b≠s.heap.objs.size->t.heap.get? b=some ob->bw.get? b=some ob:=fun b ob ah e=>lU b ob (fun q=>ah (List.mem_singleton.mp q)) e
  obtain⟨aZ,a0,kp,mb,rZ⟩:=pX.dI.eL (tk:=kv) lG CA rm
  refine ga _ _ ⟨aZ,a0 qN pX.ext,fun a y e=>pX.gA a y (kp a y e)⟩ (by refine B (mb D nz (bI vM)) ?_;exact vM) ?_
  exact Ge.bu (fun a ob e=>by refine B (mb a (d6 e lG) (bI e)) ?_;exact e) (fun a k e=>by refine B (mb a (d6 e lG) (bI e)) ?_;exact e) fun ob e=>rm D ob nz e
end
end Mine
end
section
open PySem PySem.W PySem.Calls PyProof.Rows
namespace Mine
section
variable{w:World} {CM:cp} {bj:dM} {F:Frag} {K:Top} {env d9:Env} {J aW:Scope} {A:Around} {E:Value->Shared->Prop} {ρ ρ₀ aT ρ':a5} {s db a7 az:Shared} {fs fs' fs₁:X} {R:bk}
theorem Us {eF:List (Str×Addr)} {C:Addr} {fj:Heap} {tk:Nat} (I:aK w CM K env J ρ s fs) (hc:y0 J aW) (fa:∀n c,eF.lookup n=some c->env.cells.lookup n=some c) (oL:∀n,aW.names.lookup n=some .free->∃c,eF.lookup n=some c)
  (ag:∀b o,s.heap.get? b=some o->fj.get? b=some o) (ck:ρ C=.free) (eA:fj.Ns C fun _=>none):
  cr w CM K (compEnvC aW eF C env) aW (bo ρ) s (cx (bQ (bo ρ) fj) C .frame) {s with heap:=fj,toks:=tk} ⟨ls aW fs.loc,fs.per⟩/\
  (∀x c,aW.names.lookup x=some .free->(compEnvC aW eF C env).cells.lookup x=some c->bo ρ c=.aU):=by
 have zL:bo ρ C=.free:=gQ.mpr ck
 have nV:cM w CM K (bQ (bo ρ) fj) {s with heap:=fj,toks:=tk} fs.per:=I.base.bo.dF ag
 refine dG (id eA) ?_;intro F7 Yi Yz lN Uj _
 have t9:bQ (bo ρ) fj C=.aU:=gF zL lN
 have f3:∀{a:Addr},bQ (bo ρ) fj a≠.aU->a≠C:=fun h q=>h (by refine B q ?_;exact t9)
 have aB:∀a o,bQ (bo ρ) fj a=.be o->cx (bQ (bo ρ) fj) C .frame a=.be o:=fun a o e=>(bp (f3 (bI e))).trans e
 have an:∀a o,bQ (bo ρ) fj a=.per o->cx (bQ (bo ρ) fj) C .frame a=.per o:=fun a o e=>(bp (f3 (bI e))).trans e
 have aD:∀a y,cx (bQ (bo ρ) fj) C .frame a≠.aD y:=fun a y e=>by
  by_cases q:a=C
  ·(replace e:=q▸e;replace e:=dK▸e);cases e
  ·replace e:=(bp q)▸e;exact(hX ρ a).1 y (gb.mp e)
 have SX:cM w CM K (cx (bQ (bo ρ) fj) C .frame) {s with heap:=fj,toks:=tk} fs.per:=nV.qi fun a=>by
  by_cases q:a=C
  ·subst q;(refine B dK ?_;refine B t9 ?_);exact .inr ⟨trivial,trivial,fun _=>trivial⟩
  ·exact .inl (bp q)
 have wP:∀n,aW.names.lookup n=some .free->J.names.lookup n=some .cell:=fun n h=>hc.c0 n (mem_of_lookup h)
 have sN:∀x c,aW.names.lookup x=some .free->eF.lookup x=some c->bo ρ c=.aU:=fun x c M O=>by
  refine dN (I.cells x (wP x M)) ?_;intro c' v bZ bn _
  replace bZ:=(fa x c O)▸bZ;cases bZ
  exact congrArg e2 bn
 have ej:a2 (bo ρ) s (bQ (bo ρ) fj) {s with heap:=fj,toks:=tk}:=a2.dF ag
 refine⟨⟨⟨SX,⟨?_,I.c2.u9,I.c2.lg,fun x h=> ?_,fun x h=> ?_,fun x h=> ?_,fun x h=> ?_⟩,dK,⟨_,eA⟩,fun x bh h=> ?_,fun x h=> ?_,fun x c M O=> ?_,fun x y c M O=> ?_,fun a x e=>absurd e (aD a x),fun a b x e _=>absurd e (aD a x)⟩,ej.kX zL,fun a x e=>absurd e (aD a x)⟩,sN⟩
 ·show(relabel aW env).kind=.function
  exact hc.kind
 ·exact lookup_relabel_local h
 ·exact absurd rfl (hc.cell _ (mem_of_lookup h))
 ·exact xJ h I.c2.kind (I.c2.ff x (wP x h))
 ·exact Bt h
 ·obtain⟨M,v,rfl,O⟩:=QE h
  refine ba (I.eZ x _ O) ?_;intro val Y aC
  have vI:=wP x M
  refine⟨val,?_,(bY.bo aC).bu (fun a o e=>aB a o (ej.bL a o e)) fun a o e=>an a o (ej.per a o e)⟩
  rcases Y with⟨bV,_⟩|⟨bV,cD,c,cZ,dX⟩
  ·replace bV:=vI▸bV;cases bV
  ·refine bT (oL x M) ?_;intro c' o4
   have:=fa x c' o4
   replace this:=cZ▸this;cases(this)
   exact .inr ⟨.inr M,xJ M I.c2.kind (I.c2.ff x vI),c,o4,dX.keeps ag⟩
 ·exact absurd rfl (hc.cell _ (mem_of_lookup h))
 ·have hd:=sN x c M O
  refine B (bp (fun q=>by rw [q,zL] at hd;cases hd)) ?_
  exact ej.aU c hd
 ·exact I.apart x y c (fa x c M) (fa y c O)
theorem Cy (S:∀d9,cC w CM K d9 aW A R) {elt iter:Expr} {x:Str} {px pos:Pos} {ifs:List Expr} {items:List H} {o:Obj} {fp:List Addr} {P:Nat->Value->Prop} {cB:Nat->Heap->Prop}
  {RR:Value->Addr->Result->Shared->Prop} {cl:List H} {kH:X} {eF:List (Str×Addr)}
  (ae:aW.names.lookup x=some .local) (dv:items.length<=a4) (hc:y0 J aW) (fa:∀n c,eF.lookup n=some c->env.cells.lookup n=some c) (oL:∀n,aW.names.lookup n=some .free->∃c,eF.lookup n=some c)
  (I:aK w CM K env J ρ s fs) (dZ:mE w CM A ρ s items o fp P cB) (q:gd R x ifs elt items ⟨ls aW fs.loc,fs.per⟩=some (cl,kH))
  (cW:∀ρ' az D C m,aK w CM K env J ρ' az {fs with per:=kH.per}->a2 ρ s ρ' az->ce ρ fs.loc ρ' fs.loc->ρ D=.free->ρ' D=.aU->dR w CM ρ' az.heap D (.am cl)->ρ C=.free->ρ' C=.aU->C≠D->az.heap.Ns C m->RR (.ref D) C (.ok .next) az):
  wpAny (model aw w) A (newList []) (fun cn jQ=>wpAny (model aw w) A (newFunctionEnv aW env.globals eF [] env.qual none .none (some env)) (fun d9 mv=>
   codeAny (model aw w) A (.compStart (.ListComp elt [⟨.Name x px,iter,ifs,0⟩] aW pos) 0 (.ref s.heap.objs.size) cn {d9 with scope:=relabel aW env}) (RR cn d9.locals) mv) E jQ) E {s with heap:=s.heap.push o}:=by
 have h6:∀a,s.heap.objs.size<=a->ρ a=.free:=fun a bz=>(I.base.c0 a).mpr (by
  cases e:s.heap.get? a with
  |none=>rfl
  |some oy=>exact absurd (Heap.lt_size e) (Nat.not_lt.mpr bz))
 refine wpAny_newObj_type (wpAny_newFunctionEnv hc.cell (by intro y aQ;simp at aQ) (fun bw td ro=> ?_) hc.kind)
 dsimp only at td ro|-
 generalize tu:s.heap.push o=fZ at td ro|-
 have dQ:fZ.objs.size=s.heap.objs.size+1:=by(refine bt tu ?_;refine B (Heap.size_push _ _) ?_;rfl)
 generalize wo:fZ.push {cls:=.type "list",dict:=none,data:=.seq ([]:List Value).toArray}=gm at td ro|-
 have ck:gm.objs.size=s.heap.objs.size+2:=by(refine bt wo ?_;refine B (Heap.size_push _ _) ?_;refine B dQ ?_;rfl)
 have nz:fZ.objs.size≠s.heap.objs.size:=by refine B dQ ?_;exact Nat.succ_ne_self _
 have sY:fZ.objs.size≠gm.objs.size:=by(refine B dQ ?_;refine B ck ?_);exact Nat.ne_of_lt (Nat.lt_succ_self _)
 have yH:s.heap.objs.size≠gm.objs.size:=by refine B ck ?_;exact Nat.ne_of_lt (Nat.lt_succ_of_lt (Nat.lt_succ_self _))
 have up1:∀b ob,fZ.get? b=some ob->b≠gm.objs.size->bw.get? b=some ob:=fun b ob e ah=>ro.extBut b ob ah (Heap.get?_push_of_some _ (wo▸Heap.get?_push_of_some _ e))
 have IL:∀b ob,s.heap.get? b=some ob->bw.get? b=some ob:=fun b ob e=>by
  have cz:b<s.heap.objs.size:=Heap.lt_size e
  exact up1 b ob (tu▸Heap.get?_push_of_some _ e) (Nat.ne_of_lt (by refine B ck ?_;exact Nat.lt_succ_of_lt (Nat.lt_succ_of_lt cz)))
 have MO:fZ.get? s.heap.objs.size=some o:=by refine bt tu ?_;exact Heap.get?_push_size _ dZ.eW
 have GU:bw.get? fZ.objs.size=some (mq [] 0):=ro.extBut _ _ sY (Heap.get?_push_of_some _ (wo▸Heap.get?_push_size _ rfl))
 have fI:ρ s.heap.objs.size=.free:=h6 _ (Nat.le_refl _)
 have nj:ρ fZ.objs.size=.free:=h6 _ (by refine B dQ ?_;exact Nat.le_succ _)
 have ji:ρ gm.objs.size=.free:=h6 _ (by refine B ck ?_;exact Nat.le_add_right _ _)
 have eA:bw.Ns gm.objs.size fun _=>none:=by
  have:=td
  simpa using this
 refine cm (Us (tk:=s.toks+([]:List (Str×Value)).length) I hc fa oL IL ji eA) ?_;intro a1 vl
 have mL:cB 0 bw:=dZ.k8.frame _ _ _ dZ.ao fun b ah ob e=>by
  have ci:fZ.get? b=some ob:=by refine bt tu ?_;exact e
  refine up1 b ob ci (fun q=> ?_)
  have:=Heap.lt_size ci
  (replace this:=q▸this;replace this:=ck▸this;replace this:=dQ▸this)
  exact absurd this (Nat.not_lt.mpr (Nat.le_succ _))
 have Rn:cx (bQ (bo ρ) bw) gm.objs.size .frame s.heap.objs.size=.aU:=by refine B (bp yH) ?_;exact gF (gQ.mpr fI) (up1 _ _ MO yH)
 have Sj:cx (bQ (bo ρ) bw) gm.objs.size .frame fZ.objs.size=.aU:=by refine B (bp sY) ?_;exact gF (gQ.mpr nj) GU
 have GZ:codeAny (model aw w) A (.compLoop (.ListComp elt [⟨.Name x px,iter,ifs,0⟩] aW pos) 0 (.ref s.heap.objs.size) (.ref fZ.objs.size) (compEnvC aW eF gm.objs.size env)) (RR (.ref fZ.objs.size) gm.objs.size) {s with heap:=bw,toks:=s.toks+([]:List (Str×Value)).length}:=by
  refine Wx (S _) (Ne.symm yH) ae dv dZ (gQ.mpr fI) (gQ.mpr nj) nz q a1 vl Rn Sj ⟨[],0,GU,a8.nil⟩ mL fun iO u0 q5 LX qI=> ?_
  refine eg (cr.tO (K:=K) (K':=K) rfl rfl (fun _ h=>h) q5 (hX ρ)) ?_;intro cS dA l4
  refine eg (I.q4 cS dA l4) ?_;intro e7 l0 l6
  have Ih:fh ρ (bo iO) gm.objs.size=.stack:=(kI (gQ.mpr ji)).trans (by
   have:iO gm.objs.size=.frame:=q5.dI.cL
   exact congrArg e2 this)
  have Uq:fh ρ (bo iO) fZ.objs.size=.aU:=(kI (gQ.mpr nj)).trans (nD LX)
  have OF:gm.objs.size∉K.frames:=fun h=>by have:=(I.base.fl _ h).1;replace this:=ji▸this;exact this
  have lK:=e7.drop Ih OF
  refine bT q5.dI.fv ?_;intro m aY
  have Ws:∀a ob,iO a=.be ob->cx (fh ρ (bo iO)) gm.objs.size .aU a=.be ob:=fun a ob e=>by
   have b1:a≠gm.objs.size:=fun q=>by have:iO gm.objs.size=.frame:=q5.dI.cL;(replace e:=q▸e;replace e:=this▸e);cases e
   refine B (bp b1) ?_;exact(pD dA).1 a ob (mh.mpr e)
  have Xd:∀a k,iO a=.per k->cx (fh ρ (bo iO)) gm.objs.size .aU a=.per k:=fun a ob e=>by
   have b1:a≠gm.objs.size:=fun q=>by have:iO gm.objs.size=.frame:=q5.dI.cL;(replace e:=q▸e;replace e:=this▸e);cases e
   refine B (bp b1) ?_;exact(pD dA).2 a ob (nw.mpr e)
  exact cW _ _ _ _ m lK (l0.kX ji) (l6.kX ji (by nofun)) nj (by refine B (bp sY) ?_;exact Uq) (qI.bu Ws Xd fun _ e=>e) ji dK (Ne.symm sY) aY
 exact codeAny_compStart_list GZ (dZ.k8.self 0 _ _ _ mL GZ)
theorem Qj (bl:jB CM bj F) (bA:K.f=F) (bc:f5 K A) (wS:cC w CM K env J A v3) (S:∀d9,cC w CM K d9 aW A R) {elt iter:Expr} {x:Str} {px pos:Pos} {ifs:List Expr} {items cl:List H} {fs₁ fs₂:X}
  (bZ:hy v3 J iter fs=some (items,fs₁)) (dv:items.length<=a4) (ae:aW.names.lookup x=some .local) (hc:oK J aW=true) (bn:gd R x ifs elt items {fs₁ with loc:=ls aW fs₁.loc}=some (cl,fs₂)) (I:aK w CM K env J ρ s fs):
  wpAny (model aw w) A (eval (.ListComp elt [⟨.Name x px,iter,ifs,0⟩] aW pos) env) (b4 w CM K env J ρ s fs (.b5 (.am cl)) {fs₁ with per:=fs₂.per}) cf s:=by
 refine cm (xq bl bA bc wS bZ I) ?_;intro q3 lh
 have lH:=Be hc
 obtain⟨eF,x7,fa,oL⟩:=Ch (env:=env) (scope:=aW) (fun n k aY ag=>by
  subst ag
  refine hq (I.cells n (lH.c0 n aY)) ?_;intro c v M _
  exact⟨c,M⟩)
 rw [eval_ListComp]
 refine wpAny_comprehension_free (use:=none) rfl q3 x7 lH.kind lH.loc (wpAny_mono lh (fun eR aj bw=>wpAny_mono bw (fun dj cu dJ=> ?_) fun _ _ e=>e) fun _ _ e=>e)
 obtain⟨aN,nu,o,fp,P,cB,rfl,rfl,aZ,a0,bv,dZ⟩:=dJ
 refine Cy S ae dv lH fa oL aZ dZ bn (RR:=fun cn C=>compPost (model aw w) A cf none _ cn C) fun ρ' az D C m e7 l0 l6 nj tU aq ji rj vy aY=> ?_
 refine⟨m,aY,fun h' hs=> ?_⟩
 refine j3 (e7.eL (h':=h') (tk:=az.toks) rj (h4 aZ ji) fun b ob ah e=>(hs.2 b ah).trans e) ?_;intro lK ua dA jo _
 have yB:∀a,ρ' a≠.aU->ρ' a≠.free->eL ρ' C h' a=ρ' a:=fun a M O=>jo a (fun q=>M (by refine B q ?_;exact rj)) O
 refine⟨eL ρ' C h',lK,ua (a0.h3 _ ji) (a0.trans l0),?_,D,rfl,a0.h3 _ nj,(jo D (Ne.symm vy) (bI tU)).trans tU,?_⟩
 ·have nC:=bv.trans l6
  refine⟨nC.U,fun a y e=> ?_,fun a y e=>nC.gu a y (dA a y e)⟩
  rcases nC.aD a y e with h|h
  ·exact .inl ((yB a (bI h) (bI h)).trans h)
  ·exact .inr h
 ·exact aq.bu (fun a ob e=>(yB a (bI e) (bI e)).trans e) (fun a ob e=>(yB a (bI e) (bI e)).trans e) fun ob e=>(hs.2 D (Ne.symm vy)).trans e
theorem SW (bl:jB CM bj F) (bA:K.f=F) (bc:f5 K A) (wS:cC w CM K env J A v3) (S:∀d9,cC w CM K d9 aW A R) {elt iter:Expr} {x y:Str} {px je pos o6:Pos} {ifs:List Expr} {items cl:List H} {fs₁ fs₂ fs₃:X}
  (sy:swapsWith (.ListComp elt [⟨.Name x px,iter,ifs,0⟩] aW pos) (some (.Name y je)) o6.line env=pure true)
  (bZ:hy v3 J iter fs=some (items,fs₁)) (dv:items.length<=a4) (ae:aW.names.lookup x=some .local) (hc:oK J aW=true) (bn:gd R x ifs elt items {fs₁ with loc:=ls aW fs₁.loc}=some (cl,fs₂))
  (ef:eQ J y (.b5 (.am cl)) {fs₁ with per:=fs₂.per}=some fs₃) (a1:cr w CM K env J aT a7 ρ s fs):
  wpAny (model aw w) A (exec (.Assign [.Name y je] (.ListComp elt [⟨.Name x px,iter,ifs,0⟩] aW pos) o6) env) (ed w CM K env J aT a7 ρ s .next fs₃) cf s:=by
 obtain⟨I,ug,gA⟩:=a1
 refine cm (xq bl bA bc wS bZ I) ?_;intro q3 lh
 have lH:=Be hc
 obtain⟨eF,x7,fa,oL⟩:=Ch (env:=env) (scope:=aW) (fun n k aY ag=>by
  subst ag
  refine hq (I.cells n (lH.c0 n aY)) ?_;intro c v M _
  exact⟨c,M⟩)
 refine B (exec_Assign_Name_used _ _ _ _ sy) ?_
 refine wpAny_bind (wpAny_standAt (wpAny_bind ?_))
 show wpAny _ A (do let _<-comprehension (.ListComp elt [⟨.Name x px,iter,ifs,0⟩] aW pos) aW env _ (newList []) false (eval iter env) (some (assign (.Name y je) env))) _ _ s
 refine wpAny_bind (wpAny_mono (wpAny_comprehension_free (use:=some (assign (.Name y je) env)) (Q:=fun _ az=>ed w CM K env J aT a7 ρ s .next fs₃ .next az) rfl q3 x7 lH.kind lH.loc
  (wpAny_mono lh (fun eR aj bw=>wpAny_mono bw (fun dj cu dJ=> ?_) fun _ _ e=>e) fun _ _ e=>e)) (fun _ az aA=>wpAny_pure (wpAny_pure aA)) fun _ _ e=>e)
 obtain⟨aN,nu,o,fp,P,cB,rfl,rfl,aZ,a0,bv,dZ⟩:=dJ
 refine Cy S ae dv lH fa oL aZ dZ bn (RR:=fun cn C=>compPost (model aw w) A cf (some (assign (.Name y je) env)) (fun _ az=>ed w CM K env J aT a7 ρ s .next fs₃ .next az) cn C) fun ρ' az D C m e7 l0 l6 nj tU aq ji rj vy aY=> ?_
 have Pr:=a0.h3 _ nj
 have GX:=a0.h3 _ ji
 have hA:=a0.trans l0
 show wpAny _ A (assign (.Name y je) env (.ref D)) _ _ _
 refine wpAny_assign_Name (Gl (ρ₀:=ρ) ef e7 ⟨D,rfl,Pr,tU,aq⟩ (fun a aL x c M O=>h4 I aL x c M O) fun b9 dJ jh cP ca oO qw pQ=> ?_)
 have ve:dJ.Ns C m:=by obtain⟨o,es,cs,gr,gK⟩:=aY;exact⟨o,es,cs,qw _ _ rj gr,gK⟩
 have TH:=pQ C rj (fun q=>vy (by injection q with q;exact q.symm))
 refine⟨m,ve,fun h' hs=> ?_⟩
 have JC:a2 aT a7 b9 {az with heap:=dJ,toks:=jh}:=by
  rcases ca with ca|ca
  ·exact(ug.trans hA).trans ca
  ·exact ug.trans (ca _ hA)
 refine j3 (cP.eL (h':=h') (tk:=jh) TH (h4 aZ ji) fun b ob ah e=>(hs.2 b ah).trans e) ?_;intro lK ua dA jo _
 have Ul:a2 ρ s b9 {az with heap:=dJ,toks:=jh}:=by
  rcases ca with ca|ca
  ·exact hA.trans ca
  ·exact ca _ hA
 refine⟨rfl,eL b9 C h',⟨lK,ua (ug.h3 _ GX) JC,fun a z e=> ?_⟩,ua GX Ul⟩
 rcases oO a z (dA a z e) with h|h
 ·exact gA a z (bv.gu a z (l6.gu a z h))
 ·exact ug.h3 _ h
end
end Mine
end
section
open PySem PySem.W PySem.Calls PyProof.Rows
namespace Mine
structure o9 (CM:cp) (bj:dM) (F:Frag):Prop extends uc CM bj F where
 inh:∃a n nR n1 n7 s6,hv F "INHERITED"=some (.ref a)/\F.lookup a=some (qk [.str "Resources" nR,.str "MediaBox" n1,.str "CropBox" n7,.str "Rotate" s6] n)
 Ai:∃t,hv F "MOST_HOPS"=some (.int 30 t)
section
variable{w:World} {CM:cp} {bj:dM} {F:Frag} {K:Top} {env d9:Env} {J aW:Scope} {A:Around} {E:Value->Shared->Prop} {ρ ρ₀ aT ρ':a5} {s db a7 az:Shared} {fs fs' fs₁:X} {R:bk} {C:ct} {k:Nat}
theorem ek.Al {k:Nat} (bc:ek K k A):A.units+eG<cLine:=Nat.lt_of_le_of_lt (by refine B (Nat.add_assoc _ _ _) ?_;exact Nat.add_le_add_left (Nat.le_trans (by decide:eG<=400) (Nat.le_add_left _ _)) _) bc.units
theorem VU (bl:o9 CM bj F) (bA:K.f=F) {x:Str} {pos:Pos} {v:H} (ae:J.names.lookup x=some .globalImplicit) (q:Ce x=some v) (I:aK w CM K env J ρ s fs):
  wpAny (model aw w) A (eval (.Name x pos) env) (b4 w CM K env J ρ s fs (.U v) fs) cf s:=by
 subst bA
 refine g5 q (fun h q=>cG q ?_) fun _ q=>cK q (fun h q=>cG q ?_) Z<;>rw [h] at ae|-
 ·refine Vw bl.inh ?_;intro a n nR n1 n7 s6 M O
  refine nE M ae I.c2 I.in (by decide+kernel) (eu (tk:=s.toks) I ⟨a,_,n,rfl,I.base.fV _ _ O,?_⟩)
  exact a8.cons ⟨_,rfl⟩ (a8.cons ⟨_,rfl⟩ (a8.cons ⟨_,rfl⟩ (a8.cons ⟨_,rfl⟩ a8.nil)))
 ·refine bT bl.Ai ?_;intro t M
  exact nE M ae I.c2 I.in (by decide+kernel) (eu (tk:=s.toks) I ⟨t,rfl⟩)
theorem TM (bl:o9 CM bj F) (bA:K.f=F) (c6:gJ w CM bj F k C) (bc:ek K k A) (S:cC w CM K env J A R) {f:Str} {p pos:Pos} {args:List Expr} {r:aV} (q:pU C R J f args fs=some (r,fs')) (I:aK w CM K env J ρ s fs):
  wpAny (model aw w) A (eval (.Call (.Name f p) args [] pos) env) (b4 w CM K env J ρ s fs r fs') cf s:=by
 have AU:=bl.touc.toxn
 have z8:=AU.topZ
 have k4:=z8.tojB
 refine cK q (fun ae q=>g5 q (fun aB q=> ?_) fun _ q=>g5 q (fun aB q=> ?_) fun _ q=>g5 q (fun _ q=> ?_) fun _ q=>g5 q (fun aB q=> ?_) fun _ q=> ?_) Z
 ·refine b6 q (fun e c bz q=>b6 q (fun gE fs₁ M q=>bG q (fun v O q=>bG q (fun b Y q=>cK q (fun aC q=>b7 q ?_) Z) Z) Z) Z) Z
  rw [aB] at ae|-
  refine bT (Jq bz) ?_;intro ta ak
  refine B ak ?_
  exact I2 z8 bA bc S ae M O Y aC I
 ·refine b6 q (fun vs fs₁ M q=>b6 q (fun a b O q=>b7 q ?_) Z) Z
  rw [aB] at ae|-
  exact KM k4 bA bc S ae (HP O▸M) I
 ·refine bG q (fun e bz q=>b6 q (fun gE fs₁ M q=>bG q (fun v O q=>bG q (fun r' Y q=>b7 q ?_) Z) Z) Z) Z
  refine B (uo bz) ?_
  exact Ig k4 bA bc S ae M O Y I
 ·refine cK q (fun bz q=>b7 q ?_) Z
  rw [aB] at ae|-
  refine B (List.isEmpty_iff.mp bz) ?_
  refine et bl.AW ?_;intro YQ ck bi eY
  refine lr (bA▸bi) ae I (by decide+kernel) (zf S (bA▸eY.keep) (vs:=[]) (fs':=fs) rfl I fun bf aj aN aZ a0 bv ay=> ?_)
  refine B (show bf=[] from ay) ?_
  exact iB a0 bv (M3 k4.totZ.topO bA bc ck eY aZ)
 ·unfold rG at q
  generalize aR:jN f=t at q
  cases t with
  |some names=>exact b6 q (fun vs fs₁ M q=>bG q (fun l hz q=>b7 q (Uy AU bA bc S ae aR M hz I)) Z) Z
  |none=>exact cK q (fun an q=>b6 q (fun vs fs₁ M q=>yV q (fun r' per O q=>b7 q (wpAny_mono (Gf k4.totZ bA c6 bc S an ae M O I) (fun v aj P=>P) fun e aj P=>nomatch P.1)) Z) Z) Z
theorem Md (bl:o9 CM bj F) (bA:K.f=F) {x:Str} {pos:Pos} {r:aV} (q:F8 J x fs=some (r,fs')) (I:aK w CM K env J ρ s fs):
  wpAny (model aw w) A (eval (.Name x pos) env) (b4 w CM K env J ρ s fs r fs') cf s:=
 bG q (fun k ag q=>g5 q (fun ae q=>bG q (fun v ay q=>b7 q (VU bl bA (ae▸ag) ay I)) Z) fun _ q=>yC q fun hd q=>bG q (fun bh aq q=>b7 q (Ot aq (Bool.eq_false_iff.mpr hd) I)) Z) Z
theorem SP (bl:o9 CM bj F) (bA:K.f=F) (bc:ek K k A) {cb:Scope->bk} (S:∀env J,cC w CM K env J A (cb J)) {elt:Expr} {gens:List Comprehension} {aW:Scope} {pos:Pos} {r:aV} (q:yx cb J elt gens aW fs=some (r,fs')) (I:aK w CM K env J ρ s fs):
  wpAny (model aw w) A (eval (.ListComp elt gens aW pos) env) (b4 w CM K env J ρ s fs r fs') cf s:=by
 refine bG q (fun g bi q=>b6 q (fun items fs₁ M q=>cK q (fun hz q=>b6 q (fun cl fs₂ O q=>b7 q ?_) Z) Z) Z) Z
 refine bT (Ev bi) ?_;intro px e
 refine B e ?_
 have hz:=Bool.and_eq_true_iff.mp hz
 have nZ:=Bool.and_eq_true_iff.mp hz.2
 exact Qj bl.touc.toxn.topZ.tojB bA bc.eH (S env J) (fun d9=>S d9 aW) M (of_decide_eq_true hz.1) (beq_iff_eq.mp nZ.1) nZ.2 O I
theorem Wu (S:cC w CM K env J A R) {e i:Expr} {pos:Pos} {r:aV} (q:xU R e i fs=some (r,fs')) (I:aK w CM K env J ρ s fs):
  wpAny (model aw w) A (eval (.Subscript e i pos) env) (b4 w CM K env J ρ s fs r fs') cf s:=by
 unfold xU at q
 generalize hs:nU i=t at q
 cases t with
 |some t=>
  refine b6 q (fun gE fs₁ M q=>b6 q (fun a fs₂ O q=>b6 q (fun b fs₃ Y q=>bG q (fun l aC q=>cK q (fun hz q=>b7 q ?_) Z) Z) Z) Z) Z
  refine bT (Wv hs) ?_;intro p ak
  refine B ak ?_
  exact RM (r':=gE) S M O Y (tx aC) hz I
 |none=>
  refine b6 q (fun gE fs₁ M q=>sf q (fun eJ fs₂ O q=>bG q (fun v Y q=>bG q (fun YS ea q=>b7 q ?_) Z) Z) Z) Z
  exact Subscript_ (S.eM M I fun fd aj aN aZ a0 bv aP=>S.eM O aZ fun l7 cu b9 cP ca dH od=>iB (a0.trans ca) (bv.trans dH) (SY (SC hs) ea cP (hT cP (aP.bu ca dH) Y) (.gf od)))
theorem PS (S:cC w CM K env J A R) {bW:UnaryOp} {x:Expr} {pos:Pos} {r:aV} (q:Dl R bW x fs=some (r,fs')) (I:aK w CM K env J ρ s fs):
  wpAny (model aw w) A (eval (.UnaryOp bW x pos) env) (b4 w CM K env J ρ s fs r fs') cf s:=by
 cases bW with
 |Not=>
  refine FW q (fun b fs₁ M q=>b7 q (wpAny_UnaryOp (S.eM M I fun v aj aN aZ a0 bv aP=> ?_))) Z
  refine B (show v=.bool b from aP) ?_
  exact not_value (wpAny_truthy_bool ⟨aN,aZ,a0,bv,rfl⟩)
 |USub=>
  refine Di q (fun i fs₁ M q=>b7 q (wpAny_UnaryOp (S.eM M I fun v aj aN aZ a0 bv aP=> ?_))) Z
  refine aP.elim fun t e=> ?_
  refine B e ?_
  exact PyProof.Rows.neg_int (b4.trans a0 bv (eu aZ ⟨_,rfl⟩))
 |_=>exact Z q
theorem XF (bl:o9 CM bj F) (bA:K.f=F) (c6:gJ w CM bj F k C) (bc:ek K k A) {cb:Scope->bk} (S:∀env J,cC w CM K env J A (cb J)) {e:Expr} {r:aV} (q:iT C cb J e fs=some (r,fs')) (I:aK w CM K env J ρ s fs):
  wpAny (model aw w) A (eval e env) (b4 w CM K env J ρ s fs r fs') cf s:=by
 have k4:=bl.touc.toxn.topZ.tojB
 have fg:=S env J
 cases e with
 |Constant c kk pos=>exact M0 q I
 |Name x pos=>exact Md bl bA q I
 |BoolOp bW vs pos=>
  cases bW with
  |Or=>exact Z q
  |And=>exact b6 (show(ob (oR (cb J) vs fs) fun b fs₁=>some (.U (.bool b),fs₁))=some (r,fs') from q) (fun b fs₁ M q=>b7 q (by rw [arm_eval_BoolOp];exact Wn fg _ M I)) Z
 |BinOp l bW jn pos=>
  exact b6 q (fun a fs₁ M q=>b6 q (fun b fs₂ O q=>hJ q (fun YO n8 Y aC q=>bG q (fun c bR q=>b7 q (wpAny_BinOp (fg.eM M I fun lJ aj aN aZ a0 bv gE=>fg.eM O aZ fun nP cu b9 cP ca dH uT=>
   iB (a0.trans ca) (bv.trans dH) (SQ bR cP (hT cP (gE.bu ca dH) Y) (hT cP uT aC))))) Z) Z) Z) Z
 |UnaryOp bW x pos=>exact PS fg q I
 |IfExp c a b pos=>
  refine b6 q (fun t fs₁ M q=>wpAny_IfExp (fg.mg M I fun aj aN aZ a0 bv=> ?_)) Z
  cases t with
  |true=>exact iB a0 bv (fg.a9 a fs₁ r fs' q aN aj aZ)
  |false=>exact iB a0 bv (fg.a9 b fs₁ r fs' q aN aj aZ)
 |Dict ks vs pos=>exact b6 q (fun l fs₁ M q=>cK q (fun hz q=>b7 q (RQ (bA▸k4.rH) fg M hz I)) Z) Z
 |List es pos=>exact b6 q (fun vs fs₁ M q=>cK q (fun hz q=>b7 q (H2 fg M hz I)) Z) Z
 |Tuple es kk pos=>exact b6 q (fun vs fs₁ M q=>cK q (fun hz q=>b7 q (Lb fg M hz I)) Z) Z
 |ListComp elt gens aW pos=>exact SP bl bA bc S q I
 |Compare l e0 lF pos=>
  refine b6 q (fun a fs₁ M q=>b6 q (fun b fs₂ O q=>b7 q ?_) Z) Z
  rw [arm_eval_Compare]
  exact wpAny_bind (fg.eM M I fun v aj aN aZ a0 bv aP=>iB a0 bv (Ca fg bc.Al _ O aZ aP).1)
 |Call f args lv pos=>
  refine cK q (fun ag q=> ?_) Z
  refine B (List.isEmpty_iff.mp ag) ?_
  cases f with
  |Attribute o m hO=>
   refine cK q (fun hz q=>b6 q (fun gE fs₁ M q=> ?_) Z) Z
   have hz:=Bool.and_eq_true_iff.mp hz
   have m7:=Bool.and_eq_true_iff.mp hz.1
   exact Kp bl.touc bA c6 bc fg m7.1 m7.2 (of_decide_eq_true hz.2) M q I
  |Name f p=>exact TM bl bA c6 bc fg q I
  |_=>exact Z q
 |Attribute o a pos=>
  refine b6 q (fun gE fs₁ M q=>b6 q (fun c l O q=>cK q (fun hz q=>bG q (fun v ay q=>b7 q ?_) Z) Z) Z) Z
  have hz:=Bool.and_eq_true_iff.mp hz
  exact Attribute_any_ (fg.eM M I fun fd aj aN aZ a0 bv aP=>iB a0 bv (L2 (bA▸k4.totZ.topO.toyJ) aZ (hT aZ aP (O1 O)).dV hz.1 ay)) (by(rw [arm_eval_Attribute];refine B (Ax hz.2) ?_;rfl))
 |Subscript o i pos=>exact Wu fg q I
 |_=>exact Z q
theorem E4 (S:cC w CM K env J A R) {e:Expr} {b:Bool} (an:∀{Q E},wpAny (model aw w) A (eval e env) (fun v aj=>wpAny (model aw w) A (truthy v) Q E aj) E s->wpAny (model aw w) A (isTrue e env (eval e env)) Q E s)
  (q:uQ R e fs=some (b,fs')) (I:aK w CM K env J ρ s fs):
  wpAny (model aw w) A (isTrue e env (eval e env)) (kj w CM K env J ρ s fs b fs') cf s:=
 b6 q (fun r fs₁ bH q=>bG q (fun v b8 q=>bG q (fun gj c9 q=>b7 q (an (S.eM bH I fun fd aj aN aZ a0 bv aP=>sr a0 bv (Nw c9 aZ (hT aZ aP b8))))) Z) Z) Z
theorem RV (bl:o9 CM bj F) (bA:K.f=F) (c6:gJ w CM bj F k C) (bc:ek K k A) {cb:Scope->bk} (S:∀env J,cC w CM K env J A (cb J)) {e:Expr} {b:Bool} (q:r7 cb J e fs=some (b,fs')) (I:aK w CM K env J ρ s fs):
  wpAny (model aw w) A (isTrue e env (eval e env)) (kj w CM K env J ρ s fs b fs') cf s:=by
 have fg:=S env J
 cases e with
 |UnaryOp bW x pos=>
  cases bW with
  |Not=>exact b6 q (fun gj fs₁ M q=>b7 q (wpAny_isTrue_Not (fg.mg M I fun aj aN aZ a0 bv=>⟨rfl,aN,aZ,a0,bv⟩))) Z
  |_=>exact E4 fg (fun h=>isTrue_plain h rfl) q I
 |BoolOp bW vs pos=>exact wpAny_isTrue_BoolOp (L1 fg _ q I)
 |Compare l e0 lF pos=>
  refine b6 q (fun a fs₁ M q=> ?_) Z
  rw [arm_isTrue_Compare]
  exact wpAny_bind (fg.eM M I fun v aj aN aZ a0 bv aP=>sr a0 bv (Ca fg bc.Al _ q aZ aP).2)
 |IfExp c a b pos=>exact Z q
 |_=>exact E4 fg (fun h=>isTrue_plain h rfl) q I
end
end Mine
end
section
open PySem PySem.W PySem.Calls PyProof.Rows
namespace Mine
section
variable{w:World} {CM:cp} {bj:dM} {F:Frag} {K:Top} {env d9:Env} {J aW:Scope} {A:Around} {E:Value->Shared->Prop} {ρ ρ₀ aT ρ':a5} {s db a7 az:Shared} {fs fs' fs₁:X} {R:bk} {C:ct} {k:Nat}
theorem Hy {l:Addr} {vs:List Value} {n:Nat} {i:Int} {t:Tok} {v:Value} {Q:Unit->Shared->Prop} (cq:s.heap.get? l=some (mq vs n)) (aL:0<=i) (Ba:i<2^63) (aE:i.toNat<vs.length)
  (cW:∀h' i5,h'.get? l=some (mq (vs.set i.toNat v) i5)->Heap.SameBut l s.heap h'->Q () {s with heap:=h'}):
  wpAny (model aw w) A (setItem (.ref l) (.int i t) v) Q E s:=by
 have aq:s.heap.IsList l (Array.mk vs):=fy cq
 unfold setItem
 try with_reducible refine wpAny_holding ?_
 first|refine wpAny_bind (wpAny_pure ?_)|skip
 refine wpAny_bind (wpAny_sequenceKey aq.typeIs (by decide) ?_)
 refine wpAny_bind (wpAny_callSpecial?_slot (name:=Str.ofString "__setitem__") aq.typeIs slot_list_setitem
  (wpAny_call_entry slot_list_setitem aq.typeIs entry_list_setitem ?_ (args_list_setitem _ _ _)))
 show wpAny _ _ (Builtin.List.listSubscript? (.int i t)>>=_) _ _ s
 refine wpAny_bind (wpAny_listSubscript_int (fitsIndex_of aL Ba) ?_)
 clear Ba
 refine bT (Int.eq_ofNat_of_zero_le aL) ?_;intro j u;subst u
 have bF:j<(Array.mk vs).size:=by simpa using aE
 have si:(Array.mk vs)[j]? =some (Array.mk vs)[j]:=Array.getElem?_eq_getElem bF
 show wpAny _ _ ((seqItemAt l j>>=fun r=>pure (r.map (j, ·)))>>=_) _ _ s
 refine wpAny_bind (wpAny_bind (wpAny_seqItemAt cq rfl (wpAny_pure ?_)))
 refine B si ?_
 show wpAny _ _ (setSeqItemAt l j v>>=_) _ _ s
 have AC:=get?_update_seq cq (·.setIfInBounds j v)
 have e:(Array.mk vs).setIfInBounds j v=Array.mk (vs.set j v):=by
  apply Array.toList_inj.mp
  simp
 refine wpAny_bind (wpAny_setSeqItemAt cq rfl ?_)
 first
  |exact wpAny_bind (wpAny_pure (wpAny_pure ⟨.none,rfl,wpAny_pure (cW _ _ (by(refine B AC ?_;refine B e ?_);rfl) (Heap.SameBut.update ..))⟩))
  |exact wpAny_pure ⟨.none,rfl,wpAny_pure (cW _ _ (by rw [AC,e];rfl) (Heap.SameBut.update ..))⟩
theorem Qi {base:aV} {c:H} {jF:H->X} {n8:Value} (q:BD base fs=some (c,jF)) (I:aK w CM K env J ρ s fs) (ah:eN w CM ρ₀ ρ s fs base n8):
  ∃a,n8=.ref a/\dR w CM ρ s.heap a c/\∀h' tk c',Heap.SameBut a s.heap h'->dR w CM ρ h' a c'->aK w CM K env J ρ {s with heap:=h',toks:=tk} (jF c')/\a2 ρ s ρ {s with heap:=h',toks:=tk}:=by
 cases base with
 |b5 _=>exact Z q
 |var x=>
  refine bG q (fun v ay q=>b7 q ?_) Z
  have bi:=oX ay
  refine et (ah.sx I bi) ?_;intro a ak ar bP
  exact⟨a,ak,bP,fun h' tk c' hs o4=>⟨(I.qo (tk:=tk) ar bi hs o4).1,(I.qo (tk:=tk) ar bi hs o4).2.1⟩⟩
 |U v=>
  refine bG q (fun k ag q=>bG q (fun y aQ q=>b7 q ?_) Z) Z
  replace ah:=(IQ ag)▸ah
  refine ba ah ?_;clear ah;intro a ak ar
  refine ba (I.base.fT a k ar) ?_;intro x M O
  exact⟨a,ak,Option.some.inj (M.symm.trans aQ)▸O,fun h' tk c' hs o4=>I.Sp ar hs o4⟩
theorem TY {base:aV} {eJ v:H} {n8 l7 qB:Value} {Q:Unit->Shared->Prop} (q:p8 base eJ v fs=some fs') (I:aK w CM K env J ρ s fs) (ah:eN w CM ρ₀ ρ s fs base n8) (ag:bY w CM ρ eJ l7) (ay:bY w CM ρ v qB)
  (h:∀h' tk,aK w CM K env J ρ {s with heap:=h',toks:=tk} fs'->a2 ρ s ρ {s with heap:=h',toks:=tk}->Q () {s with heap:=h',toks:=tk}):
  wpAny (model aw w) A (setItem n8 l7 qB) Q E s:=by
 refine b6 q (fun c jF an q=> ?_) Z
 refine et (Qi an I ah) ?_;intro a u fr AS;subst u;clear an ah
 cases c with
 |V l=>
  refine bG q (fun cX eC q=>cK q (fun hz q=> ?_) Z) Z
  replace h:=(Eq.symm (Option.some.inj q))▸h
  have ho:ix cX l7=true:=cv.key (s:=s) (.gf ag) eC
  refine Fn fr ?_;intro ob es cs aS aL ak ar bP cY dn
  refine eg dn ?_;intro dn fb jA
  refine wpAny_setItem_pairs (knd:=kk w) ho ⟨ob,es,cs,ak,ar,bP,cY,dn,fb⟩ (fun h' sM ft=> ?_) (by refine B jA.length ?_;exact Nat.le_trans hz iP)
  refine pa sM ?_;clear sM;intro hF d4 uZ d8 fG hu kG pW sE
  have z:=AS h' (s.toks+1) (.V (cU cX v l)) ft ⟨hF,d4,uZ,_,aL,d8,fG,hu,kG,pW,sE,jA.set fb ay⟩
  exact h _ _ z.1 z.2
 |am l=>
  refine bG q (fun i aR q=>cK q (fun hz q=> ?_) Z) Z
  replace h:=(Eq.symm (Option.some.inj q))▸h
  have m7:=Bool.and_eq_true_iff.mp hz
  have nZ:=Bool.and_eq_true_iff.mp m7.2
  refine hq fr ?_;intro vs n ak ar
  replace ag:=(jP aR)▸ag
  refine ag.elim fun t u=> ?_;subst u
  refine Hy ak (of_decide_eq_true m7.1) (Int.lt_trans (of_decide_eq_true nZ.1) (by decide)) (by refine B ar.length ?_;exact of_decide_eq_true nZ.2) fun h' i5 bP ft=> ?_
  have z:=AS h' s.toks (.am (l.set i.toNat v)) ft ⟨_,i5,bP,ar.set _ ay⟩
  exact h _ s.toks z.1 z.2
 |_=>exact Z q
theorem mE.draw {items:List H} {o:Obj} {fp:List Addr} {P:Nat->Value->Prop} {cB:Nat->Heap->Prop} (dZ:mE w CM A ρ s items o fp P cB):
  ∀(n i:Nat) (t:Shared) (Q:List Value->Shared->Prop),cB i t.heap->i+n<=items.length->
  (∀vs h' tk,a8 w CM ρ ((items.drop i).take n) vs->cB (i+n) h'->(∀b ob,b≠s.heap.objs.size->t.heap.get? b=some ob->h'.get? b=some ob)->Q vs {t with heap:=h',toks:=tk})->wpAny (model aw w) A (draw (.ref s.heap.objs.size) n) Q E t:=by
 intro n
 induction n with
 |zero=>
  intro i t Q ao qI cW
  exact wpAny_pure (cW [] t.heap t.toks a8.nil ao fun _ _ _ e=>e)
 |succ n ih=>
  intro i t Q ao qI cW
  show wpAny _ _ (pyNext (.ref s.heap.objs.size)>>=_) Q E t
  have cz:i<items.length:=Nat.lt_of_lt_of_le (Nat.lt_add_of_pos_right (Nat.succ_pos n)) qI
  rw [show i+(n+1)=i+1+n from(Nat.add_right_comm i 1 n).symm] at qI cW
  refine wpAny_bind (dZ.k8.item i t _ _ cz ao fun v bw kv iQ VM lU=> ?_)
  refine ba (dZ.bf i v cz iQ) ?_;intro x ae aP
  refine wpAny_bind (wpAny_holding (ih (i+1) _ _ VM qI fun vs dJ jh i6 U9 Jc=>wpAny_pure ?_))
  refine cW _ dJ jh ?_ U9 fun b ob ah e=>Jc b ob ah (lU b ob (fun q=>ah (List.mem_singleton.mp q)) e)
  (refine B (List.drop_eq_getElem_cons cz) ?_;refine B List.take_succ_cons ?_;refine B (show items[i]=x from Option.some.inj ((List.getElem?_eq_getElem cz).symm.trans ae)) ?_)
  exact a8.cons aP i6
theorem D6 (bc:f5 K A) {l:List H} {v:Value} {n:Nat} {Q:List Value->Shared->Prop} (aE:n=l.length) (I:aK w CM K env J ρ s fs) (aP:bY w CM ρ (.aF l) v)
  (h:∀ρ' vs h' tk,aK w CM K env J ρ' {s with heap:=h',toks:=tk} fs->a2 ρ s ρ' {s with heap:=h',toks:=tk}->ce ρ fs.loc ρ' fs.loc->a8 w CM ρ' l vs->Q vs {s with heap:=h',toks:=tk}):
  wpAny (model aw w) A (unpackItems v n none) Q E s:=by
 subst aE
 refine dG (id aP) ?_;intro a c3 m u;subst u;intro M O
 have iL:=I.base.bL _ _ M
 have aG:s.heap.IsTuple a (Array.mk c3):=lD iL
 unfold unpackItems
 refine wpAny_bind ?_
 unfold notIterableAtAll
 refine wpAny_bind (wpAny_specialOf aG.typeIs slot_tuple_iter.lookup ?_)
 refine wpAny_pure ?_
 simp only [Bool.false_eq_true,if_false]
 refine wpAny_bind (wpAny_holding (wpAny_mono (Dn bc (x:=.aF l) rfl I aP) (fun dj aj P=> ?_) fun _ _ f=>f))
 refine jl P ?_;clear P;intro aN nu o fp P
 refine u3 P ?_;clear P;intro P cB u sl aZ a0 bv dZ;subst u;subst sl
 have fI:aN nu.heap.objs.size=.free:=(aZ.base.c0 _).mpr e8
 refine j3 (aZ.push dZ.eW) ?_;intro cP ca dH pQ _
 refine wpAny_bind (wpAny_holding (dZ.draw l.length 0 {nu with heap:=nu.heap.push o} _ dZ.ao (Nat.le_of_eq (Nat.zero_add _)) fun vs fj P7 i6 zF JM=> ?_))
 (replace i6:=List.drop_zero▸i6;replace i6:=List.take_length▸i6)
 have bC:=i6.length
 refine B (if_neg (by rw [bC];exact Nat.lt_irrefl _)) ?_
 replace zF:=(Nat.zero_add _)▸zF
 refine wpAny_bind (wpAny_holding (dZ.k8.done {nu with heap:=fj,toks:=P7} _ _ zF fun y6 B8 Rr=> ?_))
 simp only [Option.isSome_none,Bool.false_eq_true,if_false]
 refine j3 (cP.eL (h':=y6) (tk:=B8) pQ (h4 aZ fI) fun b ob ah e=>Rr b ob (fun q=>ah (List.mem_singleton.mp q)) (JM b ob ah e)) ?_;intro gY eo Tc Ux _
 have hA:=eo fI ca
 have ao:=a0.ao
 refine jd ao ?_;clear ao;intro bx Bi e
 subst e
 refine wpAny_pure (h _ vs y6 B8 gY (a0.trans hA) (bv.trans ⟨dH.U,fun b y e=> ?_,fun b y e=>dH.gu b y (Tc b y e)⟩) (i6.bu hA.bL hA.per))
 rcases dH.aD b y e with z|z
 ·exact .inl ((Ux b (d6 z pQ) (bI z)).trans z)
 ·exact .inr z
end
end Mine
end
section
open PySem PySem.W PySem.Calls PyProof.Rows
namespace Mine
section
variable{w:World} {CM:cp} {bj:dM} {F:Frag} {K:Top} {env d9:Env} {J aW:Scope} {A:Around} {E:Value->Shared->Prop} {ρ ρ₀ aT ρ':a5} {s db a7 az:Shared} {fs fs' fs₁:X} {R:bk} {C:ct} {k:Nat}
theorem ed.trans {aN:a5} {aj cu:Shared} {ai:bE} {f:Flow} (av:a2 ρ s aN aj) (P:ed w CM K env J aT a7 aN aj ai fs' f cu):ed w CM K env J aT a7 ρ s ai fs' f cu:=P.ext av
theorem cr.nW {l:List (Str×cg)} (a1:cr w CM K env J aT a7 ρ s fs) (h:∀y,Mine.getL y l=Mine.getL y fs.loc):cr w CM K env J aT a7 ρ s {fs with loc:=l}:=⟨a1.dI.nW h,a1.ext,a1.gA⟩
theorem Tb {r r':aV} {v:Value} (q:fs.take r=some (r',fs')) (a1:cr w CM K env J aT a7 ρ s fs) (aP:eN w CM ρ₀ ρ s fs r v) (aL:∀a,ρ₀ a=.free->aT a=.free):
  ∃ρ',cr w CM K env J aT a7 ρ' s fs'/\mA w CM aT ρ' s r' v:=by
 cases r with
 |U y=>exact b7 q ⟨ρ,a1,aP⟩
 |b5 y=>
  refine b7 q ⟨ρ,a1,?_⟩
  exact aP.imp fun a h=>⟨h.1,aL a h.2.1,h.2.2⟩
 |var x=>
  refine bG q (fun c hc q=>b7 q ?_) Z
  have bi:=oX hc
  refine et (aP.sx a1.dI bi) ?_;intro a u;subst u;intro bz hc
  refine nX (a1.dI.fm x) ?_;intro jt ej cS g7
  exact⟨_,⟨jt,a1.ext.trans ej,fun b y e=>a1.gA b y (cS b y e)⟩,a,rfl,a1.gA a x bz,if_pos bz,hc.bu ej.bL ej.per fun _ e=>e⟩
theorem zG {aN:a5} {aj:Shared} {x:Str} {r:aV} {v:Value} {Q:Unit->Shared->Prop} (q:eQ J x r fs₁=some fs') (a1:cr w CM K env J aT a7 ρ s fs) (aZ:aK w CM K env J aN aj fs₁) (a0:a2 ρ s aN aj) (bv:ce ρ fs.loc aN fs₁.loc) (aP:eN w CM ρ aN aj fs₁ r v)
  (h:∀az,(∃ρ',cr w CM K env J aT a7 ρ' az fs'/\a2 ρ s ρ' az)->Q () az):
  wpAny (model aw w) A (storeName env x v) Q E aj:=by
 refine Gl q aZ aP (fun a aL y c M O=>h4 a1.dI aL y c M O) fun b9 dJ jh cP ca oO qw pQ=>h _ ?_
 have hA:a2 ρ s b9 {aj with heap:=dJ,toks:=jh}:=by
  rcases ca with ca|ca
  ·exact a0.trans ca
  ·exact ca _ a0
 refine⟨b9,⟨cP,a1.ext.trans hA,fun a y e=> ?_⟩,hA⟩
 rcases oO a y e with z|z
 ·exact a1.gA a y (bv.gu a y z)
 ·exact a1.ext.h3 _ z
theorem SJ {x:Str} {v:H} (q:eQ J x (.U v) fs=some fs'):fs'={fs with loc:=bX x (.U v) fs.loc}/\∀eB:X,eQ J x (.U v) eB=some {eB with loc:=bX x (.U v) eB.loc}:=
 bG q (fun k ag q=>bG q (fun c hc q=>⟨(Option.some.inj q).symm,fun eB=>by
  exact bq ag (bq hc rfl)⟩) Z) Z
theorem nT {t:Expr} {ts:List Expr} {vs:List H} {G:Prop} (q:hr J (t::ts) vs fs=some fs') (k:∀x px v c3,t=.Name x px->vs=v::c3->eQ J x (.U v) fs=some {fs with loc:=bX x (.U v) fs.loc}->(∀eB:X,eQ J x (.U v) eB=some {eB with loc:=bX x (.U v) eB.loc})->
  hr J ts c3 {fs with loc:=bX x (.U v) fs.loc}=some fs'->G):G:=by
 cases vs with
 |nil=>exact Z q
 |cons v c3=>
  refine bG q (fun x ae q=>bG q (fun fs₁ hs q=> ?_) Z) Z
  refine bT (n6 ae) ?_;intro px e
  refine cm (SJ hs) ?_;intro ak h
  replace q:=ak▸q
  exact k x px v c3 e rfl (h fs) h q
theorem sJ {vs:List H} (q:hr J [] vs fs=some fs'):vs=[]/\fs=fs':=by
 cases vs with
 |nil=>exact⟨rfl,Option.some.inj q⟩
 |cons _ _=>exact Z q
noncomputable def Dt (w:World) (CM:cp) (K:Top) (env:Env) (J:Scope) (aT:a5) (a7:Shared) (ρ:a5) (s:Shared) (fs:X) (az:Shared):Prop:=∃ρ',cr w CM K env J aT a7 ρ' az fs/\a2 ρ s ρ' az
theorem IS (ts:List Expr):∀{vs:List H} {bf:List Value} {fs fs':X} {ρ:a5} {s:Shared},hr J ts vs fs=some fs'->cr w CM K env J aT a7 ρ s fs->a8 w CM ρ vs bf->
  wpAny (model aw w) A (assignInOrder ((assignEach ts env).map (·.2)) bf) (fun _ az=>Dt w CM K env J aT a7 ρ s fs' az) E s:=by
 induction ts with
 |nil=>
  intro vs bf fs fs' ρ s q a1 ay
  refine cm (sJ q) ?_;intro ak ar
  replace ay:=ak▸ay
  refine B (show bf=[] from ay) ?_
  exact wpAny_pure ⟨ρ,ar▸a1,a2.refl ..⟩
 |cons t ts ih=>
  intro vs bf fs fs' ρ s q a1 ay
  refine nT q fun x px v c3 ak ar hs _ bn=> ?_
  replace ay:=ar▸ay
  refine B ak ?_
  refine dN ay ?_;clear ay;intro u sk M O Y
  subst M
  show wpAny _ A (do holding sk (assign (.Name x px) env u);assignInOrder ((assignEach ts env).map (·.2)) sk) _ _ s
  refine wpAny_bind (wpAny_holding (PySem.wpAny_assign_Name (rT hs a1.dI O fun aN bw kv aZ a0 kp _=> ?_)))
  exact wpAny_mono (ih bn ⟨aZ,a1.ext.trans a0,fun a y e=>a1.gA a y (kp a y e)⟩ (Y.bu a0.bL a0.per)) (fun _ cu P=>P.imp fun b9 z=>⟨z.1,a0.trans z.2⟩) fun _ _ e=>e
theorem ph {x y:Str} {v:cg} {l:List (Str×cg)}:Mine.getL y (bX x v l)=if y=x then some v else Mine.getL y l:=by
 by_cases q:y=x
 ·subst q;(refine B (if_pos rfl) ?_;refine B j9 ?_;rfl)
 ·(refine B (if_neg q) ?_;refine B (ip q) ?_;rfl)
theorem Wb (ts:List Expr):∀{xs:List Str} {vs:List H} {bf:List Value} {fs fs':X} {ρ:a5} {s:Shared},hr J ts vs fs=some fs'->ts.map g8=xs.map some->cr w CM K env J aT a7 ρ s fs->a8 w CM ρ vs bf->
  wpAny (model aw w) A (assignInOrder (xs.map fun n=>bindName env n) bf) (fun _ az=>Dt w CM K env J aT a7 ρ s fs' az) E s:=by
 induction ts with
 |nil=>
  intro xs vs bf fs fs' ρ s q e a1 ay
  cases xs with
  |cons _ _=>exact(nomatch e)
  |nil=>
   refine cm (sJ q) ?_;intro ak ar
   replace ay:=ak▸ay
   refine B (show bf=[] from ay) ?_
   exact wpAny_pure ⟨ρ,ar▸a1,a2.refl ..⟩
 |cons t ts ih=>
  intro xs vs bf fs fs' ρ s q e a1 ay
  cases xs with
  |nil=>exact(nomatch e)
  |cons y cl=>
   refine nT q fun x px v c3 ak ar hs _ bn=> ?_
   replace ay:=ar▸ay
   refine dN ay ?_;clear ay;intro u sk M O Y
   subst M
   have ci:=List.cons.inj e
   refine bt (Option.some.inj ((congrArg g8 ak).symm.trans ci.1)) ?_
   show wpAny _ A (do holding sk (bindName env x u);assignInOrder (cl.map fun n=>bindName env n) sk) _ _ s
   refine wpAny_bind (wpAny_holding (wpAny_bindName (rT hs a1.dI O fun aN bw kv aZ a0 kp _=> ?_)))
   exact wpAny_mono (ih bn ci.2 ⟨aZ,a1.ext.trans a0,fun a y e=>a1.gA a y (kp a y e)⟩ (Y.bu a0.bL a0.per)) (fun _ cu P=>P.imp fun b9 z=>⟨z.1,a0.trans z.2⟩) fun _ _ e=>e
theorem set_comm {x y:Str} {a b:cg} {l:List (Str×cg)} (h:¬x=y) (z:Str):Mine.getL z (bX y b (bX x a l))=Mine.getL z (bX x a (bX y b l)):=by
 (refine B ph ?_;refine B ph ?_;refine B ph ?_;refine B ph ?_)
 by_cases M:z=y
 ·(refine B (if_pos M) ?_;refine B (if_neg (fun e=>h (e.symm.trans M))) ?_;refine B (if_pos M) ?_;rfl)
 ·(refine B (if_neg M) ?_;refine B (if_neg M) ?_;rfl)
theorem UG {y:Str} {b:cg} {l dc:List (Str×cg)} (h:∀z,Mine.getL z l=Mine.getL z dc) (z:Str):Mine.getL z (bX y b l)=Mine.getL z (bX y b dc):=by
 (refine B ph ?_;refine B ph ?_;refine B (h _) ?_;rfl)
theorem su {x:Str} {px:Pos} {ts:List Expr} {v:H} {c3:List H} (h:∀eB:X,eQ J x (.U v) eB=some {eB with loc:=bX x (.U v) eB.loc}):hr J (.Name x px::ts) (v::c3) fs=hr J ts c3 {fs with loc:=bX x (.U v) fs.loc}:=by
 show br (eQ J x (.U v) fs) (fun fs₁=>hr J ts c3 fs₁)=_
 refine B (h _) ?_;rfl
theorem UR {ts:List Expr} {vs:List H} (aq:ts.length=2\/ts.length=3) (hd:ur ts=true) (q:hr J ts vs fs=some fs'):
  ∃fs₂,hr J ts.reverse vs.reverse fs=some fs₂/\fs'.per=fs₂.per/\∀y,Mine.getL y fs'.loc=Mine.getL y fs₂.loc:=by
 have hC:=of_decide_eq_true (Bool.and_eq_true_iff.mp hd).2
 clear hd
 cases ts with
 |nil=>exact aq.elim (fun h=>nomatch h) fun h=>nomatch h
 |cons nR ts=>cases ts with
  |nil=>exact aq.elim (fun h=>nomatch h) fun h=>nomatch h
  |cons n1 ts=>
   refine nT q fun x px v c3 ak ar _ d3 q=>nT q fun y je u Yq bP cY _ dS q=> ?_
   rw [ak,bP] at hC|-
   (refine B ar ?_;refine B cY ?_)
   have r0:¬x=y:=fun e=>(List.nodup_cons.mp hC).1 (by refine B e ?_;exact List.mem_cons_self)
   cases ts with
   |nil=>
    refine cm (sJ q) ?_;intro dn fb
    (refine B dn ?_;refine bt fb ?_)
    exact⟨_,(su dS).trans (su d3),rfl,set_comm r0⟩
   |cons n7 ts=>cases ts with
    |cons _ _=>exact aq.elim (fun h=>nomatch h) fun h=>nomatch h
    |nil=>
     refine nT q fun z lQ t YF dn fb _ fH q=> ?_
     refine cm (sJ q) ?_;intro jA nK
     rw [dn] at hC|-
     (refine B fb ?_;refine B jA ?_;refine bt nK ?_)
     have Oq:¬x=z:=fun e=>(List.nodup_cons.mp hC).1 (by refine B e ?_;exact List.mem_cons_of_mem _ List.mem_cons_self)
     have yX:¬y=z:=fun e=>(List.nodup_cons.mp (List.nodup_cons.mp hC).2).1 (by refine B e ?_;exact List.mem_cons_self)
     exact⟨_,(su fH).trans ((su dS).trans (su d3)),rfl,fun k=>(set_comm yX k).trans ((UG (set_comm Oq) k).trans (set_comm r0 k))⟩
theorem Xz {f:Expr->Option Str} (aB:∀e x,f e=some x->g8 e=some x) (ts:List Expr):(ts.filterMap f).length=ts.length->ts.map g8=(ts.filterMap f).map some:=by
 induction ts with
 |nil=>intro _;rfl
 |cons t ts ih=>
  intro h
  cases aG:f t with
  |none=>
   replace h:=(List.filterMap_cons_none aG)▸h
   exact absurd (h▸List.length_filterMap_le f ts) (Nat.not_succ_le_self _)
  |some x=>
   rw [List.filterMap_cons_some aG] at h|-
   (refine B List.map_cons ?_;refine B List.map_cons ?_;refine B (aB t x aG) ?_;refine B (ih (Nat.succ.inj h)) ?_;rfl)
theorem q8 {α:Type u} {c:Prop} [Decidable c] {a b:α} {P:α->Prop} (M:c->P a) (O:¬c->P b):P (if c then a else b):=by
 by_cases q:c
 ·refine B (if_pos q) ?_;exact M q
 ·refine B (if_neg q) ?_;exact O q
noncomputable def rN (ts:List Expr) (A:Sem (Option (List Str))):Prop:=A=pure none\/∃names,A=pure (some names)/\ts.map g8=names.map some/\(ts.length=2\/ts.length=3)
theorem Mb {ts:List Expr} {kk:Nat} {tp:Pos} {e:Expr} (an:uA e=true):swappedStores [.Tuple ts kk tp] e env=pure none\/
  ∃names,swappedStores [.Tuple ts kk tp] e env=pure (some names)/\ts.map g8=names.map some/\(ts.length=2\/ts.length=3):=by
 cases e with
 |Tuple vs k p=>
  refine q8 (P:=rN ts) (fun _=>.inl rfl) fun M=>q8 (P:=rN ts) (fun _=>.inl rfl) fun _=>q8 (P:=rN ts) (fun _=>.inl rfl) fun Y=>q8 (P:=rN ts) (fun _=>.inl rfl) fun _=>q8 (P:=rN ts) (fun bR=> ?_) fun _=> ?_
  ·exact ln ((congrArg (!·) bR).symm.trans an)
  ·refine .inr ⟨_,rfl,Xz (fun e x h=> ?_) ts ?_,?_⟩
   ·cases e with
    |Name id pos=>exact cK h (fun _ h=>h) Z
    |_=>exact Z h
   ·(replace Y:=(Bool.or_eq_true _ _)▸Y;rw [not_or] at Y)
    have aC:=Y.1
    (rw [bne_iff_ne] at aC;replace aC:=(ne_eq _ _)▸aC;rw [Classical.not_not] at aC)
    exact aC
   ·simp only [Bool.or_eq_true,not_or,Bool.not_eq_true,Bool.not_eq_false',beq_iff_eq] at M
    exact M.1.1
 |_=>exact .inl rfl
end
end Mine
end
section
open PySem PySem.W PySem.Calls PyProof.Rows
namespace Mine
section
variable{w:World} {CM:cp} {bj:dM} {F:Frag} {K:Top} {env d9:Env} {J aW:Scope} {A:Around} {E:Value->Shared->Prop} {ρ ρ₀ aT ρ':a5} {s db a7 az:Shared} {fs fs' fs₁:X} {ai:bE} {R:bk} {C:ct} {k:Nat}
theorem IC (S:cC w CM K env J A R) {e:Expr} {pos:Pos} {r r':aV} (q:R.a9 e fs=some (r,fs₁)) (bn:fs₁.take r=some (r',fs')) (a1:cr w CM K env J aT a7 ρ s fs):
  wpAny (model aw w) A (exec (.Return (some e) pos) env) (ed w CM K env J aT a7 ρ s (.ret r') fs') (hD w CM K env J aT a7 (.ret r') fs') s:=by
 refine wpAny_Return_some (S.eM q a1.dI fun v aj aN aZ a0 bv aP=> ?_)
 exact(Tb bn (a1.step aZ a0 bv) aP fun a h=>a1.ext.h3 a h).elim fun b9 z=>⟨v,rfl,b9,z⟩
theorem BO (S:fN w CM K env J A R) {aN:a5} {aj:Shared} {body:List Stmt} (q:cR R body fs₁=some (ai,fs')) (av:a2 ρ s aN aj) (a1:cr w CM K env J aT a7 aN aj fs₁):
  wpAny (model aw w) A (execs body env) (ed w CM K env J aT a7 ρ s ai fs') (hD w CM K env J aT a7 ai fs') aj:=wpAny_mono (ow S _ q a1) (fun f cu P=>P.ext av) fun _ _ h=>h
theorem Xp (S:fN w CM K env J A R) {c:Expr} {a b:List Stmt} {pos:Pos} {t:Bool} (q:R.dD c fs=some (t,fs₁)) (bn:(if t=true then cR R a fs₁ else cR R b fs₁)=some (ai,fs')) (a1:cr w CM K env J aT a7 ρ s fs):
  wpAny (model aw w) A (exec (.If c a b pos) env) (ed w CM K env J aT a7 ρ s ai fs') (hD w CM K env J aT a7 ai fs') s:=by
 refine wpAny_If (S.mg q a1.dI fun aj aN aZ a0 bv=> ?_)
 cases t with
 |true=>exact BO S bn a0 (a1.step aZ a0 bv)
 |false=>exact BO S bn a0 (a1.step aZ a0 bv)
theorem Fd {gS:bE} {f:Flow} {aj cu:Shared} {aN:a5} {fs₂:X} {k:X->Option (bE×X)} {G:Prop} (aq:qf gS fs₂ k=some (ai,fs')) (av:a2 ρ s aN aj) (P:ed w CM K env J aT a7 aN aj gS fs₂ f cu)
  (k1:∀b9,f=.next->k fs₂=some (ai,fs')->cr w CM K env J aT a7 b9 cu fs₂->a2 ρ s b9 cu->a2 aN aj b9 cu->G) (k2:f=.brk->ed w CM K env J aT a7 ρ s ai fs' .next cu->G) (k3:∀v,f=.ret v->ed w CM K env J aT a7 ρ s ai fs' (.ret v) cu->G):G:=by
 cases gS with
 |next=>exact P.2.elim fun b9 z=>k1 b9 P.1 aq z.1 (av.trans z.2) z.2
 |brk=>
  refine P.2.elim fun b9 z=>k2 P.1 ?_
  exact b7 (show some (.next,fs₂)=some (ai,fs') from aq) ⟨rfl,b9,z.1,av.trans z.2⟩
 |ret r=>
  refine P.elim fun v z=>k3 v z.1 ?_
  exact b7 (show some (.ret r,fs₂)=some (ai,fs') from aq) ⟨v,rfl,z.2⟩
 |dB=>exact Z aq
theorem Bq {gS:bE} {fs₂:X} {k:X->Option (bE×X)} (aq:qf gS fs₂ k=some (ai,fs')):gS≠.dB:=fun e=>Z ((congrArg (qf · fs₂ k) e).symm.trans aq)
theorem U4 (S:fN w CM K env J A R) {c:Expr} {body:List Stmt} {RR:Result->Shared->Prop} {n:Nat} (q:gN R c body n fs=some (ai,fs')) (a1:cr w CM K env J aT a7 ρ s fs)
  (ga:∀f t,ed w CM K env J aT a7 ρ s ai fs' f t->RR (.ok f) t):codeAny (model aw w) A (.whileLoop c body [] env) RR s:=by
 obtain⟨e7,j7⟩:∃e7:Nat->Shared->Prop,∀m t,e7 m t↔∃gl ha,gN R c body m ha=some (ai,fs')/\cr w CM K env J aT a7 gl t ha/\a2 ρ s gl t:=⟨_,fun _ _=>Iff.rfl⟩
 refine codeAny_whileLoop e7 ?_ n ((j7 _ _).mpr ⟨ρ,fs,q,a1,a2.refl ..⟩)
 intro m t h
 refine dN ((j7 m t).mp h) ?_;clear h;intro gl ha ea m4 Xt
 cases m with
 |zero=>exact Z ea
 |succ m=>
  refine b6 ea (fun gj F1 hc ea=>S.mg hc m4.dI fun aj aN aZ a0 bv=> ?_) Z
  cases gj with
  |true=>
   refine b6 (show ob (cR R body F1) (fun ai fs₂=>qf ai fs₂ (gN R c body m))=some (ai,fs') from ea) (fun gS mI ah aq=> ?_) Z
   refine B (if_pos rfl) ?_
   refine wpAny_mono (ow S _ ah (m4.step aZ a0 bv)) (fun f cu P=>Fd aq (Xt.trans a0) P (fun b9 e ea cP ca _=> ?_) (fun e P=> ?_) fun v e P=> ?_) fun _ _ h=>absurd h.1 (Bq aq)<;>refine B e ?_
   ·exact⟨m,Nat.lt_succ_self m,(j7 m cu).mpr ⟨b9,mI,ea,cP,ca⟩⟩
   ·exact ga _ _ P
   ·exact ga _ _ P
  |false=>
   refine B (if_neg (by decide)) ?_
   refine wpAny_execs_nil (ga _ _ ?_)
   exact b7 (show some (.next,F1)=some (ai,fs') from ea) ⟨rfl,aN,m4.step aZ a0 bv,Xt.trans a0⟩
theorem Vn (S:fN w CM K env J A R) {c:Expr} {body:List Stmt} {pos:Pos} {n:Nat} (q:gN R c body n fs=some (ai,fs')) (a1:cr w CM K env J aT a7 ρ s fs):
  wpAny (model aw w) A (exec (.While c body [] pos) env) (ed w CM K env J aT a7 ρ s ai fs') E s:=
 wpAny_While (U4 S q a1 fun f t P=>P)
theorem Pp (S:fN w CM K env J A R) {x:Str} {px:Pos} {body:List Stmt} {items:List H} {o:Obj} {fp:List Addr} {P:Nat->Value->Prop} {cB:Nat->Heap->Prop} {RR:Result->Shared->Prop}
  (dZ:mE w CM A ρ s items o fp P cB) (q:f4 R J x body items fs=some (ai,fs')) (a1:cr w CM K env J aT a7 ρ s fs)
  (ga:∀f t,ed w CM K env J aT a7 ρ s ai fs' f t->RR (.ok f) t):codeAny (model aw w) A (.forLoop (.Name x px) (.ref s.heap.objs.size) body [] env) RR {s with heap:=s.heap.push o}:=by
 have fI:ρ s.heap.objs.size=.free:=(a1.dI.base.c0 _).mpr e8
 refine j3 (a1.dI.push dZ.eW) ?_;intro KA vA Q6 My _
 have CY:∀x c,J.names.lookup x=some .free->env.cells.lookup x=some c->c≠s.heap.objs.size:=h4 a1.dI fI
 obtain⟨e7,j7⟩:∃e7:Nat->Shared->Prop,∀n t,e7 n t↔∃i,n=items.length-i/\i<=items.length/\∃gl ha,f4 R J x body (items.drop i) ha=some (ai,fs')/\cr w CM K env J aT a7 gl t ha/\a2 ρ s gl t/\gl s.heap.objs.size=.aU/\cB i t.heap:=⟨_,fun _ _=>Iff.rfl⟩
 refine codeAny_forLoop e7 ?_ items.length ((j7 _ _).mpr ⟨0,rfl,Nat.zero_le _,_,fs,q,a1.step KA vA Q6,vA,My,dZ.ao⟩)
 intro n t h
 refine et ((j7 n t).mp h) ?_;clear h;intro i e aR h;subst e
 refine qC h ?_;clear h;intro gl ha fc m4 Xt lG eT
 have nO:∀{j:Nat} {iq fQ:a5} {iF fA:Shared},a2 ρ s iq iF->iq s.heap.objs.size=.aU->a2 iq iF fQ fA->(∀a ob,iq a=.be ob->iF.heap.get? a=some ob)->(∀a ob,fQ a=.be ob->fA.heap.get? a=some ob)->cB j iF.heap->cB j fA.heap:=dZ.Ah fun b ob e=>e
 by_cases cz:i<items.length
 ·refine dZ.k8.item i t _ _ cz eT fun v bw kv iQ mL lU=> ?_
  refine j3 (m4.dI.eL (tk:=kv) lG CY fun b ob ah e=>lU b ob (fun q=>ah (List.mem_singleton.mp q)) e) ?_;intro aZ a0 kp mb rZ
  have sA:=(dZ.vb _ _ mL).elim fun pB zT=>rZ (fun q=>Z (q.symm.trans zT))
  have lj:=a0 fI Xt
  refine ba (dZ.bf i v cz iQ) ?_;intro eR qc sg
  (replace fc:=(List.drop_eq_getElem_cons cz)▸fc;replace fc:=(show items[i]=eR from Option.some.inj ((List.getElem?_eq_getElem cz).symm.trans qc))▸fc)
  refine bG fc (fun KU hs fc=>b6 fc (fun gS mI ah aq=> ?_) Z) Z
  refine wpAny_assign_Name (rT hs aZ (bY.bu lj.bL lj.per sg) fun b9 dJ jh cP ca oO qw=> ?_)
  have mn:=lj.trans ca
  have sH:cr w CM K env J aT a7 b9 {t with heap:=dJ,toks:=jh} KU:=⟨cP,a1.ext.trans mn,fun a y e=>m4.gA a y (kp a y (oO a y e))⟩
  have nb:=ca.aU _ sA
  have sb:cB (i+1) dJ:=nO lj sA ca aZ.base.bL cP.base.bL mL
  refine wpAny_mono (ow S _ ah sH) (fun f cu P=>Fd aq mn P (fun jO e fc gY eo e6=> ?_) (fun e P=> ?_) fun v e P=> ?_) fun _ _ h=>absurd h.1 (Bq aq)<;>refine B e ?_
  ·exact⟨items.length-(i+1),by exact SB cz,(j7 _ _).mpr ⟨i+1,rfl,cz,jO,mI,fc,gY,eo,e6.aU _ nb,nO mn nb e6 cP.base.bL gY.dI.base.bL sb⟩⟩
  ·exact ga _ _ P
  ·exact ga _ _ P
 ·have CG:i=items.length:=Nat.le_antisymm aR (Nat.not_lt.mp cz)
  replace eT:=CG▸eT
  (replace fc:=CG▸fc;replace fc:=List.drop_length▸fc)
  refine dZ.k8.done t _ _ eT fun bw kv lU=> ?_
  refine j3 (m4.dI.eL (h':=bw) (tk:=kv) lG CY fun b ob ah e=>lU b ob (fun q=>ah (List.mem_singleton.mp q)) e) ?_;intro aZ a0 kp mb rZ
  refine wpAny_execs_nil (ga _ _ ?_)
  exact b7 (show some (.next,ha)=some (ai,fs') from fc) ⟨rfl,_,⟨aZ,a1.ext.trans (a0 fI Xt),fun a y e=>m4.gA a y (kp a y e)⟩,a0 fI Xt⟩
theorem Q9 (bl:jB CM bj F) (bA:K.f=F) (bc:f5 K A) (S:fN w CM K env J A R) {x:Str} {px:Pos} {iter:Expr} {body:List Stmt} {pos:Pos} {items:List H} (q:hy R J iter fs=some (items,fs₁)) (bn:f4 R J x body items fs₁=some (ai,fs'))
  (a1:cr w CM K env J aT a7 ρ s fs):wpAny (model aw w) A (exec (.For (.Name x px) iter body [] pos) env) (ed w CM K env J aT a7 ρ s ai fs') (hD w CM K env J aT a7 ai fs') s:=by
 refine cm (xq bl bA bc S.tocC q a1.dI) ?_;intro q3 lh
 refine wpAny_For (wpAny_mono lh (fun eR aj bw=>wpAny_mono bw (fun dj cu dJ=> ?_) fun _ _ f=>f.elim) fun _ _ f=>f.elim) q3
 refine jl dJ ?_;clear dJ;intro aN nu o fp P
 refine u3 P ?_;clear P;intro P cB u sl aZ a0 bv dZ;subst u;subst sl
 exact Pp S dZ bn (a1.step aZ a0 bv) fun f t P=>P.ext a0
end
end Mine
end
section
open PySem PySem.W PySem.Calls PyProof.Rows
namespace Mine
section
variable{w:World} {CM:cp} {bj:dM} {F:Frag} {K:Top} {env d9:Env} {J aW:Scope} {A:Around} {E:Value->Shared->Prop} {ρ ρ₀ aT ρ':a5} {s db a7 az:Shared} {fs fs' fs₁ fs₂ fs₃:X} {ai:bE} {R:bk} {C:ct} {k:Nat}
theorem NE {e:Expr} {x:Str} {px:Pos} {line:Nat}:(∃e9 g c p,e=.SetComp e9 g c p)\/(∃e9 v g c p,e=.DictComp e9 v g c p)\/(∃e9 g c p,e=.ListComp e9 g c p/\swapsWith e (some (.Name x px)) line env=pure true)\/swapsWith e (some (.Name x px)) line env=pure false:=by
 cases e with
 |ListComp e9 g c p=>
  by_cases h:(env.blockKind==.function&&env.kindOf x==some .local&&px.line==p.line&& !(c.names.any fun(n,k)=>n==x&&(k==.local||k==.cell)))=true
  ·refine .inr (.inr (.inl ⟨e9,g,c,p,rfl,?_⟩))
   show(pure _:Sem Bool)=pure true
   exact congrArg pure h
  ·refine .inr (.inr (.inr ?_))
   show(pure _:Sem Bool)=pure false
   exact congrArg pure (Bool.eq_false_iff.mpr h)
 |SetComp e9 g c p=>exact .inl ⟨_,_,_,_,rfl⟩
 |DictComp e9 v g c p=>exact .inr (.inl ⟨_,_,_,_,_,rfl⟩)
 |_=>exact .inr (.inr (.inr rfl))
theorem MU {e o i:Expr} {p:Pos} {line:Nat}:swapsWith e (some (.Subscript o i p)) line env=pure false:=by
 cases e<;>rfl
theorem Bz {e:Expr} {ts:List Expr} {kk:Nat} {p:Pos} {line:Nat}:swapsWithSole [.Tuple ts kk p] e line env=pure false:=by
 show swapsWith e (some (.Tuple ts kk p)) line env=pure false
 cases e<;>rfl
theorem Oa (S:fN w CM K env J A R) {x:Str} {px pos:Pos} {e:Expr} {r:aV} (q:R.a9 e fs=some (r,fs₁)) (bn:Fh J x r fs₁=some (ai,fs')) (a1:cr w CM K env J aT a7 ρ s fs):
  wpAny (model aw w) A (exec (.Assign [.Name x px] e pos) env) (ed w CM K env J aT a7 ρ s ai fs') (hD w CM K env J aT a7 ai fs') s:=by
 have main:swapsWith e (some (.Name x px)) pos.line env=pure false->wpAny (model aw w) A (exec (.Assign [.Name x px] e pos) env) (ed w CM K env J aT a7 ρ s ai fs') (hD w CM K env J aT a7 ai fs') s:=fun hs=>by
  refine wpAny_Assign_Name (S.eM q a1.dI fun v aj aN aZ a0 bv aP=> ?_) hs
  cases r with
  |U y=>exact qD bn fun M=>zG M a1 aZ a0 bv aP fun az P=>⟨rfl,P⟩
  |b5 y=>exact qD bn fun M=>zG M a1 aZ a0 bv aP fun az P=>⟨rfl,P⟩
  |var y=>
   refine b6 bn (fun e4 mI UY bn=> ?_) Z
   refine gw (wU a1.dI aZ a0 bv aP UY) ?_;intro b9 cP ca dH od
   exact qD bn fun M=>zG M a1 cP ca dH (r:=.U e4) od fun az P=>⟨rfl,P⟩
 refine(NE (e:=e) (x:=x) (px:=px) (line:=pos.line) (env:=env)).elim (fun h=> ?_) fun h=>h.elim (fun h=> ?_) fun h=>h.elim (fun h=> ?_) main
 ·refine jl h ?_;intro a b c d ak
  (replace q:=ak▸q;rw [S.y4] at q);exact Z q
 ·refine h.elim fun a h=> ?_
  refine jl h ?_;intro b c d f ak
  (replace q:=ak▸q;rw [S.zu] at q);exact Z q
 ·refine pL h ?_;intro e9 g c p ak hs
  rw [ak] at q hs|-
  refine bT (S.zz _ _ _ _ _ _ _ q) ?_;intro v e
  rw [e] at q bn
  exact qD bn fun M=>wpAny_mono (S.x2 _ _ _ _ _ _ _ _ _ _ _ hs q M aT a7 ρ s a1) (fun _ _ P=>P) fun _ _ f=>f.elim
theorem Kz (bc:f5 K A) (S:fN w CM K env J A R) {b i e:Expr} {px pos:Pos} {v k:H} {r:aV} (bZ:d2 R e fs=some (v,fs₁)) (bn:R.a9 b fs₁=some (r,fs₂)) (ef:R.a9 i fs₂=some (.U k,fs₃)) (ib:p8 r k v fs₃=some fs')
  (a1:cr w CM K env J aT a7 ρ s fs):wpAny (model aw w) A (exec (.Assign [.Subscript b i px] e pos) env) (ed w CM K env J aT a7 ρ s .next fs') (hD w CM K env J aT a7 .next fs') s:=by
 refine wpAny_Assign_Subscript (rE S.tocC bZ a1.dI fun qB aj aN aZ a0 bv ay=> ?_) MU
 refine S.eM bn aZ fun n8 cu b9 cP ca dH ah=>S.eM ef cP fun l7 jQ jO gY eo ku ag=> ?_
 have hA:=(a0.trans ca).trans eo
 have nC:=(bv.trans dH).trans ku
 refine TY ib gY (ah.bu eo ku) ag (bY.bu eo.bL eo.per (bY.bu ca.bL ca.per ay)) fun h' tk tL kZ=> ?_
 exact⟨rfl,jO,⟨tL,a1.ext.trans (hA.trans kZ),fun a y e=>a1.gA a y (nC.gu a y e)⟩,hA.trans kZ⟩
theorem RG (ts:List Expr):∀{vs:List H} {fs fs':X},hr J ts vs fs=some fs'->ts.length=vs.length:=by
 induction ts with
 |nil=>intro vs fs fs' q;refine B ((sJ q).1) ?_;rfl
 |cons t ts ih=>intro vs fs fs' q;exact nT q fun x px v c3 _ e _ _ bn=>by refine B e ?_;exact congrArg (· +1) (ih bn)
theorem J6 (ts:List Expr):∀{vs:List H} {fs fs':X},hr J ts vs fs=some fs'->(assignEach ts env).findIdx? (·.1)=none/\(assignEach ts env).length=ts.length:=by
 induction ts with
 |nil=>intro _ _ _ _;exact⟨rfl,rfl⟩
 |cons t ts ih=>
  intro vs fs fs' q
  refine nT q fun x px v c3 e _ _ _ bn=> ?_
  refine B e ?_
  refine⟨?_,congrArg (· +1) (ih bn).2⟩
  show List.findIdx? (·.1) ((false,assign (.Name x px) env)::assignEach ts env)=none
  (refine B List.findIdx?_cons ?_;refine B ((ih bn).1) ?_);rfl
theorem a8.MF (l:List H):∀{vs:List Value},a8 w CM ρ l vs->a8 w CM ρ l.reverse vs.reverse:=by
 induction l with
 |nil=>intro vs h;refine B (show vs=[] from h) ?_;exact a8.nil
 |cons x l ih=>
  intro vs h
  refine dN h ?_;clear h;intro v c3 u O Y;subst u
  (refine B List.reverse_cons ?_;refine B List.reverse_cons ?_)
  exact(ih Y).append (a8.cons O a8.nil)
theorem V2 (bc:f5 K A) (S:fN w CM K env J A R) {ts:List Expr} {kk:Nat} {tp pos:Pos} {e:Expr} {vs:List H} (an:uA e=true) (hd:ur ts=true) (q:R.a9 e fs=some (.U (.aF vs),fs₁)) (bn:hr J ts vs fs₁=some fs')
  (a1:cr w CM K env J aT a7 ρ s fs):wpAny (model aw w) A (exec (.Assign [.Tuple ts kk tp] e pos) env) (ed w CM K env J aT a7 ρ s .next fs') (hD w CM K env J aT a7 .next fs') s:=by
 have bC:=RG _ bn
 rcases Mb (ts:=ts) (kk:=kk) (tp:=tp) (env:=env) an with ea|⟨names,ea,aE,aq⟩
 ·refine Assign_Tuple (S.eM q a1.dI fun v aj aN aZ a0 bv aP=> ?_) Bz ea
  refine cm (J6 (env:=env) _ bn) ?_;intro eT Uk
  rw [assign_Tuple]
  refine wpAny_bind (wpAny_standAt ?_)
  unfold unpack
  simp only [eT]
  refine wpAny_bind (wpAny_holding (D6 bc (by(refine B Uk ?_;refine B bC ?_;rfl)) aZ aP fun b9 bf dJ jh cP ca dH ay=> ?_))
  exact wpAny_mono (IS _ bn (a1.step cP (a0.trans ca) (bv.trans dH)) ay) (fun _ jQ P=>⟨rfl,P.imp fun jO z=>⟨z.1,(a0.trans ca).trans z.2⟩⟩) fun _ _ f=>f
 ·refine Assign_Tuple_swapped (S.eM q a1.dI fun v aj aN aZ a0 bv aP=> ?_) Bz ea
  have KC:names.length=ts.length:=by have:=congrArg List.length aE;simpa using this.symm
  refine D6 bc (by(refine B KC ?_;refine B bC ?_;rfl)) aZ aP fun b9 bf dJ jh cP ca dH ay=> ?_
  refine et (UR aq hd bn) ?_;intro mI ef Xj KJ
  refine wpAny_mono (Wb _ (xs:=names.reverse) ef (by(refine B List.map_reverse ?_;refine B List.map_reverse ?_;refine B aE ?_;rfl)) (a1.step cP (a0.trans ca) (bv.trans dH)) (a8.MF _ ay)) (fun _ jQ P=> ?_) fun _ _ f=>f
  refine P.elim fun jO z=> ?_
  have e:fs'={mI with loc:=fs'.loc}:=by cases fs';cases mI;cases Xj;rfl
  refine B e ?_
  exact⟨rfl,jO,z.1.nW KJ,(a0.trans ca).trans z.2⟩
theorem zi (h:oD env J):interactive env=false:=by unfold interactive;refine B h.kind ?_;rfl
theorem SL (bl:tZ CM bj F) (bA:K.f=F) (c6:gJ w CM bj F k C) (bc:ek K k A) (S:fN w CM K env J A R) {f:Str} {p pos zn:Pos} {args:List Expr} {vs:List H} {pc:bE} {dh:List H}
  (an:jV f=true) (ae:J.names.lookup f=some .globalImplicit) (bZ:dp R args fs=some (vs,fs₁)) (bn:C f vs fs₁.per=some (pc,dh)) (ef:Fp pc {fs₁ with per:=dh}=some (ai,fs')) (a1:cr w CM K env J aT a7 ρ s fs):
  wpAny (model aw w) A (exec (.Expr (.Call (.Name f p) args [] pos) zn) env) (ed w CM K env J aT a7 ρ s ai fs') (hD w CM K env J aT a7 ai fs') s:=by
 refine wpAny_Expr_any (wpAny_mono (Gf bl bA c6 bc S.tocC an ae bZ bn a1.dI) (fun v aj P=> ?_) fun e aj P=> ?_) (zi a1.dI.c2) rfl
 ·cases pc with
  |ret r=>exact b7 (show some (.next,_)=some (ai,fs') from ef) ⟨rfl,P.elim fun aN z=>⟨aN,a1.step z.1 z.2.1 z.2.2.1,z.2.1⟩⟩
  |_=>exact P.elim
 ·replace ef:=P.1▸ef
  exact b7 (show some (.dB,_)=some (ai,fs') from ef) ⟨rfl,P.2.imp fun aN z=>z.imp fun a z=>⟨a1.step z.1 z.2.1 z.2.2.1,z.2.2.2.1,z.2.2.2.2.base fun a h=>a1.ext.h3 a h⟩⟩
theorem PQ (S:fN w CM K env J A R) {g:Expr} {pos zn:Pos} {args:List Expr} {r:aV} (q:R.a9 (.Call g args [] pos) fs=some (r,fs')) (a1:cr w CM K env J aT a7 ρ s fs):
  wpAny (model aw w) A (exec (.Expr (.Call g args [] pos) zn) env) (ed w CM K env J aT a7 ρ s .next fs') (hD w CM K env J aT a7 .next fs') s:=by
 exact wpAny_Expr_any (S.eM q a1.dI fun v aj aN aZ a0 bv aP=>⟨rfl,aN,a1.step aZ a0 bv,a0⟩) (zi a1.dI.c2) rfl
end
end Mine
end
section
open PySem PySem.W PySem.Calls PyProof.Rows
open Sem (wp)
namespace Mine
noncomputable abbrev gc:List Value:=[.type "Exception",.type "BaseException",.type "object"]
section
variable{F:Frag} {w:World} {A:Around} {E:Value->Shared->Prop} {s:Shared}
theorem R7:findCls F (.type "Exception") (.type "type") "__init__"=some (.val (.builtin "Exception.__init__")):=by kernel_rfl
theorem XY {ju:Sem Bool} {Q:Value×List Value->Shared->Prop} (av:F.In s.heap) (h:Q (.builtin "Exception.__init__",[]) {s with toks:=s.toks+1}):
  wpAny (model aw w) A (getMethod (.type "Exception") "__init__" ju) Q E s:=by
 unfold getMethod
 have aG:Looks (model aw w) s.heap (typeOf (.type "Exception")) (.type "type"):=Looks.of_pure (by kernel_rfl)
 have bi:Looks (model aw w) s.heap (specialOf (.type "Exception") "__getattribute__") (some (.builtin "type.__getattribute__")):=aG.andThen (Looks.of_pure KF.slot_tga.lookup)
 refine wpAny_bind (bi.here ?_)
 dsimp only
 refine B (if_pos canon_tga) ?_
 refine wpAny_bind (cls_open (hook:=none) av (Looks.of_pure (by kernel_rfl)) aG (by kernel_rfl) (Looks.of_pure (by kernel_rfl)) (by kernel_rfl) R7 ?_)
 refine wpAny_pure ?_
 show wpAny _ _ (handedOut _) _ _ _
 refine B (handedOut_of (by kernel_rfl)) ?_
 exact wpAny_pure (wpAny_pure h)
end
section
variable{w:World} {A:Around} {E:Value->Shared->Prop} {h:Heap} {g:Array GenState} {d:Drawn} {t:Nat} {os:OsState}
variable{nm q:Str} {C N P:Addr} {bs:List Value} {hdct:Bool} {sn:List Str} {sub:List Value} {ab:Bool} {col:Option Bool} {dd:Option Addr} {k0 k1 k2 k3 k5:Option Value}
theorem ww {C P:Addr} {v:Value} (h:gc.contains v=true):(Value.ref C::.ref P::gc).contains v=true:=by
 (refine B List.contains_cons ?_;refine B List.contains_cons ?_;refine B h ?_;refine B (Bool.or_true _) ?_;refine B (Bool.or_true _) ?_;rfl)
theorem Bh {C P:Addr} {x:String} {b:Bool} (h:gc.contains (.type x)=b):(Value.ref C::.ref P::gc).contains (.type x)=b:=by
 (refine B List.contains_cons ?_;refine B List.contains_cons ?_;refine B h ?_)
 show(false||(false||b))=b
 rfl
theorem LO {pK:Model} {rest:List Value} {Q:Unit->Shared->Prop} (ck:h.get? C=some (excClassObj nm q C N bs (.ref P::gc) hdct sn sub ab col dd k0 k1 k2 k3 k5 "Exception.__new__"))
  (aA:Q () ⟨h,g,d,t,os⟩):wpAny pK A (checkBuiltinCall "Exception.__new__" ⟨.ref C::rest,[]⟩) Q E ⟨h,g,d,t,os⟩:=by
 have F:=PySem.F.excBase_Exception
 have Jn:(Value.ref C::.ref P::gc).contains (.type "Exception")=true:=ww F.hasB
 have Zb:=F.noStar
 simp only [checkBuiltinCall,F.newKind,F.newSplit,F.newRow]
 repeat (first|refine wpAny_loadPart_at ck ?_|(refine wpAny_isSubtype_exc ck ?_;refine B Jn ?_)|refine wpAny_staticBase_exc ck ?_|refine wpAny_madeBy_exc ck ?_|simp only [bne_self_eq_false,Bool.false_eq_true,if_false]|wp_step)
 exact aA
theorem M2 {R:Result->Shared->Prop} {rest:List Value} (ck:h.get? C=some (excClassObj nm q C N bs (.ref P::gc) hdct sn sub ab col dd k0 k1 k2 k3 k5 "Exception.__new__"))
  (aA:R (.ok (.ret (.ref (h.objs.size+1)))) ⟨(h.push {cls:=.type "tuple",data:=.seq rest.toArray}).push
   {cls:=.ref C,data:=.fields #[.ref h.objs.size,.none,.none,.none,.bool false,.none]},g,d,t,os⟩) (hrest:rest.length<=sizeLine:=by size_fits):
  codeAny (model aw w) A (.builtin "Exception.__new__" ⟨.ref C::rest,[]⟩) R ⟨h,g,d,t,os⟩:=by
 have F:=PySem.F.excBase_Exception
 have Yy:=F.ends
 have rl:(Value.ref C::.ref P::gc).contains (.type "Exception")=true:=ww F.hasB
 have Jv:(Value.ref C::.ref P::gc).contains (.type "AttributeError")=false:=Bh F.noAttr
 have LJ:(Value.ref C::.ref P::gc).contains (.type "NameError")=false:=Bh F.noName
 refine codeAny_builtinAt F.entry ?_
 unfold Builtin.«BaseException.__new__»
 refine PySem.wpAt_bind ?_
 show PySem.wpAt _ _ _ (stack>>=_) _ _ _
 refine PySem.wpAt_bind (PySem.wpAt_stack fun p below=>PySem.wpAt_of_wpAny ?_)
 wp_walk
 refine PySem.wpAt_of_wpAny ?_
 refine B F.owner ?_
 repeat (first|with_reducible refine wpAny_madeHere_exc F.canon ck ?_|with_reducible refine wpAny_loadPart_at ck ?_|(with_reducible refine wpAny_isSubtype_exc ck ?_;first|refine B rl ?_|rw [Jv]|rw [LJ])|wp_step)
 show R _ _
 refine B (Heap.size_push _ _) ?_
 exact aA
theorem L6 {pK:Model} {e:Addr} {AZ:Obj} {rest:List Value} {Q:Unit->Shared->Prop}
  (ck:h.get? C=some (excClassObj nm q C N bs (.ref P::gc) hdct sn sub ab col dd k0 k1 k2 k3 k5 "Exception.__new__")) (aX:h.get? e=some AZ) (OH:AZ.cls=.ref C) (aA:Q () ⟨h,g,d,t,os⟩):
  wpAny pK A (checkBuiltinCall "Exception.__init__" ⟨.ref e::rest,[]⟩) Q E ⟨h,g,d,t,os⟩:=by
 have F:=PySem.F.excBase_Exception
 have rl:(Value.ref C::.ref P::gc).contains (.type "Exception")=true:=ww F.hasB
 have X1:=F.noStar
 simp only [checkBuiltinCall,F.initKind,F.initSplit,F.initRow]
 repeat (first|(with_reducible refine wpAny_loadPart_at aX ?_;refine B OH ?_)|with_reducible refine wpAny_loadPart_at ck ?_|(with_reducible refine wpAny_isSubtype_exc ck ?_;refine B rl ?_)|wp_step)
 refine wpAny_onRaise ?_
 rw [show∀(a b:String) (n:Nat),Bind.check ⟨.positional,"*","Exception",.self,[⟨"args",.varPos,false⟩]⟩ a b n (List.map (fun x=>x.fst) ({pos:=Value.ref e::rest}:Args).kw)=pure () from
  fun a b n=>check_star_args _ _ _ _ _ _]
 exact wpAny_pure aA
theorem SD {e Bk:Addr} {v:Value} {Q:Value->Shared->Prop}
  (ck:h.get? C=some (excClassObj nm q C N bs (.ref P::gc) hdct sn sub ab col dd k0 k1 k2 k3 k5 "Exception.__new__")) (aX:h.get? e=some {cls:=.ref C,data:=.fields #[.ref Bk,.none,.none,.none,.bool false,.none]})
  (aA:∀h' T,(∀b o,b≠e->h.get? b=some o->h'.get? b=some o)->h'.get? e=some {cls:=.ref C,data:=.fields #[.ref T,.none,.none,.none,.bool false,.none]}->Q .none ⟨h',g,d,t,os⟩):
  wpAny (model aw w) A (call (.builtin "Exception.__init__") [.ref e,v]) Q E ⟨h,g,d,t,os⟩:=by
 have F:=PySem.F.excBase_Exception
 refine wpAny_call (codeAny_call_builtin F.init.plain F.initEntry (L6 ck aX rfl ?_))
 wp_walk
 refine aA _ h.objs.size (fun b o ah WM=> ?_) ?_
 ·refine B (Heap.get?_update_other _ _ (Ne.symm ah)) ?_
  exact Heap.get?_push_of_some _ WM
 ·refine B (Heap.get?_update_self _ (Heap.get?_push_of_some _ aX) rfl) ?_
  rfl
theorem WL {rest:List Value} {fI:Addr} {rU:Obj} {Q:Fin->Shared->Prop}
  (ck:h.get? C=some (excClassObj nm q C N bs (.ref P::gc) hdct sn sub ab col dd k0 k1 k2 k3 k5 "Exception.__new__"))
  (aq:∀h',(∀b o,h.get? b=some o->h'.get? b=some o)->Looks (model aw w) h' (typeLookup (.ref C) "__init__") (some (.ref fI)))
  (xH:h.get? fI=some rU) (yd:rU.cls=.type "function")
  (aA:∀h' e,Heap.MadeExcOf h h' e (.ref C) rest->
   wpAny (model aw w) A (call (.ref fI) (.ref e::rest)) (fun r az=>r=.none/\Q (.done (.ret (.ref e))) az) E ⟨h',g,d,t,os⟩) (hrest:rest.length<=sizeLine:=by size_fits):
  wpAny (model aw w) A (Builtin.«type.__call__» ⟨.ref C::rest,[]⟩) Q E ⟨h,g,d,t,os⟩:=by
 have F:=PySem.F.excBase_Exception
 repeat (first|with_reducible refine wpAny_loadPart_at ck ?_|with_reducible refine wpAny_madeBy_exc ck ?_|wp_step)
 refine codeAny_call_builtin_code (Code.quiet_builtin _ F.quiet) (LO ck ?_)
 refine M2 ck ?_ hrest
 show wpAny _ _ _ _ _ _
 have ag:∀b o,h.get? b=some o->((h.push {cls:=.type "tuple",data:=.seq rest.toArray}).push {cls:=.ref C,data:=.fields #[.ref h.objs.size,.none,.none,.none,.bool false,.none]}).get? b=some o:=
  fun b o e=>Heap.get?_push_of_some _ (Heap.get?_push_of_some _ e)
 have IH:=ag _ _ ck
 have OK:=ag _ _ xH
 have TN:=aq _ ag
 have pF:((h.push {cls:=.type "tuple",data:=.seq rest.toArray}).push
   {cls:=.ref C,data:=.fields #[.ref h.objs.size,.none,.none,.none,.bool false,.none]}).get? (h.objs.size+1)=some
   {cls:=.ref C,data:=.fields #[.ref h.objs.size,.none,.none,.none,.bool false,.none]}:=by heap_get
 have SZ:(Value.ref C::.ref P::gc).contains (.ref C)=true:=by simp
 unfold isInstance
 repeat (first|with_reducible refine wpAny_loadPart_at pF ?_|(with_reducible refine wpAny_isSubtype_exc IH ?_;refine B SZ ?_)|wp_step)
 show wpAny _ _ (typeLookup (.ref C) _) _ _ _
 refine TN _ _ _ _ (fun _ _ e=>e) ?_
 refine wpAny_holding (wpAny_bind ?_)
 unfold bindSpecial
 refine wpAny_bind (wpAny_typeOf (T:="function") ⟨_,OK,yd⟩ ?_)
 refine B (if_pos (by decide)) ?_
 refine wpAny_pure (wpAny_bind (wpAny_mono (aA _ (h.objs.size+1) ⟨fun b o ah=>Heap.get?_push_of_some _ (Heap.get?_push_of_some _ ah),Heap.get?_none_of_le (Nat.le_succ _),h.objs.size,pF,Heap.get?_none_of_le (Nat.le_refl _),?_⟩) (fun r az aP=> ?_) fun _ _ x=>x))
 ·exact Heap.get?_push_of_some _ (Heap.get?_push_at rfl rfl)
 ·refine cm aP ?_;clear aP;intro u;subst u;intro cW
  wp_walk
  exact cW
theorem Nh {rest:List Value} {fI:Addr} {rU:Obj} {Q:Value->Shared->Prop}
  (ck:h.get? C=some (excClassObj nm q C N bs (.ref P::gc) hdct sn sub ab col dd k0 k1 k2 k3 k5 "Exception.__new__"))
  (aq:∀h',(∀b o,h.get? b=some o->h'.get? b=some o)->Looks (model aw w) h' (typeLookup (.ref C) "__init__") (some (.ref fI)))
  (xH:h.get? fI=some rU) (yd:rU.cls=.type "function")
  (aA:∀h' e,Heap.MadeExcOf h h' e (.ref C) rest->
   wpAny (model aw w) (A.under (.builtin "type.__call__" ⟨.ref C::rest,[]⟩)) (call (.ref fI) (.ref e::rest)) (fun r az=>r=.none/\Q (.ref e) az) E ⟨h',g,d,t,os⟩) (hrest:rest.length<=sizeLine:=by size_fits):
  wpAny (model aw w) A (call (.ref C) rest) Q E ⟨h,g,d,t,os⟩:=by
 have d8:=tc_lookup
 have fG:=tc_bind (.ref C)
 have gO:(⟨h,g,d,t,os⟩:Shared).TypeIs (.ref C) "type":=⟨_,ck,rfl⟩
 refine wpAny_call (codeAny_of_tree ?_)
 show wpAny _ _ (callAny (.ref C) _) _ _ _
 repeat (any_goals (first|assumption|with_reducible refine wpAny_loadPart_at ck ?_|wp_step))
 refine⟨rfl,?_⟩
 refine codeAny_call_builtin_at (Code.quiet_builtin _ (by decide+kernel)) entry_typeCall (wpAny_check_type_call_sub ck (WL (hrest:=hrest) ck aq xH yd fun h' e aY=> ?_))
 exact aA h' e aY
end
end Mine
end
section
open PySem PySem.W PySem.Calls PyProof.Rows PySem.Builtin PySem.Builtin.ObjectAttr
namespace Mine
structure mm (F:Frag) (C P:Addr):Prop where
 gp:∃nm q N bs sn sub ab col dd k0 k1 k2 k3 k5,F.lookup C=some (excClassObj nm q C N bs (.ref P::gc) true sn sub ab col dd k0 k1 k2 k3 k5 "Exception.__new__")
 sa:findIn F (.ref C) "__setattr__"=some (some (.builtin "object.__setattr__"))
theorem mm.e9 {F:Frag} {C P:Addr} {G:Prop} (h:mm F C P) (k:∀nm q N bs sn sub ab col dd k0 k1 k2 k3 k5,F.lookup C=some (excClassObj nm q C N bs (.ref P::gc) true sn sub ab col dd k0 k1 k2 k3 k5 "Exception.__new__")->G):G:=by
 obtain⟨nm,q,N,bs,sn,sub,ab,col,dd,k0,k1,k2,k3,k5,e⟩:=h.gp
 exact k nm q N bs sn sub ab col dd k0 k1 k2 k3 k5 e
theorem mm.cls {F:Frag} {C P:Addr} (h:mm F C P):∃cd,clsIn F C=some cd/\cd.mro=.ref C::.ref P::gc/\cd.hasDict=true:=
 h.e9 fun nm q N bs sn sub ab col dd k0 k1 k2 k3 k5 e=>⟨_,by unfold clsIn;(refine B e ?_;rfl),rfl,rfl⟩
section
variable{w:World} {F:Frag} {A:Around} {E:Value->Shared->Prop} {s:Shared} {C P x:Addr} {R:Result->Shared->Prop}
theorem Ey {r3:Obj} {gZ:Option Obj} {name:Str} {tk:Tok} {v:Value} (av:F.In s.heap) (I:InstAt s.heap x r3 C gZ) (ck:mm F C P) (aG:takerIn F C name=some none)
  (h:∀b,wpAny (model aw w) A.in1 (storeInOwnDict (.ref x) (.ref C) (.str name tk) name v b)
   (fun cJ az=>match cJ with|.done f=>R (.ok f) az|.again c'=>c'.quiet=true/\codeAny (model aw w) A c' R az) (fun e az=>R (.error e) az) s):
  codeAny (model aw w) A (.call (.builtin "object.__setattr__") ⟨[.ref x,.str name tk,v],[]⟩) R s:=by
 have rr:=PySem.F.store_object
 refine et ck.cls ?_;intro cd hc cq hd
 have sub:Looks (model aw w) s.heap (isInstance (.ref x) (.type "object")) true:=I.type.andThen (looks_mroIn av (by unfold mroIn;(refine B hc ?_;refine B (Option.bind_some _ _) ?_;refine B cq ?_);rfl))
 refine codeAny_call_builtin rr.slot.plain rr.entry (@check_slot (model aw w) _ _ s "object.__setattr__" "object" "__setattr__" (.ref x) [.str name tk,v] [] _ rr.kind rr.split sub (rr.args (.ref x) (.str name tk) v) ?_)
 refine ba (Option.bind_eq_some_iff.mp aG) ?_;intro sS bz aP
 have aY:Looks (model aw w) s.heap (mroOf (.ref C)) cd.mro:=(looks_clsIn av hc).andThen .now
 have hG:Looks (model aw w) s.heap (storeTaker? sS) none:=by
  cases sS with
  |none=>exact .now
  |some a=>
   refine ba (Option.map_eq_some_iff.mp aP) ?_;intro b ah e
   refine(looks_takesIn av ah).andThen ?_
   cases b
   ·exact .now
   ·exact hM e
 (rw [osa_eq];refine B (refuse_eq _ _) ?_)
 refine wpAny_bind (wpAny_bind (I.type.here (wpAny_bind (aY.here ?_))))
 (refine B cq ?_;rw [refuseLoop_ref,refuseLoop_ref];refine B (PySem.F.store_Exception.passes _) ?_)
 refine wpAny_pure (wpAny_bind (I.type.here (wpAny_bind ((looks_findIn av bz).here (wpAny_bind (hG.here ?_))))))
 exact h _
theorem EX {es:List DictEntry} {n:Nat} {nm:Str} {v:Value} {l:List (Str×Value)} {dx:Addr} {Q:Fin->Shared->Prop} (D:s.heap.get? dx=some (dictOf es n)) (aB:fB es l) (aE:nm∉l.map (·.1)) (hz:es.length<1000)
  (h:∀h' d4,Heap.SameBut dx s.heap h'->h'.get? dx=some (dictOf d4 (n+1))->fB d4 (l++[(nm,v)])->d4.length=es.length+1->Q (.done (.ret .none)) {s with heap:=h',toks:=s.toks+1}):
  wpAny (model aw w) A (do nsSet dx nm v;lookBehind dx (some (.str nm 0));ret .none) Q E s:=by
 have ak:es.any (·.key.isStr nm)=false:=by
  cases q:es.any (·.key.isStr nm) with
  |false=>rfl
  |true=>obtain⟨e,aX,z⟩:=List.any_eq_true.mp q;replace z:=(aB.fresh aE e aX)▸z;cases z
 have e:Obj.putName nm (PyData.keyHash w.params nm) (.str nm s.toks) v (dictOf es n)=dictOf (es++[⟨PyData.keyHash w.params nm,.str nm s.toks,v⟩]) (n+1):=by
  (rw [putName_dict];refine B (putL_new (aB.fresh aE)) ?_)
  show dictOf _ (if es.any (·.key.isStr nm) then n else n+1)=_
  (refine B ak ?_;refine B (if_neg Bool.false_ne_true) ?_;rfl)
 refine wpAny_bind ?_
 unfold nsSet
 refine wpAny_bind (wpAny_bind (wpAny_askSetting (wpAny_pure (wpAny_bind (wpAny_mkText (wpAny_bind (wpAny_loadPart D ?_)))))))
 dsimp only
 have c:aRefKeyMayBeTheName nm es.toArray=false:=by
  (refine B (aRefKeyMayBeTheName_at _ _) ?_;refine bt Array.any_toList ?_;refine bt Array.any_toList ?_)
  show(!es.any (·.key.isStr nm)&&es.any (·.refKey))=false
  (refine B aB.ue ?_;refine B (Bool.and_false _) ?_;rfl)
 refine B c ?_
 refine wpAny_updatePart D ?_
 have sX:(s.heap.update dx (Obj.putName nm (PyData.keyHash w.params nm) (.str nm s.toks) v)).get? dx=some (dictOf (es++[⟨PyData.keyHash w.params nm,.str nm s.toks,v⟩]) (n+1)):=by
  have:=Heap.get?_update_self (Obj.putName nm (PyData.keyHash w.params nm) (.str nm s.toks) v) D (by refine B e ?_;rfl)
  replace this:=e▸this;exact this
 refine wpAny_bind (wpAny_lookBehind sX (pastItsLine_dict (by(refine B List.size_toArray ?_;refine B List.length_append ?_;refine B List.length_cons ?_;refine B List.length_nil ?_;refine B sizeLine_eq ?_);exact Fv hz)) ?_)
 exact wpAny_pure (h _ _ (Heap.SameBut.update ..) sX aB.yc (by simp))
theorem NT {nm:Str} {v:Value} {vs:Array Value} {Q:Unit->Shared->Prop} (av:F.In s.heap) (ck:mm F C P) (aG:takerIn F C nm=some none) (aX:s.heap.get? x=some {cls:=.ref C,data:=.fields vs})
  (h:∀h' tk dx d4,dx≠x->(∀b o,b≠x->s.heap.get? b=some o->h'.get? b=some o)->h'.get? x=some {cls:=.ref C,dict:=some dx,data:=.fields vs}->h'.get? dx=some (dictOf d4 1)->fB d4 [(nm,v)]->d4.length=1->s.heap.get? dx=none->Q () {s with heap:=h',toks:=tk}):
  wpAny (model aw w) A (setAttr (.ref x) nm v) Q E s:=by
 have In:InstAt s.heap x {cls:=.ref C,data:=.fields vs} C none:=⟨aX,rfl,rfl,trivial⟩
 refine set_plain av In ck.sa (Ey (s:={s with toks:=s.toks+1}) av In ck aG fun b=> ?_)
 refine et ck.cls ?_;intro cd hc aY hd
 refine wpAny_bind (wpAny_pure (wpAny_bind (wpAny_bind (wpAny_loadPart aX (wpAny_bind (Looks.here (s:={s with toks:=s.toks+1}) (looks_clsIn av hc) ?_))))))
 refine B hd ?_
 have b1:s.heap.objs.size≠x:=Nat.ne_of_gt (Heap.lt_size aX)
 have rA:(s.heap.push emptyDict).get? x=some {cls:=.ref C,data:=.fields vs}:=Heap.get?_push_of_some _ aX
 refine wpAny_bind (wpAny_alloc (wpAny_bind (wpAny_update rA (wpAny_pure (a:=some s.heap.objs.size) ?_))))
 have si:((s.heap.push emptyDict).update x fun o=>{cls:=o.cls,dict:=some s.heap.objs.size,data:=o.data,slots:=o.slots}).get? x=some {cls:=.ref C,dict:=some s.heap.objs.size,data:=.fields vs}:=
  Heap.get?_update_self _ rA rfl
 have hH:((s.heap.push emptyDict).update x fun o=>{cls:=o.cls,dict:=some s.heap.objs.size,data:=o.data,slots:=o.slots}).get? s.heap.objs.size=some (dictOf [] 0):=
  (Heap.get?_update_ne _ _ _ _ b1).trans (Heap.get?_push_size _ rfl)
 refine wpAny_bind (wpAny_pure ?_)
 refine EX (s:={s with heap:=_,toks:=s.toks+1}) hH (l:=[]) rfl (by simp) (by decide) fun h' d4 hs M O Y=> ?_
 refine h h' _ s.heap.objs.size d4 b1 (fun b o ah e=> ?_) ((hs.2 x (Ne.symm b1)).trans si) M O Y e8
 have Kh:b≠s.heap.objs.size:=fun q=>by(replace e:=q▸e;replace e:=e8▸e);exact Z e
 exact(hs.2 b Kh).trans ((Heap.get?_update_ne _ _ _ _ ah).trans (Heap.get?_push_of_some _ e))
theorem V4 {nm:Str} {v:Value} {vs:Array Value} {dx:Addr} {es:List DictEntry} {n:Nat} {l:List (Str×Value)} {Q:Unit->Shared->Prop} (av:F.In s.heap) (ck:mm F C P) (aG:takerIn F C nm=some none) (b1:dx≠x)
  (aX:s.heap.get? x=some {cls:=.ref C,dict:=some dx,data:=.fields vs}) (D:s.heap.get? dx=some (dictOf es n)) (aB:fB es l) (aE:nm∉l.map (·.1)) (hz:es.length<1000)
  (h:∀h' tk,Heap.SameBut dx s.heap h'->h'.get? dx≠none->Q () {s with heap:=h',toks:=tk}):
  wpAny (model aw w) A (setAttr (.ref x) nm v) Q E s:=by
 have In:InstAt s.heap x {cls:=.ref C,dict:=some dx,data:=.fields vs} C (some (dictOf es n)):=⟨aX,rfl,rfl,D⟩
 refine set_plain av In ck.sa (Ey (s:={s with toks:=s.toks+1}) av In ck aG fun b=> ?_)
 refine et ck.cls ?_;intro cd hc aY hd
 refine wpAny_bind (wpAny_pure (wpAny_bind (wpAny_bind (wpAny_loadPart aX (wpAny_bind (Looks.here (s:={s with toks:=s.toks+1}) (looks_clsIn av hc) ?_))))))
 refine B hd ?_
 refine wpAny_pure (a:=some dx) (wpAny_bind (wpAny_pure ?_))
 exact EX (s:={s with toks:=s.toks+1}) D aB aE hz fun h' d4 hs M O Y=>h h' _ hs (by refine B M ?_;nofun)
end
end Mine
end
section
open PySem PySem.W PySem.Calls PyProof.Rows
namespace Mine
structure xy (F:Frag) (C:Addr):Prop where
 name:hv F "TreeFault"=some (.ref C)
 dB:hv F "Exception"=some (.type "Exception")
 GP:takerIn F C "what"=some none
 Ea:takerIn F C "at"=some none
 cls:∃P,mm F C P
 Cj:∃fI ob bK t,findIn F (.ref C) "__init__"=some (some (.ref fI))/\kg F (cH 2 0) fI ob bK/\ob.cls=.type "function"/\∀s,F.In s.heap->∀v u,BindsTo s bK ⟨[v,u],[]⟩ [("self",v),("what",u),("at",.int (-1) t)]
theorem Rx:params (cH 2 0)=(["self","what","at"]:List Str):=by kernel_rfl
theorem x5 {x:Str} (h:x="self"\/x="what"\/x="at"):(bN (cH 2 0)).names.lookup x=some .local:=by rcases h with rfl|rfl|rfl<;>kernel_rfl
section
variable{w:World} {CM:cp} {bj:dM} {F:Frag} {K:Top} {env:Env} {J:Scope} {A:Around} {E:Value->Shared->Prop} {ρ ρ₀ aT ρ':a5} {s db a7 az:Shared} {fs fs' fs₁:X} {R:bk}
theorem e1.no {h h':Heap} {x:Str} {v:Value} (q:e1 env J h x v) (ae:J.names.lookup x=some .local) (ag:∀o,h.get? env.locals=some o->h'.get? env.locals=some o):e1 env J h' x v:=by
 rcases q with⟨M,O,m,⟨o,es,cs,e,r⟩,aY⟩|⟨M|M,_⟩
 ·exact .inl ⟨M,O,m,⟨o,es,cs,ag o e,r⟩,aY⟩
 ·replace M:=ae▸M;cases M
 ·replace M:=ae▸M;cases M
theorem Ji {f:Value} {pos g2 hE:Pos} {x y:Str} {u v:Value} {Q:Args->Shared->Prop} (M:e1 env J s.heap x u) (O:e1 env J s.heap y v) (h0:oD env J) (o3:(x==("__debug__":Str))=false) (hC:(y==("__debug__":Str))=false) (h:Q ⟨[u,v],[]⟩ s):
  wpAny (model aw w) A (evalArgs f true (backTo pos (starEach [.Name x g2,.Name y hE] env)) []) Q E s:=by
 show wpAny _ _ (evalArgs f true ((false,eval (.Name x g2) env)::(false,_)::[]) []) _ _ _
 refine evalArgs_plain (spliced_cons (M.eval h0 o3 (spliced_cons ?_)))
 refine B (if_neg (by decide)) ?_
 exact O.eval h0 hC (spliced_nil h)
theorem HD (bl:pO CM bj F) (bA:K.f=F) {k:Nat} (bc:ek K k A) {C:Addr} (jm:xy F C) (I:aK w CM K env J ρ s fs) {v:Value} {Q:Value->Shared->Prop}
  (h:∀h' tk e T dx,(∀b o,s.heap.get? b=some o->h'.get? b=some o)->s.heap.get? e=none->h'.get? e=some {cls:=.ref C,dict:=some dx,data:=.fields #[.ref T,.none,.none,.none,.bool false,.none]}->Q (.ref e) {s with heap:=h',toks:=tk}):
  wpAny (model aw w) A (call (.ref C) [v]) Q E s:=by
 refine wW jm.Cj ?_;intro fI ob bK t aR bU I8 re
 refine bT jm.cls ?_;intro P ck
 have gv:=Rx
 have h1:=x5 (.inl rfl)
 have jM:=x5 (.inr (.inl rfl))
 have uM:=x5 (.inr (.inr rfl))
 have e5:F.In s.heap:=bA▸I.in
 refine ck.e9 fun nm q N bs sn sub ab col dd k0 k1 k2 k3 k5 oI=> ?_
 obtain⟨bx,g,d,tk,os⟩:=s
 have pu:∀{h':Heap},(∀b o,bx.get? b=some o->h'.get? b=some o)->F.In h':=fun ag b x e=>ag _ _ (e5 b x e)
 refine Nh (e5 _ _ oI) (fun h' ag=>looks_findIn (pu ag) aR) (e5 _ _ bU.gp) I8 (fun M e aY=> ?_) (by refine B sizeLine_eq ?_;simp)
 have iD:=aY.keeps
 have i0:=pu iD
 refine et aY.there ?_;intro Bk iN _ _
 have tV:ρ e=.free:=(I.base.c0 _).mpr aY.new
 have nV:cM w CM K (bQ (bo ρ) M) ⟨M,g,d,tk,os⟩ fs.per:=I.base.bo.dF (tk:=tk) iD
 have lN:ii (bQ (bo ρ) M):=fun a=>⟨fun x q=>(hX ρ a).1 x (gb.mp q),fun q=>(hX ρ a).2.1 (ou.mp q),fun q=>(hX ρ a).2.2 (o8.mp q)⟩
 have Tz:bQ (bo ρ) M e=.aU:=gF (gQ.mpr tV) iN
 have fD:(params (cH 2 0)).length=[Value.ref e,v,.int (-1) t].length:=by refine B gv ?_;rfl
 have km:(params (cH 2 0)).zip [Value.ref e,v,.int (-1) t]=([("self",.ref e),("what",v),("at",.int (-1) t)]:List (Str×Value)):=by refine B gv ?_;rfl
 have mM:=bU.J
 refine wpAny_call (DQ (s:=⟨M,g,d,tk,os⟩) (Nat.lt_of_le_of_lt (vP (k:=k) A _ _ _) bc.depth) (i0 _ _ bU.gp) bU.data (bl.sq _ i0) (codeRec_of i0 bU.code) bU.body (re _ i0 _ _) bU.tB (fun y aQ=> ?_) (fun aj x=> ?_) (by refine B bU.scope ?_;exact bU.J.tJ) (by refine B bU.scope ?_;exact bU.J.gen) (by refine B bU.scope ?_;exact bU.J.kind))
 ·have:y.1∈params (cH 2 0):=by(refine bt (rb _ fD) ?_;refine B km ?_);exact List.mem_map.mpr ⟨_,aQ,rfl⟩
  refine B bU.scope ?_
  rcases mM.par _ this with q|q
  ·exact .inl q
  ·exact .inr ⟨q,mM.ff _ _ q⟩
 replace x:=(Eq.symm km)▸x
 have a1:=tD (w:=w) (CM:=CM) (K:=K) (loc:=[]) (ρ:=bQ (bo ρ) M) bU fD (fun y bh g=>nomatch g) nV lN rfl x
 have lJ:=m3 bU fD rfl x (y:="self") (v:=.ref e) (by refine B km ?_;simp)
 have nP:=m3 bU fD rfl x (y:="what") (v:=v) (by refine B km ?_;simp)
 have yP:=m3 bU fD rfl x (y:="at") (v:=.int (-1) t) (by refine B km ?_;simp)
 have oQ:=a1.dI.c2
 have AR:(callEnvC bK M.objs.size fI).locals≠e:=fun q=>by
  have M:=a1.dI.cL
  have O:=a1.ext.aU _ Tz
  replace O:=(Eq.symm q)▸O
  exact absurd (M.symm.trans O) (by nofun)
 refine jd x.toInCall.same ?_;intro rv X3 u;subst u
 have lB:∀b o,bx.get? b=some o->rv.get? b=some o:=fun b o e=>x.toInCall.keep b o (iD b o e)
 have im:=x.toInCall.keep _ _ iN
 have A5:∃o,rv.get? (callEnvC bK M.objs.size fI).locals=some o:=by obtain⟨o,es,cs,e,_⟩:=x.toInCall.ns;exact⟨o,e⟩
 have CI:∀{b:Addr} {o:Obj},bx.get? b=some o->b≠e:=fun h q=>by(replace h:=q▸h;replace h:=aY.new▸h);exact Z h
 generalize callEnvC bK M.objs.size fI=se at*
 show wpAny _ _ (execs [.Expr (.Call (.Attribute (.Name "Exception" _) "__init__" _) [.Name "self" _,.Name "what" _] [] _) _,.Assign [.Attribute (.Name "self" _) "what" _] (.Name "what" _) _,.Assign [.Attribute (.Name "self" _) "at" _] (.Name "at" _) _] _) _ _ _
 refine wpAny_execs_cons (wpAny_Expr_any (wJ rfl rfl (by decide) rfl (nE jm.dB (by kernel_rfl) oQ (pu lB) (by decide+kernel) (XY (pu lB) (callWith_builtin rfl (Ji (lJ.no h1 fun _ e=>e) (nP.no jM fun _ e=>e) oQ (by decide+kernel) (by decide+kernel) ?_))))) (zi oQ) rfl)
 refine SD (lB _ _ (e5 _ _ oI)) im fun Y T Dj Oj=> ?_
 have w5:∀b o,bx.get? b=some o->Y.get? b=some o:=fun b o q=>Dj b o (CI q) (lB b o q)
 have hG:∀o,rv.get? se.locals=some o->Y.get? se.locals=some o:=fun o q=>Dj _ _ AR q
 refine wpAny_execs_cons (plainObj_wpAny_Assign_Attribute ((nP.no jM hG).eval oQ (by decide+kernel) ((lJ.no h1 hG).eval oQ (by decide+kernel) ?_)) (hs:=rfl))
 refine NT (pu w5) ck jm.GP Oj fun aC X9 dx YH l2 F3 EC UL Te I0 tX=> ?_
 have AL:∀b o,bx.get? b=some o->aC.get? b=some o:=fun b o q=>F3 b o (CI q) (w5 b o q)
 have AG:∀o,Y.get? se.locals=some o->aC.get? se.locals=some o:=fun o q=>F3 _ _ AR q
 have YW:se.locals≠dx:=fun q=>by
  refine bT A5 ?_;clear A5;intro o cq
  have:=hG o cq
  replace this:=q▸this
  dsimp only at tX
  replace this:=tX▸this;exact Z this
 refine wpAny_execs_cons (plainObj_wpAny_Assign_Attribute (((yP.no uM hG).no uM AG).eval oQ (by decide+kernel) (((lJ.no h1 hG).no h1 AG).eval oQ (by decide+kernel) ?_)) (hs:=rfl))
 refine V4 (pu AL) ck jm.Ea l2 EC UL Te (by simp;decide+kernel) (by exact VB I0) fun bR RB E2 Yv=>wpAny_execs_nil ?_
 refine⟨rfl,h bR RB e T dx (fun b o q=> ?_) aY.new ((E2.2 _ (Ne.symm l2)).trans EC)⟩
 have LY:b≠dx:=fun z=>by
  have:=w5 b o q
  replace this:=z▸this
  dsimp only at tX
  replace this:=tX▸this;exact Z this
 exact(E2.2 b LY).trans (AL b o q)
end
end Mine
end
section
open PySem PySem.W PySem.Calls PyProof.Rows
namespace Mine
structure jr (CM:cp) (bj:dM) (F:Frag):Prop extends o9 CM bj F where
 wH:∃C,CM "TreeFault"=some C/\xy F C
section
variable{pK:Model} {A:Around} {E:Value->Shared->Prop} {env:Env}
variable{nm q:Str} {C N:Addr} {bs bm:List Value} {hdct:Bool} {sn:List Str} {sub:List Value} {ab:Bool} {col:Option Bool} {dd:Option Addr} {k0 k1 k2 k3 k5:Option Value} {newId:String}
theorem Tw {s:Shared} {x:Sem Value} {Q:Flow->Shared->Prop} (L7:bm.contains (.type "BaseException")=true) (bx:A.handled=none)
  (h:wpAny pK A x (fun v aj=>∃e t dx,v=.ref e/\aj.heap.get? C=some (excClassObj nm q C N bs bm hdct sn sub ab col dd k0 k1 k2 k3 k5 newId)/\
   aj.heap.get? e=some {cls:=.ref C,dict:=some dx,data:=.fields #[.ref t,.none,.none,.none,.bool false,.none]}/\E (.ref e) aj) E s):
  wpAny pK A (raiseStmt env (some x) none) Q E s:=by
 have rl:(Value.ref C::bm).contains (.type "BaseException")=true:=by(refine B List.contains_cons ?_;refine B L7 ?_;refine B (Bool.or_true _) ?_;rfl)
 unfold raiseStmt
 refine wpAny_bind (wpAny_mono h (fun v aj bw=> ?_) fun _ _ x=>x)
 refine nJ bw ?_;clear bw;intro e t dx u;subst u;intro ck aX h0
 obtain⟨an,g,d,tk,os⟩:=aj
 repeat (first|with_reducible refine wpAny_loadPart_at aX ?_|with_reducible refine wpAny_loadPart_at ck ?_|(with_reducible refine wpAny_isSubtype_exc ck ?_;refine B rl ?_)|wp_step)
 exact wpAny_raiseNew_none bx h0
end
section
variable{w:World} {CM:cp} {bj:dM} {F:Frag} {K:Top} {env:Env} {J:Scope} {A:Around} {E:Value->Shared->Prop} {ρ ρ₀ aT ρ':a5} {s db a7 az:Shared} {fs fs' fs₁:X} {R:bk}
theorem Tl (bl:jr CM bj F) (bA:K.f=F) {k:Nat} (bc:ek K k A) (aE:K.eH=none) {c:Str} {mH zk pos Ad:Pos} {m:Str} {mk:Option Str} (hc:c=("TreeFault":Str)) (ae:J.names.lookup c=some .globalImplicit) {kk} (a1:cr w CM K env J aT a7 ρ s fs):
  wpAny (model aw w) A (exec (.Raise (some (.Call (.Name c mH) [.Constant (.str m) kk Ad] [] zk)) none pos) env) (ed w CM K env J aT a7 ρ s .dB fs) (hD w CM K env J aT a7 .dB fs) s:=by
 subst hc
 refine ba bl.wH ?_;intro C xF jm
 have t7:=bl.too9.touc.toxn.topZ.tojB.totZ.topO
 have bx:A.handled=none:=bc.eH.e9 id fun e ob q _ _=>hM (q.symm.trans aE)
 have I:=a1.dI
 have e5:F.In s.heap:=bA▸I.in
 refine bT jm.cls ?_;intro P ck
 refine ck.e9 fun nm q N bs sn sub ab col dd k0 k1 k2 k3 k5 oI=> ?_
 rw [arm_exec_Raise]
 simp only [evalOpt,Option.map]
 refine wpAny_bind (wpAny_standAt (Tw (C:=C) (nm:=nm) (q:=q) (N:=N) (bs:=bs) (bm:=.ref P::gc) (hdct:=true) (sn:=sn) (sub:=sub) (ab:=ab) (col:=col) (dd:=dd) (k0:=k0) (k1:=k1) (k2:=k2) (k3:=k3) (k5:=k5) (newId:="Exception.__new__") (by rfl) bx ?_))
 refine wpAny_bind (wpAny_mono (Call_Name rfl (nE jm.name ae I.c2 e5 (by decide+kernel) ?_)) (fun v jQ fj=>wpAny_bind (wpAny_standAt (wpAny_pure fj))) fun _ _ x=>x)
 unfold callWith
 show wpAny _ _ (holding _ (evalArgs (.ref C) true ((false,eval (.Constant (.str m) kk Ad) env)::[]) [])>>=_) _ _ _
 refine wpAny_bind (wpAny_holding (evalArgs_plain (spliced_cons (wpAny_Constant_str (spliced_nil (wpAny_bind (wpAny_standAt ?_)))))))
 refine wpAny_bind (wpAny_keeperOf_exc (e5 _ _ oI) ?_)
 refine wpAny_bind (HD t7 bA bc jm (I.tok (tk:=s.toks+1)) fun h' tk e T dx ag b1 aX=>wpAny_bind (wpAny_holding (wpAny_point (wpAny_pure ?_))))
 refine⟨e,T,dx,rfl,ag _ _ (e5 _ _ oI),aX,rfl,bQ ρ h',e,a1.step (I.dF ag) (a2.dF ag) ce.dF,rfl,?_⟩
 have tV:ρ e=.free:=(I.base.c0 _).mpr b1
 exact⟨⟨a1.ext.h3 _ tV,gF tV aX⟩,C,_,_,xF,aX,rfl,rfl,rfl,by simp,rfl,.inl rfl⟩
end
end Mine
end
section
open PySem PySem.W PySem.Calls PyProof.Rows
namespace Mine
section
variable{w:World} {CM:cp} {bj:dM} {F:Frag} {K:Top} {env:Env} {J:Scope} {A:Around} {E:Value->Shared->Prop} {ρ ρ₀ aT ρ':a5} {s db a7 az:Shared} {fs fs' fs₁:X} {R:bk}
theorem aK.qg {D:List Addr} {h':Heap} {tk:Nat} (I:aK w CM K env J ρ s fs) (d7:∀x,J.names.lookup x≠some .free) (dQ:∀a∈D,ρ a=.aU) (dO:∀a∈D,∃ob,h'.get? a=some ob)
  (ag:∀b o,b∉D->¬e3 (ρ b)->s.heap.get? b=some o->h'.get? b=some o) (hs:∀b o,e3 (ρ b)->s.heap.get? b=some o->∃f6,h'.get? b=some {o with slots:=f6}):
  aK w CM K env J (bQ ρ h') {s with heap:=h',toks:=tk} fs:=by
 have f3:∀{a:Addr},ρ a≠.aU->a∉D:=fun h q=>h (dQ _ q)
 have eW:∀{a:Addr} {o:Obj},ρ a≠.aU->¬e3 (ρ a)->s.heap.get? a=some o->h'.get? a=some o:=fun M O e=>ag _ _ (f3 M) O e
 have aB:∀a o,ρ a=.be o->bQ ρ h' a=.be o:=fun a o e=>hU.mpr e
 have an:∀a o,ρ a=.per o->bQ ρ h' a=.per o:=fun a o e=>gV.mpr e
 have bx:∀a o,ρ a=.aD o->bQ ρ h' a=.aD o:=fun a o e=>gb.mpr e
 have ns:∀{m:Str->Option Value},s.heap.Ns env.locals m->h'.Ns env.locals m:=fun{m} ⟨o,es,cs,bZ,bn⟩=>by
  refine bT (hs _ _ (by refine B I.cL ?_;trivial) bZ) ?_;intro f6 e
  exact⟨_,es,cs,e,bn⟩
 refine⟨⟨fun a x e=>aB _ _ (I.base.fV a x e),fun a x e=>aB _ _ (I.base.fC a x e),fun a e=> ?_,fun a o e=> ?_,fun a=> ?_,fun k cz=>let⟨a,e⟩:=I.base.gh k cz;⟨a,an _ _ e⟩,fun a k e=> ?_,fun a b k ak ar=>I.base.inj a b k (gV.mp ak) (gV.mp ar)⟩,
   I.c2,ou.mpr I.cL,let⟨m,q⟩:=I.fv;⟨m,ns q⟩,fun x bh e=> ?_,fun x e=> ?_,fun x c bZ bn=>absurd bZ (d7 x),I.apart,fun a x e=> ?_,fun a b x bZ bn=>I.fq a b x (gb.mp bZ) (gb.mp bn)⟩
 ·obtain⟨M,o,O,Y⟩:=I.base.fl a e
  refine bT (hs _ _ M O) ?_;intro f6 aC
  exact⟨DB M,_,aC,Y⟩
 ·have e:=hU.mp e
  exact eW (bI e) (by refine B e ?_;exact fun q=>q) (I.base.bL _ _ e)
 ·refine Ep (I.base.c0 a) fun e=> ?_
  cases bx:s.heap.get? a with
  |none=>rfl
  |some o=>
   by_cases q:a∈D
   ·exact(dO a q).elim fun ob z=>hM (z.symm.trans e)
   ·by_cases bn:e3 (ρ a)
    ·exact(hs _ _ bn bx).elim fun f6 z=>hM (z.symm.trans e)
    ·exact hM ((ag _ _ q bn bx).symm.trans e)
 ·have e:=gV.mp e
  obtain⟨x,M,O⟩:=I.base.fT a k e
  exact⟨x,M,O.bu aB an fun ob q=>eW (bI e) (by refine B e ?_;exact fun q=>q) q⟩
 ·obtain⟨v,M,O⟩:=I.eZ x bh e
  refine⟨v,?_,O.bu aB an bx⟩
  rcases M with⟨bV,cD,m,q,dX⟩|⟨bV,cD,c,cZ,⟨o,dX,sc⟩⟩
  ·exact .inl ⟨bV,cD,m,ns q,dX⟩
  ·refine .inr ⟨bV,cD,c,cZ,o,?_,sc⟩
   rcases bV with bV|bV
   ·obtain⟨c',e4,cS,dA,_⟩:=I.cells x bV
    replace cS:=cZ▸cS;cases cS
    exact eW (bI dA) (by refine B dA ?_;exact fun q=>q) dX
   ·exact absurd bV (d7 x)
 ·obtain⟨c,v,bZ,bn,ef,⟨o,ib,iy⟩⟩:=I.cells x e
  exact⟨c,v,bZ,o8.mpr bn,ef,o,eW (bI bn) (by refine B bn ?_;exact fun q=>q) ib,iy⟩
 ·have e:=gb.mp e
  obtain⟨aL,c,M,O⟩:=I.eX a x e
  exact⟨aL,c,M,O.bu aB an fun ob q=>eW (bI e) (by refine B e ?_;exact fun q=>q) q⟩
theorem a2.qg {D:List Addr} {h':Heap} {tk:Nat} (av:a2 aT a7 ρ s) (dQ:∀a∈D,aT a=.free)
  (ag:∀b o,b∉D->¬e3 (ρ b)->s.heap.get? b=some o->h'.get? b=some o) (hs:∀b o,e3 (ρ b)->s.heap.get? b=some o->∃f6,h'.get? b=some {o with slots:=f6}):
  a2 aT a7 (bQ ρ h') {s with heap:=h',toks:=tk} where
 bL:=fun a ob e=>hU.mpr (av.bL a ob e)
 aU:=fun a e=>mG (av.aU a e)
 per:=fun a k e=>gV.mpr (av.per a k e)
 cL:=fun a e=>ou.mpr (av.cL a e)
 ff:=fun a e=>o8.mpr (av.ff a e)
 stk:=fun a e=>GR.mpr (av.stk a e)
 aD:=fun a x e=>by
  rcases av.aD a x e with q|q|⟨ob,q⟩
  ·exact .inl (gb.mpr q)
  ·exact .inr (.inl ((lZ (bI q)).trans q))
  ·exact .inr (.inr ⟨ob,hU.mpr q⟩)
 keep:=fun a ob e q=>ag a ob (fun z=>by replace e:=(dQ a z)▸e;cases e) (by refine B (av.aU a e) ?_;exact fun q=>q) (av.keep a ob e q)
 ig:=fun a ob e q=>by
  refine bT (av.ig a ob e q) ?_;intro f6 ci
  refine bT (hs a _ (by refine B (av.stk a e) ?_;trivial) ci) ?_;intro HE t8
  exact⟨HE,t8⟩
 ao:=by obtain⟨h,mj,e⟩:=av.ao;refine B e ?_;exact⟨h',tk,rfl⟩
theorem cr.qg {D:List Addr} {h':Heap} {tk:Nat} (a1:cr w CM K env J aT a7 ρ s fs) (d7:∀x,J.names.lookup x≠some .free) (dQ:∀a∈D,ρ a=.aU/\aT a=.free) (dO:∀a∈D,∃ob,h'.get? a=some ob)
  (ag:∀b o,b∉D->¬e3 (ρ b)->s.heap.get? b=some o->h'.get? b=some o) (hs:∀b o,e3 (ρ b)->s.heap.get? b=some o->∃f6,h'.get? b=some {o with slots:=f6}):
  cr w CM K env J aT a7 (bQ ρ h') {s with heap:=h',toks:=tk} fs:=
 ⟨a1.dI.qg d7 (fun a h=>(dQ a h).1) dO ag hs,a1.ext.qg (fun a h=>(dQ a h).2) ag hs,fun a x e=>a1.gA a x (gb.mp e)⟩
noncomputable def lp (CM:cp) (aT ρ:a5) (h:Heap) (a:Addr) (ai:Value):Prop:=
 aT a=.free/\ρ a=.aU/\∃C ob vs,CM "TreeFault"=some C/\h.get? a=some ob/\ob.isFreed=false/\ob.cls=.ref C/\ob.data=.fields vs/\2<vs.size/\vs[2]? =some .none/\
  ∃T lY ts,vs[1]? =some (.ref T)/\aT T=.free/\ρ T=.aU/\T≠a/\h.get? T=some lY/\lY.data=.fields ts/\ts[3]? =some ai
theorem lp.at {h:Heap} {a:Addr} (x:lp CM aT ρ h a .none):gi CM aT ρ h a:=
 ⟨⟨x.1,x.2.1⟩,x.2.2.imp fun C q=>q.imp fun ob q=>q.imp fun vs q=>⟨q.1,q.2.1,q.2.2.1,q.2.2.2.1,q.2.2.2.2.1,q.2.2.2.2.2.1,q.2.2.2.2.2.2.1,.inr (q.2.2.2.2.2.2.2.imp fun T q=>q.imp fun lY q=>q.imp fun ts q=>⟨q.1,⟨q.2.1,q.2.2.1⟩,q.2.2.2⟩)⟩⟩
theorem lp.head {h:Heap} {a C:Addr} {ai:Value} (x:lp CM aT ρ h a ai) (ck:CM "TreeFault"=some C):∃ob,h.get? a=some ob/\ob.cls=.ref C:=
 x.2.2.elim fun oA q=>q.elim fun ob q=>q.elim fun vs q=>⟨ob,q.2.1,q.2.2.2.1.trans (congrArg Value.ref (Option.some.inj (q.1.symm.trans ck)))⟩
theorem lp.obj {h:Heap} {a:Addr} {ai:Value} (x:lp CM aT ρ h a ai):∃ob,h.get? a=some ob/\rJ ob:=
 x.2.2.elim fun oA q=>q.elim fun ob q=>q.elim fun vs q=>⟨ob,q.2.1,q.2.2.1,vs,q.2.2.2.2.1,q.2.2.2.2.2.1,q.2.2.2.2.2.2.1⟩
theorem Nq {c6:Heap} (I:aK w CM K env J ρ s fs) (LH:∀b,e3 (ρ b)->c6.get? b=s.heap.get? b) (l:List Env):(∀e∈l,e.scope.kind≠.module/\∃L,e.frame=some L/\L∈K.frames)->c6.FunFrames {objs:= #[]} l:=by
 induction l with
 |nil=>intro _;trivial
 |cons e l ih=>
  intro h
  refine cm (h e List.mem_cons_self) ?_;intro M O
  refine ba O ?_;clear O;intro L O Y
  refine cm (I.base.fl L Y) ?_;intro dL aC
  refine ba aC ?_;clear aC;intro o aC bR
  exact⟨M,⟨L,o,O,rfl,(LH L dL).trans aC,bR⟩,ih fun ci aX=>h ci (List.mem_cons_of_mem _ aX)⟩
theorem JU (I:aK w CM K env J ρ s fs) {l:List Env} (h:∀e∈l,e.scope.kind≠.module/\∃L,e.frame=some L/\L∈K.frames) {b:Addr} (ah:b∈l.filterMap (·.frame)):e3 (ρ b):=by
 refine ba (List.mem_filterMap.mp ah) ?_;intro e aX aB
 obtain⟨_,L,O,Y⟩:=h e aX
 replace O:=aB▸O;cases O
 exact(I.base.fl _ Y).1
theorem yN (d7:∀x,J.names.lookup x≠some .free) (a1:cr w CM K env J aT a7 ρ s fs) {a:Addr} {ai:Value} {Q:Unit->Shared->Prop} (x:lp CM aT ρ s.heap a ai)
  (h:∀ρ' h',cr w CM K env J aT a7 ρ' {s with heap:=h'} fs->lp CM aT ρ' h' a .none->(∀e,s.heap.get? a=some e->h'.get? a=some e)->Q () {s with heap:=h'}):wpAny (model aw w) A (setFlight (.ref a) none) Q E s:=by
 obtain⟨M,O,C,ob,vs,ez,ey,hW,ng,kE,o0,py,T,lY,ts,d1,eO,iE,n5,gU,kD,oB⟩:=x
 have ET:3<ts.size:=(Array.getElem?_eq_some_iff.mp oB).1
 have other:∀b,b≠T->(s.heap.update T (Obj.mapFields (·.setIfInBounds 3 ((none:Option Addr).elim Value.none fun f=>rawInt f)))).get? b=s.heap.get? b:=
  fun b ah=>Heap.get?_update_other _ _ (Ne.symm ah)
 unfold setFlight
 refine wpAny_bind (wpAny_field ey kE d1 ?_)
 refine B (if_pos (show(Value.ref T !=Value.none)=true from by simp)) ?_
 have th:=Heap.get?_update_self (Obj.mapFields (·.setIfInBounds 3 ((none:Option Addr).elim Value.none fun f=>rawInt f))) gU (Obj.isFreed_of_fields (Obj.data_mapFields kD _))
 have dQ:∀b∈[T],ρ b=.aU/\aT b=.free:=fun b ah=>by refine B (List.mem_singleton.mp ah) ?_;exact⟨iE,eO⟩
 refine wpAny_setField gU kD ET (h _ _ (a1.qg (tk:=s.toks) (D:=[T]) d7 dQ (fun b ah=>by refine B (List.mem_singleton.mp ah) ?_;exact⟨_,th⟩) (fun b o ah _ e=>(other b (fun q=>ah (List.mem_singleton.mpr q))).trans e) fun b o ah e=>⟨o.slots,(other b (fun q=>by(replace ah:=q▸ah;replace ah:=iE▸ah);exact ah)).trans e⟩) ?_ fun e aX=>(other a (Ne.symm n5)).trans aX)
 refine⟨M,(lZ (bI O)).trans O,C,ob,vs,ez,(other a (Ne.symm n5)).trans ey,hW,ng,kE,o0,py,T,_,_,d1,eO,(lZ (bI iE)).trans iE,n5,th,Obj.data_mapFields kD _,?_⟩
 simp [ET]
theorem As (d7:∀x,J.names.lookup x≠some .free) (a1:cr w CM K env J aT a7 ρ s fs) {a L:Addr} {hw:List Env} {Q:Unit->Shared->Prop} (x:gi CM aT ρ s.heap a) (ec:A.frames=some (env::hw)) (aB:xG K A) (dO:env.frame=some L)
  (h:∀ρ' h',cr w CM K env J aT a7 ρ' {s with heap:=h'} fs->lp CM aT ρ' h' a (rawInt L)->Q () {s with heap:=h'}):wpAny (model aw w) A (noteFrame (.ref a) env) Q E s:=by
 obtain⟨⟨M,O⟩,C,ob,vs,ez,ey,hW,ng,kE,o0,py,Y⟩:=x
 refine ba aB ?_;clear aB;intro l mi h7
 replace mi:=ec▸mi;cases mi
 have I:=a1.dI
 have dv:1<vs.size:=Nat.lt_of_succ_lt o0
 have tail:∀(D:List Addr) (c6:Heap) (head:Value) (aE:Bool),(∀b∈D,ρ b=.aU/\aT b=.free/\b≠a)->(∀b∈D,∃o,c6.get? b=some o)->(∀b,b∉D->c6.get? b=s.heap.get? b)->
   wpAny (model aw w) A (do let f<-frameOf env;let ju<-entryPlaceOf L aE;let b<-EntryCells.newEntry head f .none (rawInt L) .none ju;setField (.ref a) 1 b) Q E {s with heap:=c6}:=fun D c6 head aE dQ tI s3=>by
  have R1:∀{b:Addr},b∈(env::hw).filterMap (·.frame)->e3 (ρ b):=fun ah=>JU I h7 ah
  have Tj:a∉D:=fun q=>(dQ a q).2.2 rfl
  have AN:∀b,e3 (ρ b)->c6.get? b=s.heap.get? b:=fun b ah=>s3 b fun q=>by replace ah:=((dQ b q).1)▸ah;exact ah
  refine wpAny_bind (wpAny_frameOf_fun (s:={s with heap:=c6}) ec (Nq I AN _ h7) dO fun bw rF=> ?_)
  refine wpAny_bind (wpAny_entryPlaceOf fun ju gs=> ?_)
  unfold EntryCells.newEntry newFields
  refine wpAny_bind (wpAny_newObj_type ?_ (gs.sizeOk5 _ _ _ _ _))
  have JW:∀{b:Addr},¬e3 (ρ b)->b∉(env::hw).filterMap (·.frame):=fun h q=>h (R1 q)
  have w8:∀b,¬e3 (ρ b)->bw.get? b=c6.get? b:=fun b ah=>rF.2.1 b (JW ah)
  have E0:¬e3 (ρ a):=by refine B O ?_;exact fun q=>q
  have rA:bw.get? a=some ob:=(w8 a E0).trans ((s3 a Tj).trans ey)
  have EB:=Heap.get?_push_of_some (h:=bw) {cls:=.type "traceback",dict:=none,data:=.fields ([head,.ref L,.none,rawInt L,.none]++(if ju.isEmpty then List.replicate 6 Value.none else ju)).toArray} rA
  have DN:bw.objs.size≠a:=Nat.ne_of_gt (Heap.lt_size rA)
  have wY:=Obj.data_mapFields kE (·.setIfInBounds 1 (Value.ref bw.objs.size))
  have Eu:=Heap.get?_update_self (Obj.mapFields (·.setIfInBounds 1 (Value.ref bw.objs.size))) EB (Obj.isFreed_of_fields wY)
  have An:=(Heap.get?_update_other (bw.push {cls:=.type "traceback",dict:=none,data:=.fields ([head,.ref L,.none,rawInt L,.none]++(if ju.isEmpty then List.replicate 6 Value.none else ju)).toArray})
   (Obj.mapFields (·.setIfInBounds 1 (Value.ref bw.objs.size))) (Ne.symm DN)).trans (Heap.get?_push_size bw rfl)
  have keep:∀b o,b≠a->bw.get? b=some o->
    ((bw.push {cls:=.type "traceback",dict:=none,data:=.fields ([head,.ref L,.none,rawInt L,.none]++(if ju.isEmpty then List.replicate 6 Value.none else ju)).toArray}).update a (Obj.mapFields (·.setIfInBounds 1 (Value.ref bw.objs.size)))).get? b=some o:=fun b o iZ ah=>by
   refine B (Heap.get?_update_other _ _ (Ne.symm iZ)) ?_
   exact Heap.get?_push_of_some _ ah
  have HX:s.heap.get? bw.objs.size=none:=by
   cases e:s.heap.get? bw.objs.size with
   |none=>rfl
   |some o=>
    have tT:∃oy,c6.get? bw.objs.size=some oy:=by
     by_cases q:bw.objs.size∈D
     ·exact tI _ q
     ·exact⟨o,(s3 _ q).trans e⟩
    refine bT tT ?_;clear tT;intro oy OY
    have:=Heap.lt_size OY
    replace this:=rF.1▸this
    exact absurd this (Nat.lt_irrefl _)
  have BU:ρ bw.objs.size=.free:=(I.base.c0 _).mpr HX
  have JQ:∀b∈a::D,ρ b=.aU/\aT b=.free:=fun b ah=>by
   rcases List.mem_cons.mp ah with rfl|ah
   ·exact⟨O,M⟩
   ·exact⟨(dQ b ah).1,(dQ b ah).2.1⟩
  refine wpAny_setField EB kE dv (h _ _ (a1.qg (tk:=s.toks) (D:=a::D) d7 JQ (fun b ah=> ?_) (fun b o ah ec e=> ?_) (fun b o ec e=> ?_)) ?_)
  ·rcases List.mem_cons.mp ah with rfl|ah
   ·exact⟨_,Eu⟩
   ·refine bT (tI b ah) ?_;intro o cq
    exact⟨o,keep b o (dQ b ah).2.2 ((w8 b (by refine B ((dQ b ah).1) ?_;exact fun q=>q)).trans cq)⟩
  ·exact keep b o (fun q=>ah (by refine B q ?_;exact List.mem_cons_self)) ((w8 b ec).trans ((s3 b fun q=>ah (List.mem_cons_of_mem _ q)).trans e))
  ·refine bT (rF.2.2 b o ((AN b ec).trans e)) ?_;intro f6 ci
   exact⟨f6,keep b _ (fun q=>E0 (q▸ec)) ci⟩
  ·refine⟨M,(lZ (bI O)).trans O,C,_,_,ez,Eu,Obj.isFreed_of_fields wY,(Obj.cls_mapFields _ _).trans ng,wY,by simpa using o0,by refine B (Array.getElem?_setIfInBounds_ne (by decide)) ?_;exact py,bw.objs.size,_,_,by simp [dv],a1.ext.h3 _ BU,gF BU An,DN,An,rfl,?_⟩
   first|(simp;done)|(rcases gs with rfl|⟨_,_,_,_,_,_,_,rfl⟩<;>simp)
 unfold noteFrame
 simp only [dO]
 rcases Y with Y|⟨T,lY,ts,d1,⟨eO,iE⟩,n5,gU,kD,oB⟩
 ·refine wpAny_bind (wpAny_field ey kE Y ?_)
  refine B (if_neg (by decide)) ?_
  exact tail [] s.heap .none false (fun b ah=>nomatch ah) (fun b ah=>nomatch ah) fun b _=>rfl
 ·refine wpAny_bind (wpAny_field ey kE d1 ?_)
  refine B (if_pos (show(Value.ref T !=Value.none)=true from by simp)) ?_
  refine wpAny_bind (wpAny_field gU kD oB ?_)
  refine B (if_neg (show¬((Value.none==rawInt L)=true) from by simp [rawInt])) ?_
  refine wpAny_bind (wpAny_setField gU kD (Array.getElem?_eq_some_iff.mp oB).1 ?_)
  have th:=Heap.get?_update_self (Obj.mapFields (·.setIfInBounds 3 Value.none)) gU (Obj.isFreed_of_fields (Obj.data_mapFields kD _))
  refine tail [T] _ (.ref T) true (fun b ah=> ?_) (fun b ah=> ?_) fun b ah=>Heap.get?_update_other _ _ (fun q=>ah (List.mem_singleton.mpr q.symm))
  ·refine B (List.mem_singleton.mp ah) ?_;exact⟨iE,eO,n5⟩
  ·refine B (List.mem_singleton.mp ah) ?_;exact⟨_,th⟩
theorem ma:Hg w CM:=by
 intro K env J A aT ρ a7 s fs a l d7 a1 x ec aB E
 obtain⟨L,dO⟩:∃L,env.frame=some L:=by
  refine ba aB ?_;clear aB;intro dc M O
  replace M:=ec▸M;cases M
  obtain⟨_,L,Y,_⟩:=O env List.mem_cons_self
  exact⟨L,Y⟩
 unfold leaving
 refine wpAny_bind (As d7 a1 x ec aB dO fun aN bw wD Hl=> ?_)
 exact yN (s:={s with heap:=bw}) d7 wD Hl fun b9 dJ sH wr _=>⟨b9,sH,wr.at⟩
end
end Mine
end
section
open PySem PySem.W PySem.Calls PyProof.Rows
namespace Mine
section
variable{w:World} {CM:cp} {bj:dM} {F:Frag} {K:Top} {env:Env} {J:Scope} {A:Around} {E:Value->Shared->Prop} {ρ ρ₀ aT ρ':a5} {s db a7 az:Shared} {fs fs' fs₁:X} {ai:bE} {R Rh:bk}
theorem cr.nv {a:Addr} {ob:Obj} (a1:cr w CM K env J aT a7 ρ s fs) (aE:K.eH=none) (d7:∀x,J.names.lookup x≠some .free) (hd:ρ a=.aU) (ah:aT a=.free) (cq:s.heap.get? a=some ob):
  cr w CM {K with eH:=some (a,ob)} env J aT a7 (cx ρ a (.be ob)) s fs:=by
 have I:=a1.dI.fE hd (fun x c q _=>absurd q (d7 x)) cq
 refine⟨⟨⟨I.base.fV,fun b x e=> ?_,I.base.fl,I.base.bL,I.base.c0,I.base.gh,I.base.fT,I.base.inj⟩,I.c2,I.cL,I.fv,I.eZ,I.cells,I.frees,I.apart,I.eX,I.fq⟩,a1.ext.fE ah,fun b x e=>a1.gA b x ?_⟩
 ·refine b7 e ?_;clear e;exact dK
 ·by_cases q:b=a
  ·(replace e:=q▸e;replace e:=dK▸e);cases e
  ·rwa [bp q] at e
theorem cr.J4 {o:Option (Addr×Obj)} (a1:cr w CM {K with eH:=o} env J aT a7 ρ s fs) (aE:K.eH=none):cr w CM K env J aT a7 ρ s fs:=by
 have I:=a1.dI
 exact⟨⟨⟨I.base.fV,fun b x e=>by replace e:=aE▸e;(exact Z e),I.base.fl,I.base.bL,I.base.c0,I.base.gh,I.base.fT,I.base.inj⟩,I.c2,I.cL,I.fv,I.eZ,I.cells,I.frees,I.apart,I.eX,I.fq⟩,a1.ext,a1.gA⟩
theorem HQ (bl:jr CM bj F) (bA:K.f=F) {k:Nat} (bc:ek K (k+1) A) (ag:k%2=0) (S:fN w CM K env J A R) (eb:∀K' jT,K'.f=F->ek K' k jT->jT.frames=A.frames->fN w CM K' env J jT Rh) {hw:List Env} (ec:A.frames=some (env::hw))
  {c:Str} {mH an pos:Pos} {body h:List Stmt} {jb:Stmt} (hc:c=("TreeFault":Str)) (ae:J.names.lookup c=some .globalImplicit) (d7:∀x,J.names.lookup x≠some .free)
  (q:(ob (cR R body fs) fun ai fs₁=>FC ai fs₁ (cR Rh (jb::h)))=some (ai,fs')) (a1:cr w CM K env J aT a7 ρ s fs):
  wpAny (model aw w) A (exec (.Try body [.ExceptHandler (some (.Name c mH)) none (jb::h) an] [] [] pos) env) (ed w CM K env J aT a7 ρ s ai fs') (hD w CM K env J aT a7 ai fs') s:=by
 subst hc
 refine ba bl.wH ?_;intro C xF jm
 have aE:K.eH=none:=bc.xv (by exact VG ag)
 obtain⟨L,dO⟩:∃L,env.frame=some L:=by
  refine ba bc.frames ?_;intro dc M O
  replace O:=(Eq.symm (Option.some.inj (ec.symm.trans M)))▸O
  exact(O env List.mem_cons_self).2.imp fun L z=>z.1
 refine bT jm.cls ?_;intro P ck
 refine ck.e9 fun nm YV N bs sn sub ab col dd k0 k1 k2 k3 k5 oI=> ?_
 refine wpAny_Try_except ?_
 refine b6 q (fun gS fs₁ M q=> ?_) Z
 by_cases mc:gS=.dB
 ·rw [mc] at q M
  refine yV q (fun r fs₂ O q=>b7 q ?_) Z
  refine wpAny_mono (ow S _ M a1) (fun f aj P=>P.elim) fun e aj P=> ?_
  refine dN P.2 ?_;clear P;intro aN a wD u x;subst u
  refine As d7 wD x ec bc.frames dO fun b9 dJ sH wr=>yN (s:={aj with heap:=dJ}) d7 sH wr fun jO fj yL z6 _=> ?_
  have eo:F.In fj:=bA▸yL.dI.in
  refine wpAny_handleBy_cons (codeAny_handlers_test (nE (s:={aj with heap:=fj}) jm.name ae yL.dI.c2 eo (by decide+kernel) ?_)) (by intro q;cases q)
  refine ba (z6.head xF) ?_;intro hF ey ng
  refine wpAny_excMatches_sub_self (eo _ _ oI) ey ng rfl (codeAny_handlers_suite (yN (s:={aj with heap:=fj}) d7 yL z6 fun wu y6 NX w4 _=> ?_))
  refine ba w4.obj ?_;intro BX ar tT
  have JN:=NX.nv aE d7 w4.2.1 w4.1 ar
  have rD:ek {K with eH:=some (a,BX)} k (A.mark (some (.ref a))):=
   ⟨⟨rfl,tT⟩,bc.frames,by have:=bc.depth;show A.depth+2*k+8<_;exact Xw this,by have:=bc.units;show A.units+16*k+400<_;exact Mc this,fun z=>by exact(O4 ag z).elim⟩
  refine wpAny_mono (ow (eb {K with eH:=some (a,BX)} _ bA rD rfl) _ O JN) (fun f v6 P=> ?_) fun e v6 P=>nomatch P.1
  exact P.imp fun v z=>⟨z.1,z.2.imp fun Yb z=>⟨z.1.J4 aE,z.2⟩⟩
 ·have e:some (gS,fs₁)=some (ai,fs'):=by
   cases gS with
   |dB=>exact absurd rfl mc
   |_=>exact q
  cases e
  refine wpAny_mono (ow S _ M a1) (fun f aj P=> ?_) fun e aj P=>absurd P.1 mc
  cases ai with
  |next=>refine B P.1 ?_;exact wpAny_execs_nil ⟨rfl,P.2⟩
  |brk=>refine B P.1 ?_;exact⟨rfl,P.2⟩
  |ret r=>exact P.elim fun v z=>by refine B z.1 ?_;exact⟨v,rfl,z.2⟩
  |dB=>exact P.elim
end
end Mine
end
section
open PySem PySem.W PySem.Calls PyProof.Rows
namespace Mine
section
variable{w:World} {CM:cp} {bj:dM} {F:Frag} {K:Top} {env:Env} {J:Scope} {A:Around} {E:Value->Shared->Prop} {ρ ρ₀ aT ρ':a5} {s db a7 az:Shared} {fs fs' fs₁:X} {ai:bE} {R:bk} {C CQ:ct} {k:Nat}
theorem Um {J:Scope} (h:J.names.all (fun p=>p.2 !=.free)=true):∀x,J.names.lookup x≠some .free:=fun x q=>ln (List.all_eq_true.mp h _ (mem_of_lookup q))
noncomputable def AT (w:World) (CM:cp) (F:Frag) (k:Nat) (env:Env) (J:Scope) (A:Around):Option (Scope->bk)->Prop
 |none=>True
 |some Rh=>∃j,k=j+1/\j%2=0/\∀K' jT,K'.f=F->ek K' j jT->jT.frames=A.frames->fN w CM K' env J jT (Rh J)
theorem Ju (bl:jr CM bj F) (bA:K.f=F) (c6:gJ w CM bj F k C) (bc:ek K k A) {cb:Scope->bk} {Rh:Option (Scope->bk)} (S:fN w CM K env J A (cb J)) (bx:AT w CM F k env J A Rh) (ec:∃hw,A.frames=some (env::hw)) {ao:Stmt}
  (q:pl C cb Rh J ao fs=some (ai,fs')) (a1:cr w CM K env J aT a7 ρ s fs):
  wpAny (model aw w) A (exec ao env) (ed w CM K env J aT a7 ρ s ai fs') (hD w CM K env J aT a7 ai fs') s:=by
 have k4:=bl.too9.touc.toxn.topZ.tojB
 cases ao with
 |Return e pos=>
  refine bG q (fun e aX q=>b6 q (fun r fs₁ M q=>b6 q (fun r' fs₂ O q=>b7 q ?_) Z) Z) Z
  refine B aX ?_
  exact IC S.tocC M O a1
 |Break p=>exact b7 q (wpAny_Break ⟨rfl,ρ,a1,a2.refl ..⟩)
 |If c a b p=>exact b6 q (fun t fs₁ M q=>Xp S M q a1) Z
 |While c body gC p=>
  refine cK q (fun aX q=> ?_) Z
  refine B (List.isEmpty_iff.mp aX) ?_
  exact Vn S q a1
 |For t iter body gC p=>
  refine bG q (fun x ae q=>cK q (fun aX q=>b6 q (fun items fs₁ M q=> ?_) Z) Z) Z
  refine bT (n6 ae) ?_;intro px e
  (refine B e ?_;refine B (List.isEmpty_iff.mp aX) ?_)
  exact Q9 k4 bA bc.eH S M q a1
 |Assign ts e p=>
  refine bG q (fun t aG q=> ?_) Z
  refine B (H3 aG) ?_
  cases t with
  |Name x px=>exact b6 q (fun r fs₁ M q=>Oa S M q a1) Z
  |Tuple ts kk tp=>
   refine cK q (fun hz q=>Hr q (fun vs fs₁ M q=>cK q (fun _ q=>qD q fun O=> ?_) Z) Z) Z
   have hz:=Bool.and_eq_true_iff.mp hz
   exact V2 bc.eH S hz.1 hz.2 M O a1
  |Subscript b i sp=>exact b6 q (fun v fs₁ M q=>b6 q (fun r fs₂ O q=>sf q (fun kk fs₃ Y q=>qD q fun aC=>Kz bc.eH S M O Y aC a1) Z) Z) Z
  |_=>exact Z q
 |Expr e p=>
  cases e with
  |Call f args lv zk=>
   refine cK q (fun ag q=> ?_) Z
   refine B (List.isEmpty_iff.mp ag) ?_
   cases f with
   |Name f mH=>
    refine cK q (fun hz q=>b6 q (fun vs fs₁ M q=>b6 q (fun pc per O q=> ?_) Z) Z) Z
    have hz:=Bool.and_eq_true_iff.mp hz
    exact SL k4.totZ bA c6 bc S hz.2 (of_decide_eq_true hz.1) M O q a1
   |Attribute o m hg=>exact b6 q (fun r fs₁ M q=>b7 q (PQ S M a1)) Z
   |_=>exact Z q
  |_=>exact Z q
 |Raise x d p=>
  refine bG q (fun e aX q=>b6 q (fun f args M q=>bG q (fun c O q=>bG q (fun a Y q=>cK q (fun hz q=>b7 q ?_) Z) Z) Z) Z) Z
  refine bT (Gv M) ?_;intro zk ak
  refine bT (n6 O) ?_;intro mH ar
  have gr:=Bool.and_eq_true_iff.mp hz
  have gK:=Bool.and_eq_true_iff.mp gr.2
  have jY:=Bool.and_eq_true_iff.mp gK.2
  have oJ:=Bool.and_eq_true_iff.mp jY.2
  refine p5 (MJ gr.1) ?_;intro s kk sp bP
  (refine B aX ?_;refine B ak ?_;refine B ar ?_;refine B (uo Y) ?_;refine B bP ?_;refine B (Option.isNone_iff_eq_none.mp gK.1) ?_)
  refine bT (Option.isSome_iff_exists.mp jY.1) ?_;intro LU cY
  replace bx:=cY▸bx
  refine et bx ?_;intro j dn fb _
  exact Tl (mk:=none) bl bA bc (bc.xv (by(refine B dn ?_;refine B (Nat.add_mod _ _ _) ?_;refine B fb ?_;rfl))) (of_decide_eq_true oJ.1) (beq_iff_eq.mp oJ.2) a1
 |Try body hs gC cJ p=>
  refine bG q (fun LU ga q=>b6 q (fun c ah M q=>cK q (fun hz q=> ?_) Z) Z) Z
  have gr:=Bool.and_eq_true_iff.mp hz
  have gK:=Bool.and_eq_true_iff.mp gr.2
  have jY:=Bool.and_eq_true_iff.mp gK.2
  refine dN (Vu M) ?_;intro mH an ak ar bP
  cases ah with
  |nil=>exact ln jY.2
  |cons jb h=>
   (refine B ak ?_;refine B ar ?_;refine B bP ?_)
   replace bx:=ga▸bx
   refine et bx ?_;clear bx;intro j cY dn fb
   subst cY
   refine bT ec ?_;clear ec;intro hw ec
   exact HQ bl bA bc dn S fb ec (of_decide_eq_true gr.1) (beq_iff_eq.mp gK.1) (Um jY.1) q a1
 |_=>exact Z q
theorem Pw {cb:Scope->bk} {e:Expr} {p:Pos}:iT C cb J (.Starred e p) fs=none:=rfl
theorem Mz {cb:Scope->bk} {es:List Expr} {k:Nat} {p:Pos}:iT C cb J (.Set es k p) fs=none:=rfl
theorem S9 {cb:Scope->bk} {e g c p}:iT C cb J (.SetComp e g c p) fs=none:=rfl
theorem WI {cb:Scope->bk} {e v g c p}:iT C cb J (.DictComp e v g c p) fs=none:=rfl
theorem FP {cb:Scope->bk} {elt gens aW} {r:aV} {G:Prop} (q:yx cb J elt gens aW fs=some (r,fs')) (k:∀x px iter ifs items fs₁ cl fs₂,gens=[⟨.Name x px,iter,ifs,0⟩]->hy (cb J) J iter fs=some (items,fs₁)->items.length<=a4->aW.names.lookup x=some .local->oK J aW=true->
   gd (cb aW) x ifs elt items {fs₁ with loc:=ls aW fs₁.loc}=some (cl,fs₂)->r=.b5 (.am cl)->fs'={fs₁ with per:=fs₂.per}->G):G:=
 bG q (fun g bi q=>b6 q (fun items fs₁ M q=>cK q (fun hz q=>b6 q (fun cl fs₂ O q=>(Ev bi).elim fun px e=>zE q fun u v=>
  k g.1 px g.2.1 g.2.2 items fs₁ cl fs₂ e M (of_decide_eq_true (Bool.and_eq_true_iff.mp hz).1) (beq_iff_eq.mp (Bool.and_eq_true_iff.mp (Bool.and_eq_true_iff.mp hz).2).1) (Bool.and_eq_true_iff.mp (Bool.and_eq_true_iff.mp hz).2).2 O u v) Z) Z) Z) Z
theorem Gd (bl:jr CM bj F) (bA:K.f=F) (c6:gJ w CM bj F k C) (bc:ek K k A) {cb:Scope->bk} {Rh:Option (Scope->bk)} (S:∀env J,cC w CM K env J A (cb J)):cC w CM K env J A ⟨iT C cb J,r7 cb J,pl C cb Rh J⟩ where
 a9:=fun e fs r fs' q ρ s I=>XF bl.too9 bA c6 bc S q I
 dD:=fun e fs b fs' q ρ s I=>RV bl.too9 bA c6 bc S q I
 rg:=fun e p fs=>by show iT C cb J (.Starred e p) fs=none;exact Pw
 set:=fun es k p fs=>by show iT C cb J (.Set es k p) fs=none;exact Mz
theorem CR (bl:jr CM bj F) (bA:K.f=F) (c6:gJ w CM bj F k C) (bc:ek K k A) {cb:Scope->bk} {Rh:Option (Scope->bk)} (S:∀env J,cC w CM K env J A (cb J)) (WD:fN w CM K env J A (cb J)) (bx:AT w CM F k env J A Rh) (ec:∃hw,A.frames=some (env::hw)):
  fN w CM K env J A ⟨iT C cb J,r7 cb J,pl C cb Rh J⟩ where
 tocC:=Gd bl bA c6 bc S
 dg:=fun ao fs ai fs' q aT a7 ρ s a1=>Ju bl bA c6 bc WD bx ec q a1
 x2:=fun elt gens aW pos y je o6 fs r fs' tC sy q bn aT a7 ρ s a1=>by
  refine FP q fun x px iter ifs items fs₁ cl fs₂ e M O Y aC bR ak ar=> ?_
  (replace bn:=ak▸bn;replace bn:=ar▸bn)
  rw [e] at sy|-
  exact SW bl.too9.touc.toxn.topZ.tojB bA bc.eH (S env J) (fun d9=>S d9 aW) sy M O Y aC bR bn a1
 zz:=fun elt gens aW pos fs r fs' q=>by
  exact FP q fun x px iter ifs items fs₁ cl fs₂ e M O Y aC bR ak ar=>⟨_,ak⟩
 y4:=fun e g c p fs=>by show iT C cb J (.SetComp e g c p) fs=none;exact S9
 zu:=fun e v g c p fs=>by show iT C cb J (.DictComp e v g c p) fs=none;exact WI
theorem Bv:cC w CM K env J A ⟨fun _ _=>none,fun _ _=>none,fun _ _=>none⟩ where
 a9:=fun e fs r fs' q=>by exact Z q
 dD:=fun e fs r fs' q=>by exact Z q
 rg:=fun _ _ _=>rfl
 set:=fun _ _ _ _=>rfl
theorem D4:fN w CM K env J A ⟨fun _ _=>none,fun _ _=>none,fun _ _=>none⟩ where
 tocC:=Bv
 dg:=fun e fs r fs' q=>by exact Z q
 x2:=fun elt gens aW pos y je o6 fs r fs' tC sy q=>by exact Z q
 zz:=fun elt gens aW pos fs r fs' q=>by exact Z q
 y4:=fun _ _ _ _ _=>rfl
 zu:=fun _ _ _ _ _ _=>rfl
theorem DO (bl:jr CM bj F) (bA:K.f=F) {b:Bool} (c6:gJ w CM bj F k C) (bc:ek K k A) (n:Nat):∀env J,cC w CM K env J A (aJ b C CQ n J):=by
 induction n with
 |zero=>exact fun env J=>Bv
 |succ n ih=>exact fun env J=>Gd bl bA c6 bc ih
theorem Az (bl:jr CM bj F) (c6:gJ w CM bj F k C) (n:Nat) {K A env J} (bA:K.f=F) (bc:ek K k A) (ec:∃hw,A.frames=some (env::hw)):fN w CM K env J A (aJ false C CQ n J):=by
 induction n with
 |zero=>exact D4
 |succ n ih=>exact CR (Rh:=none) bl bA c6 bc (DO bl bA c6 bc n) ih trivial ec
theorem V0 (bl:jr CM bj F) {j:Nat} (bF:j%2=0) (c6:gJ w CM bj F (j+1) C) (JX:gJ w CM bj F j CQ) (n:Nat) {K A env J} (bA:K.f=F) (bc:ek K (j+1) A) (ec:∃hw,A.frames=some (env::hw)):fN w CM K env J A (aJ true C CQ n J):=by
 induction n with
 |zero=>exact D4
 |succ n ih=>exact CR (Rh:=some (aJ false CQ CQ n)) bl bA c6 bc (DO bl bA c6 bc n) ih ⟨j,rfl,bF,fun K' jT HO rD e=>Az bl JX n HO rD (by refine B e ?_;exact ec)⟩ ec
theorem CE (bl:jr CM bj F) {b:Bool} {m:Nat} (mK:∀{K:Top} {A:Around} {env:Env} {J:Scope},K.f=F->ek K m A->(∃hw,A.frames=some (env::hw))->fN w CM K env J A (aJ b C CQ lu J)):
  gJ w CM bj F (m+2) (fun f args per=>br (ds f) fun ao=>jj b C CQ ao args per):=by
 intro f args per ai dh q K A bA bc
 have t7:=bl.too9.touc.toxn.topZ.tojB.totZ.topO
 refine bG q (fun ao eT q=> ?_) Z
 refine dG (t7.rc f ao eT) ?_;intro a ob bK ak ar sz
 refine⟨a,ak,⟨ao,ob,bK,ar⟩,fun ρ s bf ap hc ay=> ?_⟩
 refine OR ma t7 bA bc ar sz q ap hc ay fun L env aX=> ?_
 refine ba bc.frames ?_;intro l mi h7
 have CT:env.scope.kind≠.module/\env.frame=some env.locals:=by
  refine B aX ?_
  refine⟨?_,rfl⟩
  show bK.scope.kind≠.module
  (refine B ar.scope ?_;refine B ar.J.kind ?_);nofun
 have rD:ek {K with frames:=env.locals::K.frames} m (A.deeper env):=by
  refine⟨bc.eH,⟨env::l,Around.frames_deeper mi,fun e aX=> ?_⟩,?_,?_,fun z=>bc.xv (by exact H0 z)⟩
  ·rcases List.mem_cons.mp aX with rfl|aX
   ·exact⟨CT.1,_,CT.2,List.mem_cons_self⟩
   ·obtain⟨gr,L,gK,jY⟩:=h7 e aX
    exact⟨gr,L,gK,List.mem_cons_of_mem _ jY⟩
  ·have:=bc.depth
   show A.depth+1+2*m+8<_
   exact H5 this
  ·have:=bc.units
   show A.units+3+16*m+400<_
   exact H4 this
 exact mK bA rD ⟨l,Around.frames_deeper mi⟩
theorem Dy {b:Bool} {m:Nat}:gJ w CM bj F m (aH b 0):=fun f args per ai dh q=>by exact Z q
theorem WA (bl:jr CM bj F) (n:Nat):gJ w CM bj F (2*n) (aH false n):=by
 induction n with
 |zero=>exact Dy
 |succ n ih=>exact CE bl (m:=2*n) fun bA bc ec=>Az bl ih _ bA bc ec
theorem PJ (bl:jr CM bj F) (n:Nat):gJ w CM bj F (2*n+1) (aH true n):=by
 induction n with
 |zero=>exact Dy
 |succ n ih=>exact CE bl (m:=2*n+1) fun bA bc ec=>V0 bl (Nat.mul_mod_right 2 n) ih (WA bl n) _ bA bc ec
end
end Mine
end
section
open PySem PySem.W PySem.Calls PyProof.Rows
namespace Mine
section
noncomputable def vn:Nat->List Obj->Frag
 |_,[]=>[]
 |n,o::r=>(n,o)::vn (n+1) r
noncomputable def dk (P:Params):Frag:=vn 0 (Hd.nG P)
noncomputable def RN (ob:Obj):FuncData:=match ob.data with
 |.func bK=>bK
 |_=>default
noncomputable def qP (J:Scope) (ps:List Str):Bool:=J.kind==.function&& !J.isGenerator&& !J.isCoroutine&&ps.all (fun x=>J.names.lookup x==some .local||J.names.lookup x==some .cell)&&decide ps.Nodup&&J.names.all (fun p=>p.2 !=.free)&&decide (J.names.map (·.1)).Nodup
theorem zw:∀{names:List (Str×NameKind)} {n:Nat} {cn:List (Str×Addr)} {x:Str},(cn.lookup x).isSome=true->((cellsFrom n names cn).lookup x).isSome=true
 |[],_,_,_,h=>h
 |(y,k)::r,n,cn,x,h=>by
  unfold cellsFrom
  split
  ·refine zw ?_
   refine B List.lookup_cons ?_
   split
   ·rfl
   ·exact h
  ·exact zw h
theorem Gm:∀{names:List (Str×NameKind)} {n:Nat} {cn:List (Str×Addr)} {x:Str},names.lookup x=some .cell->((cellsFrom n names cn).lookup x).isSome=true
 |(y,k)::r,n,cn,x,h=>by
  rw [List.lookup_cons] at h
  unfold cellsFrom
  split at h
  ·rename_i q
   cases h
   refine B (if_pos (show(NameKind.cell==NameKind.cell)=true from rfl)) ?_
   refine zw ?_
   (refine B List.lookup_cons ?_;refine B q ?_);rfl
  ·split<;>exact Gm h
theorem uS:∀{names:List (Str×NameKind)} {n:Nat} {cn:List (Str×Addr)} {x:Str} {c:Addr},(names.map (·.1)).Nodup->(cellsFrom n names cn).lookup x=some c->names.lookup x=some .cell\/cn.lookup x=some c
 |[],_,_,_,_,_,h=>.inr h
 |(y,k)::r,n,cn,x,c,aE,h=>by
  obtain⟨M,O⟩:=List.nodup_cons.mp aE
  unfold cellsFrom at h
  refine B List.lookup_cons ?_
  by_cases r0:x=y
  ·subst r0
   refine B (beq_self_eq_true _) ?_
   split at h
   ·rename_i ag
    left
    (refine B (beq_iff_eq.mp ag) ?_;rfl)
   ·rcases uS O h with q|q
    ·exact absurd (List.mem_map.mpr ⟨_,mem_of_lookup q,rfl⟩) M
    ·exact .inr q
  ·have ah:(x==y)=false:=by simpa using r0
   refine B ah ?_
   split at h
   ·rcases uS O h with q|q
    ·exact .inl q
    ·(rw [List.lookup_cons] at q;replace q:=ah▸q);exact .inr q
   ·exact uS O h
theorem U3 {J:Scope} {ps:List Str} (h:qP J ps=true):CN J ps:=by
 unfold qP at h
 simp only [Bool.and_eq_true,beq_iff_eq,Bool.not_eq_true',decide_eq_true_eq,List.all_eq_true,Bool.or_eq_true] at h
 obtain⟨⟨⟨⟨⟨⟨a,b⟩,c⟩,d⟩,e⟩,f⟩,g⟩:=h
 refine⟨a,b,c,d,e,fun x q=> ?_,fun n x q=>Gm q,fun n x c q=> ?_⟩
 ·have:=f _ (mem_of_lookup q)
  simp at this
 ·rcases uS g q with q|q
  ·exact q
  ·cases q
theorem XB {bK:FuncData} {ps:List Str} (n:Nat) (aE:ps.length=n) (h:∀v:Nat->Value,bindArgs bK ⟨(List.range n).map v,[]⟩=pure (ps.zip ((List.range n).map v))):∀bf:List Value,bf.length=ps.length->bindArgs bK ⟨bf,[]⟩=pure (ps.zip bf):=fun bf aq=>by
 have e:bf=(List.range n).map fun i=>bf.getD i .none:=by
  apply List.ext_getElem
  ·simp [aq,aE]
  ·intro i M O
   simp only [List.getElem_map,List.getElem_range]
   (refine B List.getD_eq_getElem?_getD ?_;refine B (List.getElem?_eq_getElem M) ?_);rfl
 refine B e ?_;exact h _
noncomputable def jC (P:Params) (a:Addr):Obj:=((dk P).lookup a).getD default
noncomputable abbrev ht (P:Params) (a:Addr):FuncData:=RN (jC P a)
noncomputable abbrev mS (P:Params) (ao:Stmt) (a:Addr):Prop:=kg (dk P) ao a (jC P a) (ht P a)
noncomputable abbrev vz (P:Params) (ao:Stmt) (a:Addr) (d:Value):Prop:=((dk P).lookup a,(jC P a).data,(ht P a).body,(ht P a).scope,(ht P a).globals,(ht P a).builtins,(ht P a).closure,codeIn (dk P) (ht P a).code (ht P a).qualname,keepIn (dk P) (.ref a),(ht P a).defaults)=(some (jC P a),.func (ht P a),.stmts (g3 ao),bN ao,mainGlobals,builtinsNs,[],true,true,d)
theorem xu {P:Params} {ao:Stmt} {a:Addr} {d:Value} (h:vz P ao a d) (hs:qP (bN ao) (params ao)=true) (ah:∀bf:List Value,bf.length=(params ao).length->d=.none->bindArgs (ht P a) ⟨bf,[]⟩=pure ((params ao).zip bf)):mS P ao a:=by
 simp only [vz,Prod.mk.injEq] at h
 obtain⟨M,O,Y,aC,bR,dL,f2,oc,rO,PG⟩:=h
 exact⟨M,O,Y,aC,bR,dL,f2,oc,rO,fun bf aq hd=>ah bf aq (PG▸hd),U3 hs⟩
theorem q2 {P:Params} {ao:Stmt} {a:Addr} {d:Value} (n:Nat) (h:vz P ao a d) (hs:(qP (bN ao) (params ao)&&(params ao).length==n)=true) (ah:∀v:Nat->Value,bindArgs (ht P a) ⟨(List.range n).map v,[]⟩=pure ((params ao).zip ((List.range n).map v))):mS P ao a:=
 have q:=Bool.and_eq_true_iff.mp hs
 xu h q.1 fun bf aq _=>XB n (beq_iff_eq.mp q.2) ah bf aq
theorem Jk (P:Params):mS P (cH 9 0) 180:=q2 (d:=.none) 2 (by kernel_rfl) (by decide+kernel) fun v=>by kernel_rfl
theorem M4 (P:Params):mS P (cH 12 0) 244:=q2 (d:=.none) 3 (by kernel_rfl) (by decide+kernel) fun v=>by kernel_rfl
theorem VR (P:Params):mS P (cH 22 0) 385:=q2 (d:=.none) 3 (by kernel_rfl) (by decide+kernel) fun v=>by kernel_rfl
theorem VT (P:Params):mS P (cH 23 0) 406:=q2 (d:=.none) 6 (by kernel_rfl) (by decide+kernel) fun v=>by kernel_rfl
theorem Vf (P:Params):mS P (cH 18 0) 297:=xu (d:=.ref 290) (by kernel_rfl) (by decide+kernel) fun _ _ h=>nomatch h
theorem W4 (P:Params):mS P (cH 2 0) 36:=xu (d:=.ref 29) (by kernel_rfl) (by decide+kernel) fun _ _ h=>nomatch h
noncomputable def G9:List (Str×Addr):=[(o "Reference.pair",251),(o "kind_of",265),(o "told_plain",272),(o "told",277),(o "told_objects",277),(o "copied",282),(o "Lookup.fetch",304),(o "Lookup.get",311),(o "Shelf.put",332),(o "Shelf.add",339),(o "Shelf.numbers",353),(o "Shelf.root",360),(o "Shelf.told",365),(o "turned",420),(o "home_of",427),(o "is_node",434),(o "kids_of",441),(o "met",448),(o "spots",455),(o "fields_of",462),(o "page_spots",467),(o "pages",472),(o "page_count",479),(o "is_count",486),(o "page_at",493),(o "kid_with",500),(o "counts_of",507),(o "is_parent",514),(o "page_faults",521),(o "settle",528),(o "lay",535),(o "grouped",540),(o "build_pages",545),(o "place_of",550),(o "kid_index",555),(o "put_reference",562),(o "insert_page",569),(o "_law_pen",574),(o "_law_draw",581),(o "_law_page",595),(o "_law_seen",600),(o "_law_refused",607),(o "law",612)]
noncomputable def bj:dM:=fun x=>G9.lookup x
noncomputable def mN (p:Str×(Nat×Option Nat)):Stmt:=match p.2.2 with|none=>aI p.2.1|some j=>cH p.2.1 j
noncomputable def yI (P:Params) (p:Str×(Nat×Option Nat)):Prop:=∃a ob bK,bj p.1=some a/\kg (dk P) (mN p) a ob bK/\bK.defaults=.none
theorem row {P:Params} {p:Str×(Nat×Option Nat)} (a n:Nat) (h:vz P (mN p) a .none) (M:bj p.1=some a) (hs:(qP (bN (mN p)) (params (mN p))&&(params (mN p)).length==n)=true) (ah:∀v:Nat->Value,bindArgs (ht P a) ⟨(List.range n).map v,[]⟩=pure ((params (mN p)).zip ((List.range n).map v))):yI P p:=⟨a,jC P a,ht P a,M,q2 n h hs ah,(Prod.mk.inj (Prod.mk.inj (Prod.mk.inj (Prod.mk.inj (Prod.mk.inj (Prod.mk.inj (Prod.mk.inj (Prod.mk.inj (Prod.mk.inj h).2).2).2).2).2).2).2).2).2⟩
noncomputable def o1 {α:Type} (Q:α->Prop):List α->Prop
 |[]=>True
 |a::r=>Q a/\o1 Q r
theorem o1.c {α:Type} {Q:α->Prop} {a:α} {r:List α} (h:Q a) (k:o1 Q r):o1 Q (a::r):=⟨h,k⟩
theorem o1.mem {α:Type} {Q:α->Prop} {l:List α} (h:o1 Q l):∀a∈l,Q a:=by
 induction l with
 |nil=>exact fun a q=>nomatch q
 |cons b r ih=>exact fun a q=>(List.mem_cons.mp q).elim (fun e=>e▸h.1) (ih h.2 a)
theorem WG (P:Params):∀p∈qZ,yI P p:=o1.mem (Q:=yI P) (l:=qZ)<|
 .c (row 251 1 (by kernel_rfl) (by kernel_rfl) (by decide+kernel) fun v=>by kernel_rfl)<|
 .c (row 265 1 (by kernel_rfl) (by kernel_rfl) (by decide+kernel) fun v=>by kernel_rfl)<|
 .c (row 272 2 (by kernel_rfl) (by kernel_rfl) (by decide+kernel) fun v=>by kernel_rfl)<|
 .c (row 277 1 (by kernel_rfl) (by kernel_rfl) (by decide+kernel) fun v=>by kernel_rfl)<|
 .c (row 277 1 (by kernel_rfl) (by kernel_rfl) (by decide+kernel) fun v=>by kernel_rfl)<|
 .c (row 282 1 (by kernel_rfl) (by kernel_rfl) (by decide+kernel) fun v=>by kernel_rfl)<|
 .c (row 304 2 (by kernel_rfl) (by kernel_rfl) (by decide+kernel) fun v=>by kernel_rfl)<|
 .c (row 311 3 (by kernel_rfl) (by kernel_rfl) (by decide+kernel) fun v=>by kernel_rfl)<|
 .c (row 332 4 (by kernel_rfl) (by kernel_rfl) (by decide+kernel) fun v=>by kernel_rfl)<|
 .c (row 339 2 (by kernel_rfl) (by kernel_rfl) (by decide+kernel) fun v=>by kernel_rfl)<|
 .c (row 353 1 (by kernel_rfl) (by kernel_rfl) (by decide+kernel) fun v=>by kernel_rfl)<|
 .c (row 360 1 (by kernel_rfl) (by kernel_rfl) (by decide+kernel) fun v=>by kernel_rfl)<|
 .c (row 365 1 (by kernel_rfl) (by kernel_rfl) (by decide+kernel) fun v=>by kernel_rfl)<|
 .c (row 420 2 (by kernel_rfl) (by kernel_rfl) (by decide+kernel) fun v=>by kernel_rfl)<|
 .c (row 427 2 (by kernel_rfl) (by kernel_rfl) (by decide+kernel) fun v=>by kernel_rfl)<|
 .c (row 434 2 (by kernel_rfl) (by kernel_rfl) (by decide+kernel) fun v=>by kernel_rfl)<|
 .c (row 441 2 (by kernel_rfl) (by kernel_rfl) (by decide+kernel) fun v=>by kernel_rfl)<|
 .c (row 448 4 (by kernel_rfl) (by kernel_rfl) (by decide+kernel) fun v=>by kernel_rfl)<|
 .c (row 455 1 (by kernel_rfl) (by kernel_rfl) (by decide+kernel) fun v=>by kernel_rfl)<|
 .c (row 462 2 (by kernel_rfl) (by kernel_rfl) (by decide+kernel) fun v=>by kernel_rfl)<|
 .c (row 467 1 (by kernel_rfl) (by kernel_rfl) (by decide+kernel) fun v=>by kernel_rfl)<|
 .c (row 472 1 (by kernel_rfl) (by kernel_rfl) (by decide+kernel) fun v=>by kernel_rfl)<|
 .c (row 479 1 (by kernel_rfl) (by kernel_rfl) (by decide+kernel) fun v=>by kernel_rfl)<|
 .c (row 486 1 (by kernel_rfl) (by kernel_rfl) (by decide+kernel) fun v=>by kernel_rfl)<|
 .c (row 493 2 (by kernel_rfl) (by kernel_rfl) (by decide+kernel) fun v=>by kernel_rfl)<|
 .c (row 500 3 (by kernel_rfl) (by kernel_rfl) (by decide+kernel) fun v=>by kernel_rfl)<|
 .c (row 507 1 (by kernel_rfl) (by kernel_rfl) (by decide+kernel) fun v=>by kernel_rfl)<|
 .c (row 514 1 (by kernel_rfl) (by kernel_rfl) (by decide+kernel) fun v=>by kernel_rfl)<|
 .c (row 521 1 (by kernel_rfl) (by kernel_rfl) (by decide+kernel) fun v=>by kernel_rfl)<|
 .c (row 528 1 (by kernel_rfl) (by kernel_rfl) (by decide+kernel) fun v=>by kernel_rfl)<|
 .c (row 535 3 (by kernel_rfl) (by kernel_rfl) (by decide+kernel) fun v=>by kernel_rfl)<|
 .c (row 540 2 (by kernel_rfl) (by kernel_rfl) (by decide+kernel) fun v=>by kernel_rfl)<|
 .c (row 545 3 (by kernel_rfl) (by kernel_rfl) (by decide+kernel) fun v=>by kernel_rfl)<|
 .c (row 550 2 (by kernel_rfl) (by kernel_rfl) (by decide+kernel) fun v=>by kernel_rfl)<|
 .c (row 555 3 (by kernel_rfl) (by kernel_rfl) (by decide+kernel) fun v=>by kernel_rfl)<|
 .c (row 562 3 (by kernel_rfl) (by kernel_rfl) (by decide+kernel) fun v=>by kernel_rfl)<|
 .c (row 569 3 (by kernel_rfl) (by kernel_rfl) (by decide+kernel) fun v=>by kernel_rfl)<|
 .c (row 574 1 (by kernel_rfl) (by kernel_rfl) (by decide+kernel) fun v=>by kernel_rfl)<|
 .c (row 581 2 (by kernel_rfl) (by kernel_rfl) (by decide+kernel) fun v=>by kernel_rfl)<|
 .c (row 595 2 (by kernel_rfl) (by kernel_rfl) (by decide+kernel) fun v=>by kernel_rfl)<|
 .c (row 600 1 (by kernel_rfl) (by kernel_rfl) (by decide+kernel) fun v=>by kernel_rfl)<|
 .c (row 607 2 (by kernel_rfl) (by kernel_rfl) (by decide+kernel) fun v=>by kernel_rfl)<|
 .c (row 612 1 (by kernel_rfl) (by kernel_rfl) (by decide+kernel) fun v=>by kernel_rfl)<|
 trivial
end
end Mine
end
section
open PySem PySem.W PySem.Calls PyProof.Rows
namespace Mine
section
noncomputable def vq:List (Str×Addr):=[(o "TreeFault",59),(o "Decimal",155),(o "Name",183),(o "String",205),(o "Stream",226),(o "Reference",254),(o "Shelf",368),(o "Page",388),(o "Spot",409)]
noncomputable def CM:cp:=fun c=>vq.lookup c
theorem pr {α ee:Type} [BEq α] [LawfulBEq α] {x:α} {y:ee}:∀{l:List (α×ee)},l.lookup x=some y->(x,y)∈l
 |[],h=>by cases h
 |(a,b)::l,h=>by
  rw [List.lookup_cons] at h
  split at h
  ·rename_i e
   cases h
   refine B (beq_iff_eq.mp e) ?_;exact List.mem_cons_self
  ·exact List.mem_cons_of_mem _ (pr h)
noncomputable def xz (c:Str):List Str:=(jN c).getD []++(if c=("Shelf":Str) then [o "table",o "trailer"] else [])
theorem U1 {c a:Str} (h:ql c a=true):a∈xz c:=by
 unfold ql at h
 unfold xz
 split at h
 ·rename_i l e
  refine B e ?_
  exact List.mem_append_left _ (by simpa using h)
 ·simp only [Bool.and_eq_true,decide_eq_true_eq,Bool.or_eq_true] at h
  refine B (if_pos h.1) ?_
  refine List.mem_append_right _ ?_
  rcases h.2 with q|q
  ·refine B q ?_;exact List.mem_cons_self
  ·refine B q ?_;exact List.mem_cons_of_mem _ List.mem_cons_self
theorem KD (P:Params):(vq.all fun p=>(xz p.1).all fun a=>hasDictIn (dk P) p.2&&plainGet (dk P) p.2 a&&(match findIn (dk P) (.ref p.2) a with|some oZ=>noGet (dk P) oZ|none=>false))=true:=by kernel_rfl
theorem R9 (P:Params):yJ CM (dk P) where
 sS:=fun c C a M O=>by
  have h:=List.all_eq_true.mp (List.all_eq_true.mp (KD P) _ (pr M)) a (U1 O)
  simp only [Bool.and_eq_true] at h
  obtain⟨⟨Y,aC⟩,bR⟩:=h
  split at bR
  ·rename_i oZ e
   exact⟨Y,aC,oZ,e,bR⟩
  ·cases bR
theorem Sb {x:Str} {ao:Stmt} (h:ds x=some ao):∃p∈qZ,p.1=x/\mN p=ao:=by
 unfold ds at h
 obtain⟨p,M,O⟩:=Option.map_eq_some_iff.mp h
 refine⟨(x,p),pr M,rfl,?_⟩
 refine bt O ?_
 unfold mN
 obtain⟨i,j⟩:=p
 cases j<;>rfl
theorem Ur (P:Params):pO CM bj (dk P) where
 toyJ:=R9 P
 rH:=⟨((dk P).lookup sysModules).getD default,by kernel_rfl⟩
 sq:=fun h av=>⟨h.nsMap cStatics,.of_isNs (isNs_of_in av (by kernel_rfl)),nsMap_none_of_in av (by kernel_rfl) (by kernel_rfl)⟩
 rc:=fun x ao h=>by
  obtain⟨p,M,rfl,rfl⟩:=Sb h
  exact WG P p M
theorem Sr (P:Params):(G9.all fun p=> !jV p.1||hv (dk P) p.1==some (.ref p.2))=true:=by kernel_rfl
theorem HC (P:Params):tZ CM bj (dk P) where
 topO:=Ur P
 C5:=fun x a M O=>by
  have h:=List.all_eq_true.mp (Sr P) _ (pr M)
  simp only [O,Bool.not_true,Bool.false_or,beq_iff_eq] at h
  exact h
theorem J0 (P:Params):((["len","abs","sum","sorted","min","isinstance"]:List String).all fun f=>hv (dk P) (Str.ofString f)==some (.builtin f))=true:=by kernel_rfl
theorem JA (P:Params):((["int","tuple","dict","range","reversed","bool","list"]:List String).all fun f=>hv (dk P) (Str.ofString f)==some (.type f))=true:=by kernel_rfl
theorem Up (P:Params):jB CM bj (dk P) where
 totZ:=HC P
 lg:=fun f h=>beq_iff_eq.mp (List.all_eq_true.mp (J0 P) f h)
 tt:=fun f h=>beq_iff_eq.mp (List.all_eq_true.mp (JA P) f h)
noncomputable def qS:List Str:=rq++hB
theorem wd {c:Str} {eE:Value} (h:ja CM c=some eE):c∈qS:=by
 unfold ja at h
 unfold qS
 split at h
 ·rename_i q;exact List.mem_append_left _ (by simpa using q)
 ·split at h
  ·rename_i q;exact List.mem_append_right _ (by simpa using q)
  ·cases h
theorem Xh (P:Params):((["NoneType","bool","int","str","list","dict","tuple"]:List String).all fun T=>qS.all fun c=>match ja CM c with|some eE=>kitOne (dk P) (.type T) eE==some (xT T c)|none=>true)=true:=by kernel_rfl
theorem UQ (P:Params):(vq.all fun p=> !(decide (p.1=("Shelf":Str))||hB.contains p.1)||qS.all fun c=>match ja CM c with|some eE=>kitOne (dk P) (.ref p.2) eE==some (decide (c=p.1))|none=>true)=true:=by kernel_rfl
theorem Ii (P:Params):(vq.all fun p=> !(decide (p.1=("Shelf":Str))||hB.contains p.1)||(plainGet (dk P) p.2 "__class__"&&hasDictIn (dk P) p.2&&findIn (dk P) (.ref p.2) "__class__"==some (some (.builtin "object.__class__"))&&mroIn (dk P) p.2 (.type "object")==some true))=true:=by kernel_rfl
theorem Vv:(hB.all fun c=>(CM c).isSome)=true:=by decide+kernel
theorem Px (P:Params):(qS.all fun c=>match ja CM c with|some eE=>hv (dk P) c==some eE|none=>true)=true:=by kernel_rfl
theorem JZ (P:Params):pZ CM bj (dk P) where
 tojB:=Up P
 kt:=fun T gO c eE h=>by
  have:=List.all_eq_true.mp (List.all_eq_true.mp (Xh P) T gO) c (wd h)
  replace this:=h▸this
  exact beq_iff_eq.mp this
 q6:=fun d D c eE M O Y=>by
  have:=List.all_eq_true.mp (UQ P) _ (pr M)
  have e:(decide (d=("Shelf":Str))||hB.contains d)=true:=by
   rcases O with q|q
   ·refine B (decide_eq_true q) ?_;rfl
   ·(refine B q ?_;refine B (Bool.or_true _) ?_;rfl)
  replace this:=e▸this
  have:=List.all_eq_true.mp this c (wd Y)
  replace this:=Y▸this
  exact beq_iff_eq.mp this
 BG:=fun d D M O=>by
  have:=List.all_eq_true.mp (Ii P) _ (pr M)
  have e:(decide (d=("Shelf":Str))||hB.contains d)=true:=by
   rcases O with q|q
   ·refine B (decide_eq_true q) ?_;rfl
   ·(refine B q ?_;refine B (Bool.or_true _) ?_;rfl)
  replace this:=e▸this
  simp only [Bool.not_true,Bool.false_or,Bool.and_eq_true,beq_iff_eq] at this
  exact⟨this.1.1.1,this.1.1.2,this.1.2,this.2⟩
 yb:=⟨by kernel_rfl,by kernel_rfl⟩
 cls:=fun c h=>Option.isSome_iff_exists.mp (List.all_eq_true.mp Vv c (by simpa using h))
 DU:=fun c eE h=>by
  have:=List.all_eq_true.mp (Px P) c (wd h)
  replace this:=h▸this
  exact beq_iff_eq.mp this
end
end Mine
end
section
open PySem PySem.W PySem.Calls PyProof.Rows
namespace Mine
section
noncomputable def GH (F:Frag) (C:Addr) (names:List Str) (fI:Addr):Bool:=makesIn F C&&findIn F (.ref C) "__setattr__"==some (some (.builtin "object.__setattr__"))&&plainOver F C&&hasDictIn F C&&
 names.all (fun n=>takerIn F C n==some none)&&findIn F (.ref C) "__init__"==some (some (.ref fI))&&typeIn F (.ref fI)==some (.type "function")&&keepIn F (.ref C)&&decide names.Nodup&&decide (names.length<900)&&names.all (fun n=> !(n==("__debug__":Str)))
theorem uW {F:Frag} {C:Addr} {names:List Str} {fI:Addr} {ao:Stmt} {ob:Obj} {bK:FuncData} (h:GH F C names fI=true) (bU:kg F ao fI ob bK) (hd:bK.defaults=.none) (an:params ao=("self":Str)::names) (ah:uj names (g3 ao)):oP F C names:=by
 unfold GH at h
 simp only [Bool.and_eq_true,beq_iff_eq,decide_eq_true_eq,List.all_eq_true,Bool.not_eq_true'] at h
 obtain⟨⟨⟨⟨⟨⟨⟨⟨⟨⟨a,b⟩,c⟩,d⟩,e⟩,f⟩,g⟩,i⟩,j⟩,k⟩,l⟩:=h
 exact⟨a,⟨b,c,d⟩,e,⟨ao,fI,ob,bK,f,g,bU,hd,an,ah⟩,i,j,k,l⟩
theorem OJ (P:Params):oP (dk P) 183 ["text"]:=uW (fI:=180) (by kernel_rfl) (Jk P) (by kernel_rfl) (by decide+kernel) ⟨_,_,_,_,_,rfl,rfl⟩
theorem JS (P:Params):oP (dk P) 254 ["number","generation"]:=uW (fI:=244) (by kernel_rfl) (M4 P) (by kernel_rfl) (by decide+kernel) ⟨_,_,_,_,_,rfl,⟨_,_,_,_,_,rfl,rfl⟩⟩
theorem QY (P:Params):oP (dk P) 388 ["reference","fields"]:=uW (fI:=385) (by kernel_rfl) (VR P) (by kernel_rfl) (by decide+kernel) ⟨_,_,_,_,_,rfl,⟨_,_,_,_,_,rfl,rfl⟩⟩
theorem Wt (P:Params):oP (dk P) 409 ["reference","head","above","inherited","is_page"]:=uW (fI:=406) (by kernel_rfl) (VT P) (by kernel_rfl) (by decide+kernel) ⟨_,_,_,_,_,rfl,⟨_,_,_,_,_,rfl,⟨_,_,_,_,_,rfl,⟨_,_,_,_,_,rfl,⟨_,_,_,_,_,rfl,rfl⟩⟩⟩⟩⟩
theorem Wi (P:Params):xn CM bj (dk P) where
 topZ:=JZ P
 FX:=fun c names h=>by
  unfold jN at h
  split at h
  ·rename_i e;subst e;cases h;exact⟨183,by kernel_rfl,by kernel_rfl,OJ P,by decide+kernel⟩
  ·split at h
   ·rename_i e;subst e;cases h;exact⟨254,by kernel_rfl,by kernel_rfl,JS P,by decide+kernel⟩
   ·split at h
    ·rename_i e;subst e;cases h;exact⟨388,by kernel_rfl,by kernel_rfl,QY P,by decide+kernel⟩
    ·split at h
     ·rename_i e;subst e;cases h;exact⟨409,by kernel_rfl,by kernel_rfl,Wt P,by decide+kernel⟩
     ·cases h
noncomputable def xQ:List (Str×Str×Str):=[(o "Reference",o "pair",o "Reference.pair"),(o "Shelf",o "fetch",o "Lookup.fetch"),(o "Shelf",o "get",o "Lookup.get"),(o "Shelf",o "put",o "Shelf.put"),(o "Shelf",o "add",o "Shelf.add"),(o "Shelf",o "numbers",o "Shelf.numbers"),(o "Shelf",o "root",o "Shelf.root"),(o "Shelf",o "told",o "Shelf.told")]
theorem RZ {c m f:Str} (h:qt c m=some f):(c,m,f)∈xQ:=by
 unfold qt at h
 unfold xQ
 split at h
 ·rename_i e
  subst e
  split at h
  ·rename_i e;subst e;cases h;exact List.mem_cons_self
  ·cases h
 ·split at h
  ·rename_i e
   subst e
   split at h
   ·rename_i e;subst e;cases h;decide+kernel
   split at h
   ·rename_i e;subst e;cases h;decide+kernel
   split at h
   ·rename_i e;subst e;cases h;decide+kernel
   split at h
   ·rename_i e;subst e;cases h;decide+kernel
   split at h
   ·rename_i e;subst e;cases h;decide+kernel
   split at h
   ·rename_i e;subst e;cases h;decide+kernel
   split at h
   ·rename_i e;subst e;cases h;decide+kernel
   cases h
  ·cases h
theorem Vx (P:Params):(xQ.all fun p=>match CM p.1 with
 |some C=>findIn (dk P) (.ref C) "__getattribute__"==some (some (.builtin "object.__getattribute__"))&&findIn (dk P) (.ref C) "__getattr__"==some none&&(match bj p.2.2 with
  |some a=>findIn (dk P) (.ref C) p.2.1==some (some (.ref a))&&typeIn (dk P) (.ref a)==some (.type "function")
  |none=>false)
 |none=>true)=true:=by kernel_rfl
theorem Xv (P:Params):yv (dk P) 368 where
 tE:=by kernel_rfl
 ao:=⟨by kernel_rfl,by kernel_rfl,by kernel_rfl⟩
 tk:=⟨by kernel_rfl,by kernel_rfl⟩
 init:=by
  refine⟨cH 18 0,297,jC P 297,ht P 297,_,_,by kernel_rfl,by kernel_rfl,Vf P,by decide+kernel,rfl,⟨_,_,_,_,_,_,_,_,_,_,rfl⟩,⟨_,_,_,_,_,_,_,_,_,_,rfl⟩,fun s av v=> ?_⟩
  refine BindsTo.of_defaults (T:=290) (o:=((dk P).lookup 290).getD default) (items:= #[.none,.none]) (n:=0) (by kernel_rfl) (av _ _ (by kernel_rfl)) (by kernel_rfl) rfl (by kernel_rfl)
 keep:=by kernel_rfl
theorem Ov (P:Params):uc CM bj (dk P) where
 toxn:=Wi P
 BJ:=fun c m f C M O=>by
  have h:=List.all_eq_true.mp (Vx P) _ (RZ M)
  dsimp only at h
  replace h:=O▸h
  dsimp only at h
  simp only [Bool.and_eq_true,beq_iff_eq] at h
  obtain⟨⟨Y,aC⟩,bR⟩:=h
  split at bR
  ·rename_i a e
   simp only [Bool.and_eq_true,beq_iff_eq] at bR
   exact⟨Y,aC,a,e,bR.1,bR.2⟩
  ·cases bR
 AW:=⟨368,by kernel_rfl,by kernel_rfl,Xv P⟩
end
end Mine
end
section
open PySem PySem.W PySem.Calls PyProof.Rows
namespace Mine
section
theorem SM (P:Params):mm (dk P) 59 46 where
 gp:=⟨o "TreeFault",o "TreeFault",58,[.ref 46],[],[],false,none,none,some (.ref 50),none,some (.str (o "TreeFault") 236),some (.str (o "TreeFault") 244),some (.bool true),by kernel_rfl⟩
 sa:=by kernel_rfl
theorem Ip (P:Params):xy (dk P) 59 where
 name:=by kernel_rfl
 dB:=by kernel_rfl
 GP:=by kernel_rfl
 Ea:=by kernel_rfl
 cls:=⟨46,SM P⟩
 Cj:=by
  refine⟨36,jC P 36,ht P 36,209,by kernel_rfl,W4 P,by kernel_rfl,fun s av v u=> ?_⟩
  refine BindsTo.of_defaults (T:=29) (o:=((dk P).lookup 29).getD default) (items:= #[.int (-1) 209]) (n:=0) (by kernel_rfl) (av _ _ (by kernel_rfl)) (by kernel_rfl) rfl (by kernel_rfl)
theorem OP (P:Params):jr CM bj (dk P) where
 touc:=Ov P
 inh:=⟨371,0,654,655,656,657,by kernel_rfl,by kernel_rfl⟩
 Ai:=⟨377,by kernel_rfl⟩
 wH:=⟨59,by kernel_rfl,Ip P⟩
end
end Mine
end
section
open PySem PySem.W PySem.Calls PyProof.Rows
namespace Mine
section
variable{w:World}
theorem Rk {P:Params} {h:Heap} (dw:∀a x,(Hd.fZ P).get? a=some x->h.get? a=some x):(dk P).In h:=by
 intro a x e
 refine dw a x ?_
 have key:∀(a:Nat) (l:List Obj) (n:Nat),(vn n l).lookup a=some x->n<=a/\l[a-n]? =some x:=by
  intro a l
  induction l with
  |nil=>intro n h;cases h
  |cons o r ih=>
   intro n h
   unfold vn at h
   rw [List.lookup_cons] at h
   split at h
   ·rename_i q
    have q:=beq_iff_eq.mp q
    cases h
    subst q
    exact⟨Nat.le_refl _,by simp⟩
   ·obtain⟨M,O⟩:=ih (n+1) h
    refine⟨by exact Sh M,?_⟩
    have:a-n=(a-(n+1))+1:=by exact gr M
    refine B this ?_;exact O
 obtain⟨-,O⟩:=key _ _ _ e
 replace O:=(Nat.sub_zero _)▸O
 rw [Heap.get?_some_iff]
 refine⟨by show(Array.mk (Hd.nG P))[a]? =_;refine B List.getElem?_toArray ?_;exact O,?_⟩
 have aY:x∈Hd.nG P:=List.mem_of_getElem? O
 have u1:(Hd.nG P).all (fun o=> !o.isFreed)=true:=by kernel_rfl
 simpa using List.all_eq_true.mp u1 x aY
open Classical in
noncomputable def li (h:Heap):a5:=fun a=>match h.get? a with
 |some ob=>.be ob
 |none=>.free
theorem vG {h:Heap} {a:Addr} {ob:Obj}:li h a=.be ob↔h.get? a=some ob:=by
 unfold li
 split
 ·rename_i o e;refine B e ?_;simp
 ·rename_i e;refine B e ?_;simp
theorem Xl (h:Heap):ii (li h):=fun a=>by
 unfold li
 split<;>exact⟨fun _ q=>(nomatch q),fun q=>(nomatch q),fun q=>(nomatch q)⟩
noncomputable def yM (P:Params):Top:=⟨dk P,none,[]⟩
theorem Xg {s:Shared} (av:(dk w.params).In s.heap):cM w CM (yM w.params) (li s.heap) s [] where
 fV:=fun a x e=>vG.mpr (av a x e)
 fC:=fun a x e=>by cases e
 fl:=fun a e=>by cases e
 bL:=fun a ob e=>vG.mp e
 c0:=fun a=>by unfold li;split<;>simp [*]
 gh:=fun k h=>by cases h
 fT:=fun a k e=>by unfold li at e;split at e<;>cases e
 inj:=fun a b k e=>by unfold li at e;split at e<;>cases e
theorem T5 (P:Params):ek (yM P) (2*20+1) callerA:=⟨rfl,⟨[],rfl,fun e h=>by cases h⟩,by decide,by decide+kernel,fun _=>rfl⟩
theorem HN (P:Params):bj (o "law")=some 612:=by kernel_rfl
theorem RA {ρ:a5} {h:Heap} {P:Params} (ns:List Int):∀{vs:List Value},WellAll P h vs (ns.map .int)->a8 w CM ρ (ns.map .int) vs:=by
 induction ns with
 |nil=>intro vs h;cases h;exact a8.nil
 |cons n r ih=>
  intro vs h
  obtain⟨v,JH,e,M,O⟩:=wellAll_cons_inv h
  refine B e ?_
  cases M
  exact a8.cons ⟨_,rfl⟩ (ih O)
theorem UM (an:∀ns:List Int,ns.length<=63->∃per,aH true 20 "law" [.am (ns.map .int)] []=some (.ret (.U (.bool true)),per)) {s:Shared} (av:(dk w.params).In s.heap) {ns:List Int} (aE:ns.length<=63) {l:Addr} {vs:List Value}
  (aq:s.heap.get? l=some {cls:=.type "list",data:=.seq vs.toArray}) (ay:WellAll w.params s.heap vs (ns.map .int)) {E:Value->Shared->Prop} {Q:Value->Shared->Prop}
  (h:∀h' tk,(∀b o,s.heap.get? b=some o->h'.get? b=some o)->Q (.bool true) {s with heap:=h',toks:=tk}):
  wpAny (model aw w) callerA (call (.ref 612) [.ref l]) Q E s:=by
 obtain⟨per,aA⟩:=an ns aE
 refine bT (PJ (w:=w) (OP w.params) 20 _ _ _ _ _ aA (yM w.params) callerA rfl (T5 _)) ?_;intro a c6
 have e:a=612:=Option.some.inj (c6.yW.symm.trans (HN w.params))
 subst e
 refine wpAny_mono (c6.wp (li s.heap) s [.ref l] (Xg av) (Xl _) (a8.cons ⟨l,vs,0,rfl,vG.mpr aq,RA _ ay⟩ a8.nil)) (fun v az P=> ?_) fun e az P=>nomatch P.1
 obtain⟨ρ',lA,e6,_,aP⟩:=P
 refine B (show v=.bool true from aP) ?_
 obtain⟨h',tk,e⟩:=e6.ao
 subst e
 exact h h' tk fun b o e=>lA.bL _ _ (e6.bL _ _ (vG.mpr e))
end
end Mine
end
section
open PySem PySem.W PySem.Calls PyProof.Rows
namespace Mine
noncomputable abbrev jn:OpenRow:=PySem.Challenge.rw_og0185_01.row
noncomputable def iR:DefRec×List (Str×Expr):=match defOf Hd.q (o "law") with
 |some p=>p
 |none=>(⟨o "",default,[],default,default⟩,[])
theorem MW:defOf Hd.q jn.name=some (iR.1,iR.2):=by kernel_rfl
theorem P6:jn.prog.theDef jn.name=some (iR.1.params,iR.1.body,iR.1.scope):=by kernel_rfl
theorem j6:kwWritten? iR.1.params.kwonlyargs iR.1.params.kw_defaults=some iR.2:=by kernel_rfl
theorem V8:(chainsOk Hd.q&&opensWell jn.prog&&(frees jn.toRowW&&jn.within.isEmpty))=true:=by decide+kernel
theorem NK:jn.prog.bare:=⟨rfl,rfl,rfl,rfl,rfl,by decide+kernel⟩
theorem Iz:jn.toRowW.promised:=⟨[.list []],by decide+kernel,by decide+kernel⟩
theorem LV:iR.1.name=o "law":=by kernel_rfl
theorem Om (call:WalkO Hd.q Hd.loose (XL Hd.q []) (Hook.says Hd.lM) jn.toRowW iR.1 iR.2 fun f vs=>PySem.call f vs):PySem.Challenge.rw_og0185_01.Holds:=by
 refine holds_law (by decide+kernel) fun YI=> ?_
 exact PySem.W.holds_open (q:=Hd.q) (loose:=Hd.loose) (Xt:=fun s=>xlAt Hd.q [] s&&recOk [] s) (XP:=XL Hd.q []) (Yf:=Hook.obs Hd.lM) (Ya:=Hook.val Hd.lM) (YP:=Hook.says Hd.lM) (N:=8766) Hd.left (Hook.of Hd.lM) (Hook.keeps Hd.lM)
  (fun s e=>xl_of s (Bool.and_eq_true_iff.mp e).1) XL.keeps MW P6 j6 (fun s e=>recFacts_of (Bool.and_eq_true_iff.mp e).2) (by rfl) (by assumption) V8 NK Iz call
end Mine
end
section
open PySem PySem.W PySem.Calls PyProof.Rows
namespace Mine
theorem ints_of:∀{xs:List WData},WShape.hasItems [] xs .int=true->∃ns:List Int,xs=ns.map WData.int
 |[],_=>⟨[],rfl⟩
 |x::r,h=>by
  simp only [WShape.hasItems,Bool.and_eq_true] at h
  obtain⟨ns,e⟩:=ints_of h.2
  cases x with
  |int i=>exact⟨i::ns,by refine B e ?_;rfl⟩
  |_=>exact ln h.1
theorem Q7 {args:List WData} (h:WShape.hasAll [] args [.list .int]=true):∃ns:List Int,args=[.list (ns.map .int)]:=by
 match args,h with
 |[],h=>simp [WShape.hasAll] at h
 |_::_::_,h=>simp [WShape.hasAll] at h
 |[a],h=>
  simp only [WShape.hasAll,Bool.and_eq_true] at h
  cases a with
  |list xs=>
   have M:=h.1
   have M:(WShape.hasItems [] xs .int||false)=true:=M
   obtain⟨ns,e⟩:=ints_of ((Bool.or_false _).symm.trans M)
   exact⟨ns,by(refine B e ?_;rfl)⟩
  |_=>exact ln h.1
noncomputable def uX:WTm:=.and (.not (.lt (.lit (.int 63)) (.len (.arg 0)))) (.lit (.bool true))
theorem Qt {ns:List Int} (h:uX.holds [] {args:=[.list (ns.map .int)]}=true):ns.length<=63:=by
 have e:WTm.value [] uX {args:=[.list (ns.map .int)]}=some (.bool (!decide ((63:Int)<((ns.map WData.int).length:Int)))):=by
  have ak:less? (.int 63) (.int (ns.length:Int))=some (decide ((63:Int)<(ns.length:Int))):=by first|rfl|(unfold less?;rfl)|simp [less?]
  simp only [uX,WTm.value,List.getElem?_cons_zero,List.length_map,ak,Option.map_some]
  cases decide ((63:Int)<(ns.length:Int))<;>rfl
 unfold WTm.holds at h
 replace h:=e▸h
 by_cases q:(63:Int)<((ns.map WData.int).length:Int)
 ·replace h:=(decide_eq_true q)▸h;cases h
 ·replace q:=(List.length_map _)▸q;exact gK q
theorem On {args after:List WData}:jn.toRowW.claim.post args (.bool true) after=true:=by
 show(WShape.has [] (.bool true) .bool&&(WTm.eq .res (.lit (.bool true))).holds [] {args:=args,res:=some (.bool true),after:=after})=true
 have e:WTm.value [] (WTm.eq .res (.lit (.bool true))) {args:=args,res:=some (.bool true),after:=after}=some (.bool true):=by
  have ak:same (.bool true) (.bool true)=true:=by first|rfl|(unfold same;rfl)|simp [same]
  simp [WTm.value,ak]
 unfold WTm.holds
 refine B e ?_
 rfl
theorem XA (an:∀ns:List Int,ns.length<=63->∃per,aH true 20 "law" [.am (ns.map .int)] []=some (.ret (.U (.bool true)),per)):
  WalkO Hd.q Hd.loose (XL Hd.q []) (Hook.says Hd.lM) jn.toRowW iR.1 iR.2 fun f vs=>PySem.call f vs:=by
 intro w db aj Y7 YZ G dw RJ ob YN cd doc Yt YY cq hd sw dQ sF bi args bf as WN X2 X0 Pm Yn
 have av:(dk w.params).In aj.heap:=Rk dw
 have Ir:RJ=612:=by
  have M:=mg_of av G.T.g (n:=o "law") (v:=.ref 612) (by kernel_rfl)
  replace sF:=LV▸sF
  replace sF:=M▸sF
  injection sF with e
  injection e with e
  exact e.symm
 subst Ir
 have RS:(WShape.hasAll [] args [.list .int]&&uX.holds [] {args:=args})=true:=WN
 obtain⟨M,O⟩:=Bool.and_eq_true_iff.mp RS
 obtain⟨ns,rfl⟩:=Q7 M
 have aE:=Qt O
 obtain⟨v,JH,rfl,ay,zQ⟩:=wellAll_cons_inv Pm
 cases zQ with
 |nil=>
 cases ay with
 |list aq i6=>
 refine UM an av aE aq i6 fun h' tk ag=> ?_
 exact⟨.inl ⟨_,.bool true,[],rfl,fun cls=>rfl,.bool true,On,fun _=>⟨.nil,fun a bz=>by cases bz⟩⟩,.of_keep ag,rfl,.of_eq bi⟩
end Mine
end
section
open PySem
namespace Mine
theorem uB {a b:String}:(Str.ofString a=Str.ofString b)=(a=b):=by
 apply propext
 constructor
 ·intro h
  (replace h:=(Str.ofString_eq_toList _)▸h;replace h:=(Str.ofString_eq_toList _)▸h)
  simp only [Str.mk.injEq] at h
  have M:a.toList.map Char.toNat=b.toList.map Char.toNat:=by simpa using h
  have O:a.toList=b.toList:=by
   have inj:∀{l m:List Char},l.map Char.toNat=m.map Char.toNat->l=m:=by
    intro l
    induction l with
    |nil=>intro m h;cases m with
     |nil=>rfl
     |cons _ _=>cases h
    |cons c r ih=>
     intro m h
     cases m with
     |nil=>cases h
     |cons d s=>
      simp only [List.map_cons,List.cons.injEq] at h
      (refine B (ih h.2) ?_;refine B (Char.toNat_inj.mp h.1) ?_;rfl)
   exact inj M
  exact String.ext O
 ·intro h;(refine B h ?_;rfl)
section
variable{b:Bool} {C CQ:ct} {n:Nat} {J aW:Scope} {fs fs':X} {cb:Scope->bk} {R:bk} {Rh:Option (Scope->bk)}
theorem YE:(aJ b C CQ (n+1) J).a9=iT C (aJ b C CQ n) J:=rfl
theorem Yl:(aJ b C CQ (n+1) J).dD=r7 (aJ b C CQ n) J:=rfl
theorem YM:(aJ b C CQ (n+1) J).dg=pl C (aJ b C CQ n) (if b then some (aJ false CQ CQ n) else none) J:=rfl
theorem bd {α:Type u} {ee:Type v} {b3:Type w} {x:Option (α×ee)} {f:α->ee->Option b3} {a:α} {b:ee} {o:Option b3} (h:x=some (a,b)) (k:f a b=o):ob x f=o:=by refine B h ?_;exact k
theorem i1 {α:Type u} {ee:Type v} {b3:Type w} {x:Option α} {y:Option ee} {f:α->ee->Option b3} {a:α} {b:ee} {o:Option b3} (h:x=some a) (O:y=some b) (k:f a b=o):fk x y f=o:=bq h (bq O k)
theorem cT {b3:Type w} {c:Prop} [Decidable c] {a b o:Option b3} (h:c) (k:a=o):(if c then a else b)=o:=(if_pos h).trans k
theorem eh {b3:Type w} {c:Prop} [Decidable c] {a b o:Option b3} (h:¬c) (k:b=o):(if c then a else b)=o:=(if_neg h).trans k
end
end Mine
end
section
open PySem
namespace Mine
section
variable{b:Bool} {C CQ:ct} {n:Nat} {J aW:Scope} {fs fs':X} {cb:Scope->bk} {R:bk} {Rh:Option (Scope->bk)}
noncomputable def iC:H->Bool
 |.per _=>false
 |_=>true
theorem t4 {v} (h:iC v=true):fs.cE (.U v)=some v:=by cases v<;>first|rfl|cases h
theorem YG {k}:fs.cE (.U (.per k))=fs.per[k]? :=rfl
theorem Yh {x v} (h:getL x fs.loc=some (.aD v)) (ay:iC v=true):fs.cE (.var x)=some v:=bq (bq h rfl) (by cases v<;>first|rfl|cases ay)
noncomputable def l5:Option H->Bool
 |some (.V _)=>true
 |_=>false
noncomputable def o7:Option H->Bool
 |some (.am _)=>true
 |_=>false
theorem BI {d:Option H} (h:l5 d=true):∃l,d=some (.V l):=by
 cases d with
 |none=>cases h
 |some d=>cases d<;>first|exact⟨_,rfl⟩|cases h
theorem ye {d:Option H} (h:o7 d=true):∃l,d=some (.am l):=by
 cases d with
 |none=>cases h
 |some d=>cases d<;>first|exact⟨_,rfl⟩|cases h
theorem z9 {r args} (h:l5 (fs.cE r)=true):iK C R "get" r args fs=Fm R r args fs:=(BI h).elim fun l e=>bq e (cT rfl rfl)
theorem Jp {r args} (h:l5 (fs.cE r)=true):iK C R "pop" r args fs=Bo R r args fs:=(BI h).elim fun l e=>bq e (eh (by decide+kernel) (cT rfl rfl))
theorem Qe {r args} (h:o7 (fs.cE r)=true):iK C R "append" r args fs=AE R r args fs:=(ye h).elim fun l e=>bq e (cT rfl rfl)
theorem V6 {r args} (h:o7 (fs.cE r)=true):iK C R "pop" r args fs=Bf r args fs:=(ye h).elim fun l e=>bq e (eh (by decide+kernel) (cT rfl rfl))
theorem JG {r args} (h:o7 (fs.cE r)=true):iK C R "index" r args fs=F4 R r args fs:=(ye h).elim fun l e=>bq e (eh (by decide+kernel) (eh (by decide+kernel) (cT rfl rfl)))
end
end Mine
end
section
open PySem
namespace Mine
section
variable{b:Bool} {C CQ:ct} {n:Nat} {J aW:Scope} {fs fs':X} {cb:Scope->bk} {R:bk} {Rh:Option (Scope->bk)} {args:List Expr}
theorem z3 {f} (h:J.names.lookup f=some .globalImplicit) (M:f≠"isinstance") (O:f≠"min"):pU C R J f args fs=Bn C R f args fs:=cT h (eh M (eh O rfl))
theorem z1 {f} (h:J.names.lookup f=some .globalImplicit) (M:f≠"isinstance") (O:f≠"min") (Y:ml.contains f≠true) (aC:f≠"Shelf"):pU C R J f args fs=rG C R f args fs:=(z3 h M O).trans (eh Y (eh aC rfl))
theorem T2 {f names} (h:J.names.lookup f=some .globalImplicit) (M:f≠"isinstance") (O:f≠"min") (Y:ml.contains f≠true) (aC:f≠"Shelf") (bR:jN f=some names):pU C R J f args fs=GW R f names args fs:=(z1 h M O Y aC).trans (by unfold rG;(refine B bR ?_;rfl))
theorem LC {f} (h:J.names.lookup f=some .globalImplicit) (M:f≠"isinstance") (O:f≠"min") (Y:ml.contains f≠true) (aC:f≠"Shelf") (bR:jN f=none):pU C R J f args fs=EJ C R f args fs:=(z1 h M O Y aC).trans (by unfold rG;(refine B bR ?_;rfl))
end
end Mine
end
section
open PySem
namespace Mine
section
variable{b:Bool} {C CQ:ct} {n:Nat} {J aW:Scope} {fs fs₁ fs₂ fs':X} {R:bk} {o:Option (bE×X)} {p:Pos}
theorem X5 {ao args per loc r} (M:jH (params ao) args=some loc) (O:cR (aJ b C CQ lu (bN ao)) (g3 ao) ⟨loc,per⟩=some (.ret r,fs)):jj b C CQ ao args per=some (.ret r,fs.per):=bq M (bd O rfl)
theorem dq {ao args per loc r dh} (M:jH (params ao) args=some loc) (O:cR (aJ b C CQ lu (bN ao)) (g3 ao) ⟨loc,per⟩=some (.ret r,fs)) (Y:fs.per=dh):jj b C CQ ao args per=some (.ret r,dh):=Y▸bq M (bd O rfl)
theorem Yk {ao args per loc} (M:jH (params ao) args=some loc) (O:cR (aJ b C CQ lu (bN ao)) (g3 ao) ⟨loc,per⟩=some (.next,fs)):jj b C CQ ao args per=some (.ret (.U .none),fs.per):=bq M (bd O rfl)
theorem Yw {ao args per loc} (M:jH (params ao) args=some loc) (O:cR (aJ b C CQ lu (bN ao)) (g3 ao) ⟨loc,per⟩=some (.dB,fs)):jj b C CQ ao args per=some (.dB,fs.per):=bq M (bd O rfl)
theorem aO {s r} (h:R.dg s fs=some (.next,fs₁)) (O:cR R r fs₁=o):cR R (s::r) fs=o:=bd h O
theorem cw {s r v} (h:R.dg s fs=some (.ret v,fs₁)):cR R (s::r) fs=some (.ret v,fs₁):=bd h rfl
theorem pv {s r} (h:R.dg s fs=some (.dB,fs₁)):cR R (s::r) fs=some (.dB,fs₁):=bd h rfl
theorem co {c x y} (t:Bool) (h:(aJ b C CQ n J).dD c fs=some (t,fs₁)) (O:cR (aJ b C CQ n J) (if t then x else y) fs₁=o):(aJ b C CQ (n+1) J).dg (.If c x y p) fs=o:=by
 exact bd h (by cases t<;>exact O)
theorem de {x px e v} (h:(aJ b C CQ n J).a9 e fs=some (.U v,fs₁)) (O:eQ J x (.U v) fs₁=some fs₂):(aJ b C CQ (n+1) J).dg (.Assign [.Name x px] e p) fs=some (.next,fs₂):=bq rfl (bd h (bq O rfl))
theorem fz {x px e v} (h:(aJ b C CQ n J).a9 e fs=some (.b5 v,fs₁)) (O:eQ J x (.b5 v) fs₁=some fs₂):(aJ b C CQ (n+1) J).dg (.Assign [.Name x px] e p) fs=some (.next,fs₂):=bq rfl (bd h (bq O rfl))
theorem dE {e r r'} (h:(aJ b C CQ n J).a9 e fs=some (r,fs₁)) (O:fs₁.take r=some (r',fs₂)):(aJ b C CQ (n+1) J).dg (.Return (some e) p) fs=some (.ret r',fs₂):=bq rfl (bd h (bd O rfl))
theorem d0 {e m hg args pos c l f vs r per} (aL:(kS e&&hg.endLine==pos.line&&args.length<30)=true) (aX:(aJ b C CQ n J).a9 e fs=some (.U (.dV c l),fs₁)) (ag:qt c m=some f) (bi:iu m l=none)
  (bz:dp (aJ b C CQ n J) args fs₁=some (vs,fs₂)) (hc:C f (.dV c l::vs) fs₂.per=some (.ret r,per)):(aJ b C CQ (n+1) J).a9 (.Call (.Attribute e m hg) args [] pos) fs=some (r,{fs₂ with per:=per}):=cT aL (bd aX (bq rfl (cT (by refine B bi ?_;rfl) (bq ag (bd rfl (bd bz (bd hc (bq rfl rfl))))))))
theorem i4 {x t} (h:(aJ b C CQ n J).dD x fs=some (t,fs₁)):(aJ b C CQ (n+1) J).dD (.UnaryOp .Not x p) fs=some (!t,fs₁):=by
 exact bd h rfl
theorem ti {ao args per loc dh} (M:jH (params ao) args=some loc) (O:cR (aJ b C CQ lu (bN ao)) (g3 ao) ⟨loc,per⟩=some (.next,fs)) (Y:fs.per=dh):jj b C CQ ao args per=some (.ret (.U .none),dh):=Y▸bq M (bd O rfl)
theorem Aj {ao args per loc dh} (M:jH (params ao) args=some loc) (O:cR (aJ b C CQ lu (bN ao)) (g3 ao) ⟨loc,per⟩=some (.dB,fs)) (Y:fs.per=dh):jj b C CQ ao args per=some (.dB,dh):=Y▸bq M (bd O rfl)
theorem c7 {m f ao args per o} (h:ds f=some ao) (O:jj b (aH b m) (aH false m) ao args per=o):aH b (m+1) f args per=o:=bq h O
theorem gT {x px iter body items} (h:hy (aJ b C CQ n J) J iter fs=some (items,fs₁)) (O:f4 (aJ b C CQ n J) J x body items fs₁=o):(aJ b C CQ (n+1) J).dg (.For (.Name x px) iter body [] p) fs=o:=bq rfl (bd h O)
theorem XC {cb:Scope->bk} {Rh c body}:pl C cb Rh J (.While c body [] p) fs=gN (cb J) c body lx fs:=rfl
theorem qR {c body} (h:gN (aJ b C CQ n J) c body lx fs=o):(aJ b C CQ (n+1) J).dg (.While c body [] p) fs=o:=(XC (C:=C) (p:=p) (Rh:=if b then some (aJ false CQ CQ n) else none)).trans h
theorem l3 {ts k tp e vs} (aL:(uA e&&ur ts)=true) (h:(aJ b C CQ n J).a9 e fs=some (.U (.aF vs),fs₁)) (M:vs.length<=a4) (O:hr J ts vs fs₁=some fs₂):(aJ b C CQ (n+1) J).dg (.Assign [.Tuple ts k tp] e p) fs=some (.next,fs₂):=bq rfl (cT aL (bd h (bq rfl (bq rfl (cT M (bq O rfl))))))
theorem gL {x i q e v r k fs₃} (h:d2 (aJ b C CQ n J) e fs=some (v,fs₁)) (M:(aJ b C CQ n J).a9 x fs₁=some (r,fs₂)) (O:(aJ b C CQ n J).a9 i fs₂=some (.U k,fs₃)) (Y:p8 r k v fs₃=some fs'):(aJ b C CQ (n+1) J).dg (.Assign [.Subscript x i q] e p) fs=some (.next,fs'):=bq rfl (bd h (bd M (bd O (bq rfl (bq Y rfl)))))
theorem mx {f args q rC vs r per} (aL:(decide (J.names.lookup f=some .globalImplicit)&&jV f)=true) (h:dp (aJ b C CQ n J) args fs=some (vs,fs₁)) (hc:C f vs fs₁.per=some (.ret r,per)):(aJ b C CQ (n+1) J).dg (.Expr (.Call (.Name f p) args [] q) rC) fs=some (.next,{fs₁ with per:=per}):=cT aL (bd h (bd hc rfl))
theorem DX {f args q rC vs per} (aL:(decide (J.names.lookup f=some .globalImplicit)&&jV f)=true) (h:dp (aJ b C CQ n J) args fs=some (vs,fs₁)) (hc:C f vs fs₁.per=some (.dB,per)):(aJ b C CQ (n+1) J).dg (.Expr (.Call (.Name f p) args [] q) rC) fs=some (.dB,{fs₁ with per:=per}):=cT aL (bd h (bd hc rfl))
theorem oz {e m hg args pos r rC} (h:(aJ b C CQ n J).a9 (.Call (.Attribute e m hg) args [] pos) fs=some (r,fs₁)):(aJ b C CQ (n+1) J).dg (.Expr (.Call (.Attribute e m hg) args [] pos) rC) fs=some (.next,fs₁):=bd h rfl
theorem eV {f args q vs r per} (aL:J.names.lookup f=some .globalImplicit) (M:f≠"isinstance") (O:f≠"min") (Y:ml.contains f≠true) (aC:f≠"Shelf") (bR:jN f=none) (dL:jV f=true) (bz:dp (aJ b C CQ n J) args fs=some (vs,fs₁)) (hc:C f vs fs₁.per=some (.ret r,per)):
  (aJ b C CQ (n+1) J).a9 (.Call (.Name f p) args [] q) fs=some (r,{fs₁ with per:=per}):=(LC aL M O Y aC bR).trans (cT dL (bd bz (bd hc (bq rfl rfl))))
theorem bM {e t r v vs fs₃} (h:R.a9 e fs=some (r,fs₁)) (O:fs₁.nL r=some (v,fs₂)) (Y:dp R t fs₂=some (vs,fs₃)):dp R (e::t) fs=some (v::vs,fs₃):=by
 exact bd (bd h O) (bd Y rfl)
theorem dt {e r v} (h:R.a9 e fs=some (r,fs₁)) (O:fs₁.nL r=some (v,fs₂)):d2 R e fs=some (v,fs₂):=bd h O
theorem fL {x body v t} (M:eQ J x (.U v) fs=some fs₁) (O:cR R body fs₁=some (.next,fs₂)) (Y:f4 R J x body t fs₂=o):f4 R J x body (v::t) fs=o:=bq M (bd O Y)
theorem zo {x body v t r} (M:eQ J x (.U v) fs=some fs₁) (O:cR R body fs₁=some (.ret r,fs₂)):f4 R J x body (v::t) fs=some (.ret r,fs₂):=bq M (bd O rfl)
theorem oq {c body m} (M:R.dD c fs=some (true,fs₁)) (O:cR R body fs₁=some (.next,fs₂)) (Y:gN R c body m fs₂=o):gN R c body (m+1) fs=o:=bd M (bd O Y)
theorem N0 {c body m r} (M:R.dD c fs=some (true,fs₁)) (O:cR R body fs₁=some (.ret r,fs₂)):gN R c body (m+1) fs=some (.ret r,fs₂):=bd M (bd O rfl)
theorem w_end {c body m} (M:R.dD c fs=some (false,fs₁)):gN R c body (m+1) fs=some (.next,fs₁):=bd M rfl
theorem cO {l bW e a c x y v w} (M:(aJ b C CQ n J).a9 l fs=some (a,fs₁)) (O:(aJ b C CQ n J).a9 e fs₁=some (c,fs₂)) (Y:fs₂.cE a=some v) (aC:fs₂.cE c=some w) (bR:eK bW v w=some x) (aQ:x=y):(aJ b C CQ (n+1) J).dD (.Compare l [bW] [e] p) fs=some (y,fs₂):=by
 exact bd M (bd O (i1 Y aC (bq bR (aQ▸rfl))))
theorem wT {l bW e a c x v w} (M:(aJ b C CQ n J).a9 l fs=some (a,fs₁)) (O:(aJ b C CQ n J).a9 e fs₁=some (c,fs₂)) (Y:fs₂.cE a=some v) (aC:fs₂.cE c=some w) (bR:eK bW v w=some x):(aJ b C CQ (n+1) J).a9 (.Compare l [bW] [e] p) fs=some (.U (.bool x),fs₂):=by
 exact bd M (bd (bd O (i1 Y aC (bq bR rfl))) rfl)
theorem mV {c x y r} (t:Bool) (h:(aJ b C CQ n J).dD c fs=some (t,fs₁)) (O:(aJ b C CQ n J).a9 (if t then x else y) fs₁=some (r,fs₂)):(aJ b C CQ (n+1) J).a9 (.IfExp c x y p) fs=some (r,fs₂):=by
 exact bd h (by cases t<;>exact O)
theorem oo {e c q cI r v t} (aL:J.names.lookup ("isinstance":Str)=some .globalImplicit) (M:(aJ b C CQ n J).a9 e fs=some (r,fs₁)) (O:fs₁.cE r=some v) (Y:gz v c=some t) (aC:J.names.lookup c=some .globalImplicit):
  (aJ b C CQ (n+1) J).a9 (.Call (.Name ("isinstance":Str) p) [e,.Name c q] [] cI) fs=some (.U (.bool t),fs₁):=cT aL (cT rfl (bd rfl (bd M (bq O (bq Y (cT aC rfl))))))
theorem j0 {f a k t} (h:(aJ b C CQ n J).a9 (.Call f a k p) fs=some (.U (.bool t),fs₁)):(aJ b C CQ (n+1) J).dD (.Call f a k p) fs=some (t,fs₁):=bd h (bq rfl (bq rfl rfl))
theorem Hb {r:aV} {args k kk l d x} (aL:l5 (fs.cE r)=true) (bz:dp R args fs=some ([k,d],fs₁)) (M:fs₁.cE r=some (.V l)) (O:f8 k=some kk) (Y:(bb kk l).getD d=x):iK C R "get" r args fs=some (.U x,fs₁):=(z9 aL).trans (bd bz (bd rfl (i1 (congrArg qp M) O (Y▸rfl))))
theorem mR {r:aV} {args k kk l x} (aL:l5 (fs.cE r)=true) (bz:dp R args fs=some ([k],fs₁)) (M:fs₁.cE r=some (.V l)) (O:f8 k=some kk) (Y:(bb kk l).getD .none=x):iK C R "get" r args fs=some (.U x,fs₁):=(z9 aL).trans (bd bz (bd rfl (i1 (congrArg qp M) O (Y▸rfl))))
theorem f7 {e m hg args pos r oy} (aL:(kS e&&hg.endLine==pos.line&&args.length<30)=true) (aX:(aJ b C CQ n J).a9 e fs=some (r,fs₁)) (hd:iK C (aJ b C CQ n J) m r args fs₁=oy):(aJ b C CQ (n+1) J).a9 (.Call (.Attribute e m hg) args [] pos) fs=oy:=cT aL (bd aX hd)
theorem w0 {k:Nat} {l:List (al×H)} {eJ v:H} {kk:al} (h:fs.per[k]? =some (.V l)) (ag:f8 eJ=some kk) (aq:l.length<=a4):p8 (.U (.per k)) eJ v fs=some {fs with per:=fs.per.set k (.V (cU kk v l))}:=bd (bq h rfl) (bq ag (cT aq rfl))
theorem jx {x:Str} {l:List (al×H)} {eJ v:H} {kk:al} (h:getL x fs.loc=some (.aD (.V l))) (ag:f8 eJ=some kk) (aq:l.length<=a4):p8 (.var x) eJ v fs=some {fs with loc:=bX x (.aD (.V (cU kk v l))) fs.loc}:=bd (bq (bq h rfl) rfl) (bq ag (cT aq rfl))
theorem kU {x y:Expr} {z:Bool} (M:(aJ b C CQ n J).dD x fs=some (true,fs₁)) (O:(aJ b C CQ n J).dD y fs₁=some (z,fs₂)):(aJ b C CQ (n+1) J).dD (.BoolOp .And [x,y] p) fs=some (z,fs₂):=bd M (bd O (by cases z<;>rfl))
theorem om {x:Expr} {l:List Expr} (M:(aJ b C CQ n J).dD x fs=some (false,fs₁)):(aJ b C CQ (n+1) J).dD (.BoolOp .And (x::l) p) fs=some (false,fs₁):=bd M rfl
theorem r2 {x y:Expr} {z:Bool} (M:(aJ b C CQ n J).dD x fs=some (false,fs₁)) (O:(aJ b C CQ n J).dD y fs₁=some (z,fs₂)):(aJ b C CQ (n+1) J).dD (.BoolOp .Or [x,y] p) fs=some (z,fs₂):=bd M (bd O (by cases z<;>rfl))
theorem Qr {x:Expr} {z:Bool} (M:(aJ b C CQ n J).a9 x fs=some (.U (.bool z),fs₁)):(aJ b C CQ (n+1) J).a9 (.UnaryOp .Not x p) fs=some (.U (.bool (!z)),fs₁):=by
 exact bd M (bq rfl (bq rfl rfl))
theorem x3 {f:Str} {args:List Expr} {q:Pos} {names:List Str} {vs:List H} {l:List (Str×H)} (aL:J.names.lookup f=some .globalImplicit) (M:f≠"isinstance") (O:f≠"min") (Y:ml.contains f≠true) (aC:f≠"Shelf") (bR:jN f=some names) (bz:dp (aJ b C CQ n J) args fs=some (vs,fs₁)) (dL:pP names vs=some l):
  (aJ b C CQ (n+1) J).a9 (.Call (.Name f p) args [] q) fs=some (.U (.dV f l),fs₁):=(T2 aL M O Y aC bR).trans (bd bz (bq dL rfl))
theorem k9 {f:Str} {e:Expr} {q:Pos} {r r':aV} {v:H} (aL:J.names.lookup f=some .globalImplicit) (M:f≠"isinstance") (O:f≠"min") (Y:ml.contains f=true) (aX:(aJ b C CQ n J).a9 e fs=some (r,fs₁)) (hd:fs₁.cE r=some v) (aC:gB f v=some r'):
  (aJ b C CQ (n+1) J).a9 (.Call (.Name f p) [e] [] q) fs=some (r',fs₁):=(z3 aL M O).trans (cT Y (bq rfl (bd aX (bq hd (bq aC rfl)))))
theorem Fj {q wQ:Pos} {a:Expr} {l:List H} (aL:J.names.lookup ("reversed":Str)=some .globalImplicit) (h:d2 R a fs=some (.am l,fs₁)):hy R J (.Call (.Name ("reversed":Str) q) [a] [] wQ) fs=some (l.reverse,fs₁):=cT aL (eh (show("reversed":Str)≠"range" by decide+kernel) (cT rfl (bd h (bq rfl rfl))))
theorem g4 {e:Expr} {l:List H} (aL:hy R J e fs=oj R qj e fs) (h:d2 R e fs=some (.am l,fs₁)):hy R J e fs=some (l,fs₁):=aL.trans (bd h (bq rfl rfl))
theorem U0 {e:Expr} {l:List (al×H)} (aL:hy R J e fs=oj R qj e fs) (h:d2 R e fs=some (.V l,fs₁)):hy R J e fs=some (l.map (fun p=>pt p.1),fs₁):=aL.trans (bd h (bq rfl rfl))
theorem dC {l r:Expr} {bW:Operator} {a c:aV} {v w:H} {z:aV} (M:(aJ b C CQ n J).a9 l fs=some (a,fs₁)) (O:(aJ b C CQ n J).a9 r fs₁=some (c,fs₂)) (Y:fs₂.cE a=some v) (aC:fs₂.cE c=some w) (bR:kh bW v w=some z):(aJ b C CQ (n+1) J).a9 (.BinOp l bW r p) fs=some (z,fs₂):=by
 exact bd M (bd O (i1 Y aC (bq bR rfl)))
theorem kK {es:List Expr} {k:Nat} {vs:List H} (h:dp (aJ b C CQ n J) es fs=some (vs,fs₁)) (M:vs.length<=a4):(aJ b C CQ (n+1) J).a9 (.Tuple es k p) fs=some (.U (.aF vs),fs₁):=by
 exact bd h (cT M rfl)
theorem yS {es:List Expr} {vs:List H} (h:dp (aJ b C CQ n J) es fs=some (vs,fs₁)) (M:vs.length<=a4):(aJ b C CQ (n+1) J).a9 (.List es p) fs=some (.b5 (.am vs),fs₁):=by
 exact bd h (cT M rfl)
theorem ra {x:Str} {args:List Expr} {v:H} {l:List H} (aL:o7 (fs.cE (.var x))=true) (bz:dp R args fs=some ([v],fs₁)) (bi:getL x fs₁.loc=some (.aD (.am l))) (aq:l.length<=a4):iK C R "append" (.var x) args fs=some (.U .none,{fs₁ with loc:=bX x (.aD (.am (l++[v]))) fs₁.loc}):=(Qe aL).trans (bq rfl (bd bz (i1 rfl (congrArg lm (bq bi rfl)) (cT aq rfl))))
theorem zH {x:Str} {v:H} {l:List H} (aL:o7 (fs.cE (.var x))=true) (bi:getL x fs.loc=some (.aD (.am (l++[v])))) (aq:(l++[v]).length<=a4):iK C R "pop" (.var x) [] fs=some (.U v,{fs with loc:=bX x (.aD (.am l)) fs.loc}):=(V6 aL).trans (bq rfl (bq (congrArg lm (bq bi rfl)) (bq (List.getLast?_concat ..) (cT (decide_eq_true aq) (by(refine B List.dropLast_concat ?_;rfl))))))
theorem uu {x y:List H} (h:x.length+y.length<=a4):kh .Add (.aF x) (.aF y)=some (.U (.aF (x++y))):=bq rfl (cT (decide_eq_true h) rfl)
theorem uE {x y:List H} (h:x.length+y.length<=a4):kh .Add (.am x) (.am y)=some (.b5 (.am (x++y))):=bq rfl (cT (decide_eq_true h) rfl)
theorem ub {e:Expr} {r:aV} {l:List H} {z:Bool} (aX:(aJ b C CQ (n+1) J).dD e fs=uQ (aJ b C CQ n J) e fs) (h:(aJ b C CQ n J).a9 e fs=some (r,fs₁)) (hd:fs₁.cE r=some (.am l)) (aq:l.length<=a4) (hz:(!l.isEmpty)=z):(aJ b C CQ (n+1) J).dD e fs=some (z,fs₁):=aX.trans (bd h (bq hd (bq (cT aq rfl) (hz▸rfl))))
theorem qQ {k:H} {l:List (al×H)} {kk:al} {z:Bool} (h:f8 k=some kk) (hz:(bb kk l).isSome=z):eK .In k (.V l)=some z:=by
 show(f8 k).map (fun k=>(bb k l).isSome)=_
 (refine B h ?_;refine bt hz ?_);rfl
theorem Vh {k:H} {l:List (al×H)} {kk:al} {z:Bool} (h:f8 k=some kk) (hz:(!(bb kk l).isSome)=z):eK .NotIn k (.V l)=some z:=by
 show(f8 k).map (fun k=> !(bb k l).isSome)=_
 (refine B h ?_;refine bt hz ?_);rfl
theorem TC {x:Str} {args:List Expr} {k:H} {kk:al} {l:List (al×H)} (aL:l5 (fs.cE (.var x))=true) (bz:dp R args fs=some ([k,.none],fs₁)) (bi:getL x fs₁.loc=some (.aD (.V l))) (ag:f8 k=some kk) (aq:l.length<=a4):
  iK C R "pop" (.var x) args fs=some (.U ((bb kk l).getD .none),{fs₁ with loc:=bX x (.aD (.V (hY kk l))) fs₁.loc}):=(Jp aL).trans (bq rfl (bd bz (bd rfl (i1 (congrArg qp (bq bi rfl)) ag (cT (decide_eq_true aq) rfl)))))
theorem f0 {e i:Expr} {q:Pos} {r:aV} {k v w:H} (hs:nU i=none) (M:(aJ b C CQ n J).a9 e fs=some (r,fs₁)) (O:(aJ b C CQ n J).a9 i fs₁=some (.U k,fs₂)) (Y:fs₂.cE r=some v) (aC:o5 v k=some w):(aJ b C CQ (n+1) J).a9 (.Subscript e i q) fs=some (.U w,fs₂):=by
 show(match nU i with|some s=>z5 (aJ b C CQ n J) e s.1 s.2 fs|none=>Eh (aJ b C CQ n J) e i fs)=_
 refine B hs ?_;exact bd M (bd O (bq rfl (bq Y (bq aC rfl))))
theorem sj {x:Str} {v:H} {q:Pos} (hs:J.names.lookup x=some .local) (ae:¬(x==("__debug__":Str))=true) (h:getL x fs.loc=some (.aD v)):(aJ b C CQ (n+2) J).dg (.Return (some (.Name x q)) p) fs=some (.ret (.b5 v),{fs with loc:=jI x fs.loc}):=bq rfl (bd (a:=aV.var x) (b:=fs) (bq hs (eh (by decide) (eh ae (bq h rfl)))) (bd (show fs.take (.var x)=_ from bq (bq h rfl) rfl) rfl))
theorem wf {v:H} {k:Nat} (h:yw v=some k) (aE:k<=a4):gB "len" v=some (.U (.int k)):=cT rfl (bq h (cT aE rfl))
theorem vR {l:List H} (aq:l.length<=a4):gB "tuple" (.am l)=some (.U (.aF l)):=eh (by decide+kernel) (eh (by decide+kernel) (eh (by decide+kernel) (eh (by decide+kernel) (eh (by decide+kernel) (cT rfl (cT aq rfl))))))
theorem Ss {d:List (al×H)} {ns:List Int} (aq:d.length<64) (h:oE d=some ns):gB "sorted" (.V d)=some (.b5 (.am ((pY ns).map .int))):=eh (by decide+kernel) (eh (by decide+kernel) (eh (by decide+kernel) (eh (by decide+kernel) (cT rfl (cT aq (by unfold sC;(refine B h ?_;rfl)))))))
theorem DH {hd:List (al×H)} (aq:hd.length<=a4):gB "dict" (.V hd)=some (.b5 (.V hd)):=eh (by decide+kernel) (eh (by decide+kernel) (eh (by decide+kernel) (eh (by decide+kernel) (eh (by decide+kernel) (eh (by decide+kernel) (cT rfl (cT aq rfl)))))))
end
end Mine
end
section
open PySem
namespace Mine
theorem Mo:ds "Reference.pair"=some (cH 12 1):=by kernel_rfl
theorem Ez:ds "Lookup.fetch"=some (cH 18 1):=by kernel_rfl
theorem GQ:ds "Lookup.get"=some (cH 18 2):=by kernel_rfl
theorem Xa:ds "Shelf.put"=some (cH 19 0):=by kernel_rfl
theorem Pg:ds "Shelf.add"=some (cH 19 1):=by kernel_rfl
theorem VC:ds "Shelf.numbers"=some (cH 19 3):=by kernel_rfl
theorem Db:ds "Shelf.root"=some (cH 19 4):=by kernel_rfl
noncomputable def bB (t u:Nat):H:=.dV "Shelf" [("table",.per t),("trailer",.per u)]
noncomputable def au (n:Int):H:=.dV "Reference" [("number",.int n),("generation",.int 0)]
noncomputable def gG (s:Str):H:=.dV "Name" [("text",.str s)]
section
variable{b:Bool} {C CQ:ct} {n:Nat} {J aW:Scope} {fs fs₁ fs₂ fs':X} {R:bk} {o:Option (bE×X)} {p:Pos} {m:Nat} {t u:Nat} {per:List H} {tab bJ:List (al×H)}
theorem qb {v:H} {c:Str} {x:Bool} (h:gz v c=some x):fs.cE (.U v)=some v:=by
 cases v with
 |per k=>unfold gz at h;split at h<;>cases h
 |_=>rfl
theorem GG {k:Int}:gz (au k) "Reference"=some true:=by rfl
theorem mD {k:Int}:aH b (m+1) "Reference.pair" [au k] per=some (.ret (.U (.aF [.int k,.int 0])),per):=by
 refine c7 Mo ?_
 apply dq rfl
 ·exact cw (dE rfl rfl)
 ·rfl
theorem Wh {v:H} (h:gz v "Reference"=some false):aH b (m+1) "Lookup.fetch" [bB t u,v] per=some (.ret (.U v),per):=by
 refine c7 Ez ?_
 apply dq rfl
 ·refine aO (de rfl rfl) ?_
  apply cw
  apply gT rfl
  exact zo rfl (cw (co true (i4 (j0 (oo rfl rfl (qb h) h rfl))) (cw (dE rfl rfl))))
 ·rfl
theorem WP {k:Int} {v:H} (aG:per[t]? =some (.V tab)) (bi:bb (.int k) tab=some (.aF [.int 0,v])) (h:gz v "Reference"=some false):aH b (m+1) "Lookup.fetch" [bB t u,au k] per=some (.ret (.U v),per):=by
 refine c7 Ez ?_
 apply dq rfl
 ·refine aO (de rfl rfl) ?_
  apply cw
  apply gT rfl
  apply fL rfl
  ·refine aO (co false (i4 (j0 (oo rfl rfl rfl GG rfl))) rfl) ?_
   refine aO (l3 (vs:=[.int 0,v]) rfl (f7 rfl rfl (Hb (kk:=.int k) (l:=tab) (by show l5 per[t]? =true;refine B aG ?_;rfl) rfl aG rfl (by refine B bi ?_;rfl))) (Nat.le_of_ble_eq_true rfl) rfl) ?_
   refine aO (co false (cO rfl rfl rfl rfl rfl rfl) rfl) ?_
   exact aO (de rfl rfl) rfl
  ·exact zo rfl (cw (co true (i4 (j0 (oo rfl rfl (qb h) h rfl))) (cw (dE rfl rfl))))
 ·rfl
noncomputable def lw (tab:List (al×H)) (v x:H):Prop:=(gz v "Reference"=some false/\x=v)\/∃k,v=au k/\bb (.int k) tab=some (.aF [.int 0,x])/\gz x "Reference"=some false
theorem lw.hI {v:H} (h:gz v "Reference"=some false):lw tab v v:=.inl ⟨h,rfl⟩
theorem lw.rP {k:Int} {x:H} (h:bb (.int k) tab=some (.aF [.int 0,x])) (O:gz x "Reference"=some false):lw tab (au k) x:=.inr ⟨k,rfl,h,O⟩
theorem s9 {v x:H} (aG:per[t]? =some (.V tab)) (h:lw tab v x):aH b (m+1) "Lookup.fetch" [bB t u,v] per=some (.ret (.U x),per):=by
 rcases h with⟨h,rfl⟩|⟨k,rfl,bi,h⟩
 ·exact Wh h
 ·exact WP aG bi h
theorem la {hd:List (al×H)} {k:Str} {v x:H} (aG:per[t]? =some (.V tab)) (ag:(bb (.str k) hd).getD .none=v) (h:lw tab v x):aH b (m+2) "Lookup.get" [bB t u,.V hd,.str k] per=some (.ret (.U x),per):=by
 refine c7 GQ ?_
 apply dq rfl
 ·apply cw
  apply dE
  ·exact d0 rfl rfl rfl rfl (bM (f7 rfl rfl (mR (kk:=.str k) (l:=hd) rfl rfl rfl rfl ag)) rfl rfl) (s9 aG h)
  ·rfl
 ·rfl
theorem Ex {w:Nat} {hd:List (al×H)} {k:Str} {v x:H} (aG:per[t]? =some (.V tab)) (ea:per[w]? =some (.V hd)) (ag:(bb (.str k) hd).getD .none=v) (h:lw tab v x):aH b (m+2) "Lookup.get" [bB t u,.per w,.str k] per=some (.ret (.U x),per):=by
 refine c7 GQ ?_
 apply dq rfl
 ·apply cw
  apply dE
  ·exact d0 rfl rfl rfl rfl (bM (f7 rfl rfl (mR (kk:=.str k) (l:=hd) (by show l5 per[w]? =true;refine B ea ?_;rfl) rfl ea rfl ag)) rfl rfl) (s9 aG h)
  ·rfl
 ·rfl
theorem Hi {k g:Int} {v:H} (aG:per[t]? =some (.V tab)) (aq:tab.length<=a4):aH b (m+1) "Shelf.put" [bB t u,.int k,.int g,v] per=some (.ret (.U .none),per.set t (.V (cU (.int k) (.aF [.int g,v]) tab))):=by
 refine c7 Xa ?_
 apply ti rfl
 ·exact aO (gL (k:=.int k) (r:=.U (.per t)) rfl rfl rfl (w0 aG rfl aq)) rfl
 ·rfl
theorem wa {v:H} {hd:List (al×H)} (aG:per[t]? =some (.V tab)) (b2:per[u]? =some (.V bJ)) (ag:(bb (.str "Root") bJ).getD .none=v) (h:lw tab v (.V hd)):aH b (m+3) "Shelf.root" [bB t u] per=some (.ret (.U (.V hd)),per):=by
 refine c7 Db ?_
 apply dq rfl
 ·refine aO (de (d0 rfl rfl rfl rfl rfl (Ex aG b2 ag h)) rfl) ?_
  exact cw (dE (mV true (j0 (oo rfl rfl rfl rfl rfl)) rfl) rfl)
 ·rfl
theorem A2 (aG:per[t]? =some (.V tab)) (b2:per[u]? =some (.V [])):aH b (m+3) "Shelf.root" [bB t u] per=some (.ret (.b5 (.V [])),per):=by
 refine c7 Db ?_
 apply dq rfl
 ·refine aO (de (d0 rfl rfl rfl rfl rfl (Ex (x:=.none) aG b2 rfl (.hI rfl))) rfl) ?_
  exact cw (dE (mV false (j0 (oo rfl rfl rfl rfl rfl)) rfl) rfl)
 ·rfl
end
end Mine
end
section
open PySem
namespace Mine
noncomputable def cc (ao:Stmt) (i:Nat):Stmt:=((g3 ao)[i]?).getD default
noncomputable def VZ:Expr->List Expr
 |.BoolOp _ vs _=>vs
 |.BinOp l _ r _=>[l,r]
 |.UnaryOp _ x _=>[x]
 |.Compare l _ lF _=>l::lF
 |.Call f as _ _=>f::as
 |.ListComp e eB _ _=>e::eB.flatMap fun g=>g.iter::g.ifs
 |.Attribute x _ _=>[x]
 |.Subscript x i _=>[x,i]
 |.List es _=>es
 |_=>[]
noncomputable def iH:Expr->Scope
 |.ListComp _ _ s _=>s
 |_=>default
noncomputable def WF:Stmt->List Expr
 |.Return e _=>e.toList
 |.Assign _ e _=>[e]
 |.Expr e _=>[e]
 |.If c _ _ _=>[c]
 |.While c _ _ _=>[c]
 |_=>[]
noncomputable def d5:Stmt->List Stmt
 |.While _ x _ _=>x
 |.For _ _ x _ _=>x
 |.If _ x _ _=>x
 |_=>[]
noncomputable def lq (s:Stmt):Expr:=(WF s).headD default
noncomputable def ij (l:List Stmt) (i:Nat):Stmt:=(l[i]?).getD default
noncomputable def en (s:Stmt) (l:List Nat):Expr:=l.foldl (fun e i=>((VZ e)[i]?).getD default) (lq s)
section
variable{b:Bool} {C CQ:ct} {n:Nat} {J aW:Scope} {fs fs₁ fs₂ fs':X} {R:bk} {o:Option (bE×X)} {p:Pos} {m:Nat} {t u:Nat} {per:List H} {tab bJ:List (al×H)}
noncomputable def fU (tab:List (al×H)) (N:Nat):Prop:=tab.map (·.1)=(List.range N).map fun(i:Nat)=>al.int ((i:Int)+1)
theorem zP {k:al}:∀{l:List (al×H)},k∉l.map (·.1)->bb k l=none
 |[],_=>rfl
 |(y,v)::r,h=>by
  unfold bb
  (refine B (if_neg (fun e=>h (by rw [e];exact List.mem_cons_self))) ?_;refine B (zP fun q=>h (List.mem_cons_of_mem _ q)) ?_;rfl)
theorem Gy {k:al}:∀{l:List (al×H)},k∈l.map (·.1)->(bb k l).isSome=true
 |[],h=>by cases h
 |(y,v)::r,h=>by
  unfold bb
  by_cases e:k=y
  ·refine B (if_pos e) ?_;rfl
  ·refine B (if_neg e) ?_
   exact Gy ((List.mem_cons.mp h).resolve_left e)
theorem FE {k:al} {v:H}:∀{l:List (al×H)},k∉l.map (·.1)->cU k v l=l++[(k,v)]
 |[],_=>rfl
 |(y,w)::r,h=>by
  unfold cU
  (refine B (if_neg (fun e=>h (by rw [e];exact List.mem_cons_self))) ?_;refine B (FE fun q=>h (List.mem_cons_of_mem _ q)) ?_);rfl
theorem fU.mem {N j:Nat} (h:fU tab N):al.int (j:Int)∈tab.map (·.1)↔1<=j/\j<=N:=by
 (refine B h ?_;rw [List.mem_map])
 constructor
 ·rintro ⟨i,M,O⟩
  have M:=List.mem_range.mp M
  have O:(i:Int)+1=j:=by injection O
  exact NU M O
 ·rintro ⟨M,O⟩
  exact⟨j-1,List.mem_range.mpr (by exact WQ M O),by congr 1;exact OW M⟩
theorem fU.len {N:Nat} (h:fU tab N):tab.length=N:=by
 have:=congrArg List.length h
 simpa using this
theorem fU.add {N:Nat} {v:H} (h:fU tab N):cU (.int ((N:Int)+1)) v tab=tab++[(.int ((N:Int)+1),v)]/\fU (tab++[(.int ((N:Int)+1),v)]) (N+1):=by
 have aE:al.int ((N:Int)+1)∉tab.map (·.1):=fun q=>by
  have:=(h.mem (j:=N+1)).mp (by simpa using q)
  exact(GY this).elim
 refine⟨FE aE,?_⟩
 unfold fU at*
 (refine B List.map_append ?_;refine B h ?_;refine B List.range_succ ?_;refine B List.map_append ?_);rfl
noncomputable def wh (t u:Nat) (v:H) (j:Nat) (per:List H):X:=⟨[("self",.U (bB t u)),("value",.U v),("number",.U (.int j))],per⟩
theorem EA {v:H} {N:Nat} (aG:per[t]? =some (.V tab)) (ag:fU tab N):∀(d j fuel:Nat),j+d=N+1->1<=j->d<fuel->
  gN (aJ b C CQ (n+12) (bN (cH 19 1))) (lq (cc (cH 19 1) 1)) (d5 (cc (cH 19 1) 1)) fuel (wh t u v j per)=some (.next,wh t u v (N+1) per)
 |0,j,fuel+1,bF,M,aB=>by
  have:j=N+1:=by exact OG bF
  subst this
  refine w_end (cO rfl rfl rfl aG (x:=false) ?_ rfl)
  show some (bb (.int ((N+1:Nat):Int)) tab).isSome=_
  refine B (zP (fun q=>by have:=(ag.mem).mp q;exact(GY this).elim)) ?_;rfl
 |d+1,j,fuel+1,bF,M,aB=>by
  refine oq (fs₂:=wh t u v (j+1) per) (cO rfl rfl rfl aG (x:=true) ?_ rfl) ?_ (EA aG ag d (j+1) fuel (by exact Tk bF) (by exact Je) (by exact Ox aB))
  ·show some (bb (.int (j:Int)) tab).isSome=_
   (refine B (Gy ((ag.mem).mpr ⟨M,by exact MG bF⟩)) ?_;rfl)
  ·exact aO (de rfl rfl) rfl
theorem rR {v:H} {N:Nat} (aG:per[t]? =some (.V tab)) (ag:fU tab N) (dm:N<1000):aH b (m+1) "Shelf.add" [bB t u,v] per=some (.ret (.U (au ((N:Int)+1))),per.set t (.V (tab++[(.int ((N:Int)+1),.aF [.int 0,v])]))):=by
 refine c7 Pg ?_
 apply dq rfl
 ·refine aO (de rfl rfl) ?_
  refine aO (qR (EA (n:=27) aG ag N 1 _ (by exact Ps) (by exact Uv) (by unfold lx;exact DD dm))) ?_
  refine aO (gL (k:=.int ((N+1:Nat):Int)) (r:=.U (.per t)) rfl rfl rfl (w0 aG rfl (by refine B ag.len ?_;unfold a4;exact mP dm))) ?_
  exact cw (dE rfl rfl)
 ·show per.set t (.V (cU (.int ((N:Int)+1)) _ tab))=_
  (refine B ag.add.1 ?_;rfl)
end
end Mine
end
section
open PySem
namespace Mine
theorem MS:ds "home_of"=some (aI 25):=by kernel_rfl
theorem D8:ds "is_node"=some (aI 26):=by kernel_rfl
theorem QO:ds "kids_of"=some (aI 27):=by kernel_rfl
theorem OT:ds "met"=some (aI 28):=by kernel_rfl
section
variable{b:Bool} {C CQ:ct} {n:Nat} {J aW:Scope} {fs fs₁ fs₂ fs':X} {R:bk} {o:Option (bE×X)} {p:Pos} {m:Nat} {t u:Nat} {per:List H} {tab bJ:List (al×H)}
theorem zI {k:Int} {x:H} (aG:per[t]? =some (.V tab)) (bi:bb (.int k) tab=some (.aF [.int 0,x])) (h:gz x "Reference"=some false):aH b (m+1) "home_of" [bB t u,au k] per=some (.ret (.U (au k)),per):=by
 refine c7 MS ?_
 apply dq rfl
 ·refine aO (de rfl rfl) ?_
  refine aO (fz rfl rfl) ?_
  apply cw
  apply qR
  apply N0 (m:=999999) (kU (j0 (oo rfl rfl rfl GG rfl)) (cO rfl rfl rfl rfl rfl rfl))
  refine aO (gL (k:=.int k) rfl rfl rfl (jx rfl rfl (Nat.le_of_ble_eq_true rfl))) ?_
  refine aO (l3 (vs:=[.int 0,x]) rfl (f7 rfl rfl (Hb (kk:=.int k) (l:=tab) (by show l5 per[t]? =true;refine B aG ?_;rfl) rfl aG rfl (by refine B bi ?_;rfl))) (Nat.le_of_ble_eq_true rfl) rfl) ?_
  refine aO (co false (cO rfl rfl rfl rfl rfl rfl) rfl) ?_
  exact cw (co true (i4 (j0 (oo rfl rfl (qb h) h rfl))) (cw (dE rfl rfl)))
 ·rfl
theorem qA {hd:List (al×H)} {v:H} {l:List H} (aG:per[t]? =some (.V tab)) (ag:(bb (.str "Kids") hd).getD .none=v) (h:lw tab v (.am l)):aH b (m+3) "kids_of" [bB t u,.V hd] per=some (.ret (.U (.am l)),per):=by
 refine c7 QO ?_
 apply dq rfl
 ·refine aO (de (d0 rfl rfl rfl rfl rfl (la aG ag h)) rfl) ?_
  refine aO (co false rfl rfl) ?_
  exact cw (dE rfl rfl)
 ·rfl
theorem K3 {hd:List (al×H)} (aG:per[t]? =some (.V tab)) (ag:(bb (.str "Type") hd).getD .none=gG "Pages"):aH b (m+3) "is_node" [bB t u,.V hd] per=some (.ret (.U (.bool true)),per):=by
 refine c7 D8 ?_
 apply dq rfl
 ·refine aO (de (d0 rfl rfl rfl rfl rfl (la aG ag (.hI rfl))) rfl) ?_
  exact cw (co true (kU rfl rfl) (cw (dE rfl rfl)))
 ·rfl
theorem P5 {hd:List (al×H)} (aG:per[t]? =some (.V tab)) (ag:(bb (.str "Type") hd).getD .none=gG "Page"):aH b (m+3) "is_node" [bB t u,.V hd] per=some (.ret (.U (.bool false)),per):=by
 refine c7 D8 ?_
 apply dq rfl
 ·refine aO (de (d0 rfl rfl rfl rfl rfl (la aG ag (.hI rfl))) rfl) ?_
  exact cw (co true (kU rfl rfl) (cw (dE rfl rfl)))
 ·rfl
noncomputable def bS (k:Int) (hd:List (al×H)) (ab:List H) (inh:List (al×H)) (pg:Bool):H:=.dV "Spot" [("reference",au k),("head",.V hd),("above",.aF ab),("inherited",.V inh),("is_page",.bool pg)]
noncomputable def p4 (v:H):Prop:=gz v "Reference"=some false/\fP v=false
noncomputable def fJ (hd g:List (al×H)) (k:Str):List (al×H):=match bb (.str k) hd with
 |none=>g
 |some v=>cU (.str k) v g
noncomputable def sV (t u:Nat) (k0:Int) (ab:List H) (hd g:List (al×H)) (k:Str) (per:List H):X:=
 ⟨[("shelf",.U (bB t u)),("value",.U (au k0)),("above",.U (.aF ab)),("inherited",.U (.V [])),("reference",.U (au k0)),("head",.U (.V hd)),("given",.aD (.V g)),("key",.U (.str k))],per⟩
theorem t2 {k0:Int} {ab:List H} {hd g:List (al×H)} {k:Str} (aG:per[t]? =some (.V tab)) (an:∀v,bb (.str k) hd=some v->p4 v) (aq:g.length<=a4):
  cR (aJ b (aH b (m+2)) CQ (n+14) (bN (aI 28))) (d5 (cc (aI 28) 4)) (sV t u k0 ab hd g k per)=some (.next,sV t u k0 ab hd (fJ hd g k) k per):=by
 cases bi:bb (.str k) hd with
 |none=>
  have e:fJ hd g k=g:=by unfold fJ;(refine B bi ?_;rfl)
  refine B e ?_
  exact aO (co false (cO (d0 rfl rfl rfl rfl rfl (la aG (v:=.none) (by refine B bi ?_;rfl) (.hI rfl))) rfl rfl rfl rfl rfl) rfl) rfl
 |some v=>
  have e:fJ hd g k=cU (.str k) v g:=by unfold fJ;(refine B bi ?_;rfl)
  refine B e ?_
  refine cm (an v bi) ?_;intro M O
  refine aO (co true (cO (d0 rfl rfl rfl rfl rfl (la aG (v:=v) (by refine B bi ?_;rfl) (.hI M))) rfl (qb M) rfl (x:=true) (by show some (!fP v)=_;refine B O ?_;rfl) rfl) (aO (gL (fs₁:=sV t u k0 ab hd g k per) (fs₂:=sV t u k0 ab hd g k per) (fs₃:=sV t u k0 ab hd g k per) (v:=v) (k:=.str k) (r:=.var "given") ?_ rfl rfl (jx (l:=g) rfl rfl aq)) rfl)) rfl
  refine dt (r:=.U v) ?_ rfl
  exact f0 rfl rfl rfl rfl (bq rfl bi)
noncomputable def ep (hd:List (al×H)):List (al×H):=fJ hd (fJ hd (fJ hd (fJ hd [] "Resources") "MediaBox") "CropBox") "Rotate"
theorem qu {k:al} {v:H}:∀{l:List (al×H)},(cU k v l).length<=l.length+1
 |[]=>Nat.le_refl _
 |(y,w)::r=>by
  unfold cU
  split
  ·simp
  ·have:=qu (k:=k) (v:=v) (l:=r);simp only [List.length_cons];exact K2 this
theorem vV {hd g:List (al×H)} {k:Str}:(fJ hd g k).length<=g.length+1:=by
 unfold fJ;split
 ·exact uf
 ·exact qu
theorem rx {k0:Int} {ab:List H} {hd:List (al×H)} {x:Bool} (aG:per[t]? =some (.V tab)) (bi:bb (.int k0) tab=some (.aF [.int 0,.V hd]))
  (an:∀k∈(["Resources","MediaBox","CropBox","Rotate"]:List Str),∀v,bb (.str k) hd=some v->p4 v) (gO:(bb (.str "Type") hd).getD .none=if x then gG "Pages" else gG "Page"):
  aH b (m+4) "met" [bB t u,au k0,.aF ab,.V []] per=some (.ret (.U (bS k0 hd ab (ep hd) (!x))),per):=by
 have aE:aH b (m+3) "is_node" [bB t u,.V hd] per=some (.ret (.U (.bool x)),per):=by
  cases x
  ·exact P5 aG gO
  ·exact K3 aG gO
 have h1:=vV (hd:=hd) (g:=[]) (k:="Resources")
 have jM:=vV (hd:=hd) (g:=fJ hd [] "Resources") (k:="MediaBox")
 have uM:=vV (hd:=hd) (g:=fJ hd (fJ hd [] "Resources") "MediaBox") (k:="CropBox")
 simp only [List.length_nil] at h1
 have d3:=t2 (b:=b) (CQ:=aH false (m+3)) (n:=25) (m:=m+1) (u:=u) (k0:=k0) (ab:=ab) (g:=[]) aG (an "Resources" (by simp)) (Nat.zero_le _)
 have dS:=t2 (b:=b) (CQ:=aH false (m+3)) (n:=25) (m:=m+1) (u:=u) (k0:=k0) (ab:=ab) (g:=fJ hd [] "Resources") aG (an "MediaBox" (by simp)) (by unfold a4;exact Kc h1)
 have fH:=t2 (b:=b) (CQ:=aH false (m+3)) (n:=25) (m:=m+1) (u:=u) (k0:=k0) (ab:=ab) (g:=fJ hd (fJ hd [] "Resources") "MediaBox") aG (an "CropBox" (by simp)) (by unfold a4;exact Uc h1 jM)
 have iX:=t2 (b:=b) (CQ:=aH false (m+3)) (n:=25) (m:=m+1) (u:=u) (k0:=k0) (ab:=ab) (g:=fJ hd (fJ hd (fJ hd [] "Resources") "MediaBox") "CropBox") aG (an "Rotate" (by simp)) (by unfold a4;exact W7 h1 jM uM)
 refine c7 OT ?_
 apply dq rfl
 ·refine aO (de (eV rfl (by decide+kernel) (by decide+kernel) (by decide+kernel) (by decide+kernel) rfl (by decide+kernel) rfl (zI aG bi rfl)) rfl) ?_
  refine aO (de (d0 rfl rfl rfl rfl rfl (s9 aG (.rP bi rfl))) rfl) ?_
  refine aO (co false rfl rfl) ?_
  refine aO (fz rfl rfl) ?_
  refine aO (gT rfl (fL rfl d3 (fL rfl dS (fL rfl fH (fL rfl iX rfl))))) ?_
  exact cw (dE (x3 rfl (by decide+kernel) (by decide+kernel) (by decide+kernel) (by decide+kernel) rfl (bM rfl rfl (bM rfl rfl (bM rfl rfl (bM rfl rfl (bM (Qr (eV rfl (by decide+kernel) (by decide+kernel) (by decide+kernel) (by decide+kernel) rfl (by decide+kernel) rfl aE)) rfl rfl))))) rfl) rfl)
 ·rfl
end
end Mine
end
section
open PySem
namespace Mine
theorem Tn:ds "spots"=some (aI 29):=by kernel_rfl
inductive bO where
 |leaf (k:Int) (hd:List (al×H))
 |node (k:Int) (hd:List (al×H)) (kids:List bO)
noncomputable def bO.num:bO->Int
 |.leaf k _=>k
 |.node k _ _=>k
mutual
noncomputable def bO.c8:bO->List Int
 |.leaf k _=>[k]
 |.node k _ kids=>k::bO.kb kids
noncomputable def bO.kb:List bO->List Int
 |[]=>[]
 |x::r=>bO.c8 x++bO.kb r
end
mutual
noncomputable def dP (ab:List H):bO->List H
 |.leaf k hd=>[bS k hd ab (ep hd) true]
 |.node k hd kids=>bS k hd ab (ep hd) false::iv (ab++[au k]) kids
noncomputable def iv (ab:List H):List bO->List H
 |[]=>[]
 |x::r=>dP ab x++iv ab r
end
noncomputable def fR:List Str:=["Resources","MediaBox","CropBox","Rotate"]
noncomputable def E7 (hd:List (al×H)):Prop:=(∀k∈fR,∀v,bb (.str k) hd=some v->p4 v)/\(bb (.str "Type") hd).getD .none=gG "Page"
noncomputable def xC (hd:List (al×H)) (kids:List bO):Prop:=(∀k∈fR,bb (.str k) hd=none)/\(bb (.str "Type") hd).getD .none=gG "Pages"/\bb (.str "Kids") hd=some (.am (kids.map fun x=>au x.num))
mutual
noncomputable def qF (tab:List (al×H)):bO->Prop
 |.leaf k hd=>bb (.int k) tab=some (.aF [.int 0,.V hd])/\E7 hd
 |.node k hd kids=>bb (.int k) tab=some (.aF [.int 0,.V hd])/\xC hd kids/\rt tab kids
noncomputable def rt (tab:List (al×H)):List bO->Prop
 |[]=>True
 |x::r=>qF tab x/\rt tab r
end
theorem zs {hd:List (al×H)} {kids:List bO} (h:xC hd kids):ep hd=[]:=by
 have M:=h.1
 unfold ep fJ
 (refine B (M "Resources" (by simp [fR])) ?_;refine B (M "MediaBox" (by simp [fR])) ?_;refine B (M "CropBox" (by simp [fR])) ?_;refine B (M "Rotate" (by simp [fR])) ?_;rfl)
section
variable{b:Bool} {C CQ:ct} {n:Nat} {J aW:Scope} {fs fs₁ fs₂ fs':X} {R:bk} {o:Option (bE×X)} {p:Pos} {m:Nat} {t u:Nat} {per:List H} {tab bJ:List (al×H)}
theorem IG {x:bO} {ab:List H} (aG:per[t]? =some (.V tab)) (h:qF tab x):∃hd pg,aH b (m+4) "met" [bB t u,au x.num,.aF ab,.V []] per=some (.ret (.U (bS x.num hd ab (ep hd) pg)),per)/\
  ((pg=true/\x=.leaf x.num hd)\/(pg=false/\∃kids,x=.node x.num hd kids)):=by
 cases x with
 |leaf k hd=>
  refine eg h ?_;clear h;intro M O Y
  exact⟨hd,true,rx (x:=false) aG M O Y,.inl ⟨rfl,rfl⟩⟩
 |node k hd kids=>
  obtain⟨M,⟨O,Y,aC⟩,bR⟩:=h
  exact⟨hd,false,rx (x:=true) aG M (fun k ag v e=>by replace e:=(O k ag)▸e;cases e) Y,.inr ⟨rfl,kids,rfl⟩⟩
noncomputable def Bc (t u:Nat) (found:List H) (seen:List (al×H)) (line:List H) (value above inh yq:H) (per:List H):X:=
 ⟨[("shelf",.U (bB t u)),("found",.aD (.am found)),("seen",.aD (.V seen)),("line",.aD (.am line)),("value",.U value),("above",.U above),("inherited",.U inh),("spot",.U yq)],per⟩
noncomputable def hZ (t u:Nat) (found:List H) (seen:List (al×H)) (line:List H) (value above inh yq kid:H) (per:List H):X:=
 ⟨[("shelf",.U (bB t u)),("found",.aD (.am found)),("seen",.aD (.V seen)),("line",.aD (.am line)),("value",.U value),("above",.U above),("inherited",.U inh),("spot",.U yq),("kid",.U kid)],per⟩
noncomputable def gI (ab:List H) (k:Int):H:=.aF [au k,.aF ab,.V []]
noncomputable def w3:Stmt:=ij (d5 (ij (d5 (cc (aI 29) 3)) 5)) 0
theorem Fx {found line ab:List H} {seen:List (al×H)} {value inh:H} {k j:Int} {hd:List (al×H)} (aq:line.length<1000) (bz:ab.length<1000):
  cR (aJ b C CQ (n+14) (bN (aI 29))) (d5 w3) (hZ t u found seen line value (.aF ab) inh (bS k hd ab [] false) (au j) per)=some (.next,hZ t u found seen (line++[gI (ab++[au k]) j]) value (.aF ab) inh (bS k hd ab [] false) (au j) per):=by
 refine aO (oz (f7 rfl rfl (ra (v:=gI (ab++[au k]) j) (l:=line) rfl (bM (kK (bM rfl rfl (bM (dC rfl rfl rfl rfl (uu (x:=ab) (y:=[au k]) (by unfold a4;simp;exact vH bz))) rfl (bM rfl rfl rfl))) (Nat.le_of_ble_eq_true rfl)) rfl rfl) rfl (by unfold a4;exact mP aq)))) ?_
 rfl
theorem wZ {found ab:List H} {seen:List (al×H)} {value inh:H} {k:Int} {hd:List (al×H)} (bz:ab.length<1000):∀{ks:List Int} {line:List H} {j:Int},line.length+ks.length<1000->
  ∃hk,f4 (aJ b C CQ (n+14) (bN (aI 29))) (bN (aI 29)) "kid" (d5 w3) (ks.map au) (hZ t u found seen line value (.aF ab) inh (bS k hd ab [] false) (au j) per)=some (.next,hZ t u found seen (line++ks.map (gI (ab++[au k]))) value (.aF ab) inh (bS k hd ab [] false) (au hk) per)
 |[],line,j,_=>⟨j,by rw [List.map_nil,List.map_nil,List.append_nil];rfl⟩
 |i::ks,line,j,h=>by
  refine bT (wZ (found:=found) (seen:=seen) (value:=value) (inh:=inh) (k:=k) (hd:=hd) bz (ks:=ks) (line:=line++[gI (ab++[au k]) i]) (j:=i) (by simp at h|-;exact Ix h)) ?_;intro hk e
  exact⟨hk,fL rfl (Fx (by simp at h;exact wR h) bz) (e.trans (by simp))⟩
end
end Mine
end
section
open PySem
namespace Mine
theorem gW {k j:al} {v:H}:∀{l:List (al×H)},bb j (cU k v l)=if j=k then some v else bb j l
 |[]=>by unfold cU bb;rfl
 |(y,w)::r=>by
  unfold cU
  by_cases e:k=y
  ·subst e
   refine B (if_pos rfl) ?_
   unfold bb
   by_cases ar:j=k<;>simp [ar]
  ·refine B (if_neg e) ?_
   unfold bb
   by_cases ar:j=y
   ·subst ar
    (refine B (if_pos rfl) ?_;refine B (if_pos rfl) ?_;refine B (if_neg (fun q=>e q.symm)) ?_;rfl)
   ·(refine B (if_neg ar) ?_;refine B (if_neg ar) ?_;refine B gW ?_;rfl)
section
variable{b:Bool} {C CQ:ct} {n:Nat} {J aW:Scope} {fs fs₁ fs₂ fs':X} {R:bk} {o:Option (bE×X)} {p:Pos} {m:Nat} {t u:Nat} {per:List H} {tab bJ:List (al×H)}
noncomputable abbrev m9 (b:Bool) (CQ:ct) (m n:Nat):bk:=aJ b (aH b (m+4)) CQ (n+18) (bN (aI 29))
noncomputable abbrev pp:List Stmt:=d5 (cc (aI 29) 3)
theorem Dc {x:H} {l:List H}:eK .Eq (.am (x::l)) (.am [])=some false:=rfl
theorem PX {found line ab:List H} {seen:List (al×H)} {va aa ia sa kid x0:H} {k:Int} {hd:List (al×H)} (aB:found.length<1000) (aq:line.length<1000) (hs:seen.length<1000)
  (aY:aH b (m+4) "met" [bB t u,au k,.aF ab,.V []] per=some (.ret (.U (bS k hd ab (ep hd) true)),per)) (aE:bb (.int k) seen=none):
  cR (m9 b CQ m n) pp (hZ t u (x0::found) seen (line++[gI ab k]) va aa ia sa kid per)=
   some (.next,hZ t u (x0::found++[bS k hd ab (ep hd) true]) (cU (.int k) (.bool true) seen) line (au k) (.aF ab) (.V []) (bS k hd ab (ep hd) true) kid per):=by
 refine aO (l3 (vs:=[au k,.aF ab,.V []]) rfl (f7 rfl rfl (zH rfl rfl (by unfold a4;simp;exact vH aq))) (Nat.le_of_ble_eq_true rfl) rfl) ?_
 refine aO (de (eV rfl (by decide+kernel) (by decide+kernel) (by decide+kernel) (by decide+kernel) rfl (by decide+kernel) rfl aY) rfl) ?_
 refine aO (co false (r2 (cO rfl rfl rfl rfl (qQ (kk:=.int k) rfl (by refine B aE ?_;rfl)) rfl) (om (cO rfl rfl rfl rfl Dc rfl))) rfl) ?_
 refine aO (gL (k:=.int k) (v:=.bool true) rfl rfl rfl (jx rfl rfl (by unfold a4;exact mP hs))) ?_
 refine aO (oz (f7 rfl rfl (ra (v:=bS k hd ab (ep hd) true) (l:=x0::found) rfl rfl rfl (by unfold a4;simp;exact vH aB)))) ?_
 exact aO (co false rfl rfl) rfl
theorem Iy {found line ab:List H} {seen:List (al×H)} {va aa ia sa kid x0:H} {k j:Int} {hd:List (al×H)} {ks:List Int} (aB:found.length<1000) (hs:seen.length<1000) (bz:ab.length<1000) (aq:line.length+ks.length<999)
  (aY:aH b (m+4) "met" [bB t u,au k,.aF ab,.V []] per=some (.ret (.U (bS k hd ab [] false)),per)) (ag:aH b (m+4) "kids_of" [bB t u,.V hd] per=some (.ret (.U (.am (ks.map au))),per)) (aE:bb (.int k) seen=none):
  ∃hk,cR (m9 b CQ m n) pp (hZ t u (x0::found) seen (line++[gI ab k]) va aa ia sa (au j) per)=
   some (.next,hZ t u (x0::found++[bS k hd ab [] false]) (cU (.int k) (.bool true) seen) (line++ks.reverse.map (gI (ab++[au k]))) (au k) (.aF ab) (.V []) (bS k hd ab [] false) (au hk) per):=by
 refine bT (wZ (b:=b) (C:=aH b (m+4)) (CQ:=CQ) (n:=n+2) (t:=t) (u:=u) (per:=per) (found:=x0::found++[bS k hd ab [] false]) (ab:=ab) (seen:=cU (.int k) (.bool true) seen) (value:=au k) (inh:=.V []) (k:=k) (hd:=hd) bz (ks:=ks.reverse) (line:=line) (j:=j) (by simp;exact XK aq)) ?_;intro hk e
 refine⟨hk,?_⟩
 refine aO (l3 (vs:=[au k,.aF ab,.V []]) rfl (f7 rfl rfl (zH rfl rfl (by unfold a4;simp;exact VI aq))) (Nat.le_of_ble_eq_true rfl) rfl) ?_
 refine aO (de (eV rfl (by decide+kernel) (by decide+kernel) (by decide+kernel) (by decide+kernel) rfl (by decide+kernel) rfl aY) rfl) ?_
 refine aO (co false (r2 (cO rfl rfl rfl rfl (qQ (kk:=.int k) rfl (by refine B aE ?_;rfl)) rfl) (om (cO rfl rfl rfl rfl Dc rfl))) rfl) ?_
 refine aO (gL (k:=.int k) (v:=.bool true) rfl rfl rfl (jx rfl rfl (by unfold a4;exact mP hs))) ?_
 refine aO (oz (f7 rfl rfl (ra (v:=bS k hd ab [] false) (l:=x0::found) rfl rfl rfl (by unfold a4;simp;exact vH aB)))) ?_
 refine aO (co true rfl (aO (gT (Fj rfl (dt (eV rfl (by decide+kernel) (by decide+kernel) (by decide+kernel) (by decide+kernel) rfl (by decide+kernel) rfl ag) rfl)) ?_) rfl)) rfl
 refine bt List.map_reverse ?_
 exact e
end
end Mine
end
section
open PySem
namespace Mine
noncomputable def hV (stk:List (List H×bO)):List H:=stk.reverse.map fun p=>gI p.1 p.2.num
noncomputable def fF (stk:List (List H×bO)):List Int:=stk.flatMap fun p=>p.2.c8
noncomputable def p7 (stk:List (List H×bO)):List H:=stk.flatMap fun p=>dP p.1 p.2
theorem AY:∀x:bO,1<=x.c8.length
 |.leaf k hd=>by unfold bO.c8;simp
 |.node k hd kids=>by unfold bO.c8;simp
theorem vx:∀x:bO,x.num∈x.c8
 |.leaf k hd=>by unfold bO.c8 bO.num;simp
 |.node k hd kids=>by unfold bO.c8 bO.num;simp
theorem wC:∀l:List bO,bO.kb l=l.flatMap bO.c8
 |[]=>by simp [bO.kb]
 |x::r=>by(rw [bO.kb];refine B (wC r) ?_;refine B List.flatMap_cons ?_;rfl)
theorem xr {ab:List H}:∀l:List bO,iv ab l=l.flatMap (dP ab)
 |[]=>by simp [iv]
 |x::r=>by(rw [iv];refine B (xr r) ?_;refine B List.flatMap_cons ?_;rfl)
theorem yz {tab:List (al×H)}:∀{l:List bO},rt tab l->∀x∈l,qF tab x
 |x::r,h,y,aQ=>by
  unfold rt at h
  rcases List.mem_cons.mp aQ with rfl|aQ
  ·exact h.1
  ·exact yz h.2 y aQ
theorem wB {y:bO}:∀{l:List bO},y∈l->y.c8.length<=(l.flatMap bO.c8).length
 |x::r,h=>by
  (refine B List.flatMap_cons ?_;refine B List.length_append ?_)
  rcases List.mem_cons.mp h with rfl|h
  ·exact Cr
  ·have:=wB h;exact M1 this
theorem zW {stk:List (List H×bO)}:stk.length<=(fF stk).length:=by
 induction stk with
 |nil=>exact Nat.zero_le _
 |cons p r ih=>
  unfold fF at*
  (refine B List.flatMap_cons ?_;refine B List.length_append ?_;refine B List.length_cons ?_)
  have:=AY p.2
  exact Tt ih this
section
variable{b:Bool} {C CQ:ct} {n:Nat} {J aW:Scope} {fs fs₁ fs₂ fs':X} {R:bk} {o:Option (bE×X)} {p:Pos} {m:Nat} {t u:Nat} {per:List H} {tab bJ:List (al×H)}
structure vF (tab:List (al×H)) (seen:List (al×H)) (stk:List (List H×bO)):Prop where
 ao:∀p∈stk,qF tab p.2
 ex:(fF stk).Nodup
 fresh:∀j∈fF stk,bb (.int j) seen=none
 high:∀p∈stk,p.1.length+p.2.c8.length<900
theorem Jj (aG:per[t]? =some (.V tab)):∀(N:Nat) {stk:List (List H×bO)} {found:List H} {seen:List (al×H)} {va aa ia sa x0:H} {j:Int} {fuel:Nat},(fF stk).length=N->vF tab seen stk->found.length+N<900->seen.length+N<900->N<fuel->
  ∃qs pz qJ p0 pE hk,gN (m9 b CQ m n) (lq (cc (aI 29) 3)) pp fuel (hZ t u (x0::found) seen (hV stk) va aa ia sa (au j) per)=some (.next,hZ t u (x0::found++p7 stk) qs [] pz qJ p0 pE (au hk) per):=by
 intro N
 induction N using Nat.strongRecOn with
 |_ N ih=>
  intro stk found seen va aa ia sa x0 j fuel dm ok aB hs wb
  obtain⟨fuel,rfl⟩:∃f,fuel=f+1:=⟨fuel-1,by exact BN wb⟩
  cases stk with
  |nil=>
   refine⟨seen,va,aa,ia,sa,j,?_⟩
   exact(w_end (fs₁:=hZ t u (x0::found) seen [] va aa ia sa (au j) per) (ub rfl rfl rfl (Nat.zero_le _) rfl)).trans (by simp [p7])
  |cons q stk=>
   obtain⟨ab,x⟩:=q
   have hi:hV ((ab,x)::stk)=hV stk++[gI ab x.num]:=by unfold hV;(refine B List.reverse_cons ?_;refine B List.map_append ?_);rfl
   have ke:(fF ((ab,x)::stk)).length=x.c8.length+(fF stk).length:=by unfold fF;(refine B List.flatMap_cons ?_;refine B List.length_append ?_;rfl)
   have pN:=zW (stk:=stk)
   have i9:(hV stk).length=stk.length:=by unfold hV;simp
   have wK:=ok.ao _ List.mem_cons_self
   have xP:=ok.high _ List.mem_cons_self
   dsimp only at wK xP
   have zS:∀j∈x.c8,bb (.int j) seen=none:=fun j bF=>ok.fresh j (by unfold fF;refine B List.flatMap_cons ?_;exact List.mem_append_left _ bF)
   have it:x.c8.Nodup/\(fF stk).Nodup/\∀a∈x.c8,∀b∈fF stk,a≠b:=by
    have:=ok.ex
    unfold fF at this
    replace this:=List.flatMap_cons▸this
    exact List.nodup_append.mp this
   have n9:(m9 b CQ m n).dD (lq (cc (aI 29) 3)) (hZ t u (x0::found) seen (hV ((ab,x)::stk)) va aa ia sa (au j) per)=some (true,hZ t u (x0::found) seen (hV ((ab,x)::stk)) va aa ia sa (au j) per):=
    ub rfl rfl rfl (by refine B hi ?_;unfold a4;simp;exact Oh hs dm ke pN i9) (by refine B hi ?_;simp)
   have Es:(cU (.int x.num) (.bool true) seen).length<=seen.length+1:=qu
   have me:=AY x
   refine hq (IG (b:=b) (m:=m) (u:=u) (ab:=ab) aG wK) ?_;intro hd pg aY ae
   rcases ae with⟨rfl,ae⟩|⟨rfl,kids,ae⟩
   ·have ak:=PX (b:=b) (CQ:=CQ) (n:=n) (m:=m) (t:=t) (u:=u) (per:=per) (found:=found) (line:=hV stk) (ab:=ab) (seen:=seen) (va:=va) (aa:=aa) (ia:=ia) (sa:=sa) (kid:=au j) (x0:=x0) (k:=x.num) (hd:=hd) (by exact qK aB) (by exact R8 hs dm ke pN i9) (by exact qK hs) aY (zS _ (vx x))
    have xM:vF tab (cU (.int x.num) (.bool true) seen) stk:=⟨fun p an=>ok.ao p (List.mem_cons_of_mem _ an),it.2.1,fun j bF=>by
     (refine B gW ?_;refine B (if_neg (fun e=>it.2.2 _ (vx x) j bF (by injection e with e;exact e.symm))) ?_)
     exact ok.fresh j (by unfold fF;refine B List.flatMap_cons ?_;exact List.mem_append_right _ bF),fun p an=>ok.high p (List.mem_cons_of_mem _ an)⟩
    refine vE (ih (fF stk).length (by exact Jb dm ke me) (stk:=stk) (found:=found++[bS x.num hd ab (ep hd) true]) (seen:=cU (.int x.num) (.bool true) seen) (va:=au x.num) (aa:=.aF ab) (ia:=.V []) (sa:=bS x.num hd ab (ep hd) true) (x0:=x0) (j:=j) (fuel:=fuel) rfl xM (by simp;exact LK aB dm ke me) (by exact PR hs dm ke Es me) (by exact HA wb dm ke me)) ?_;intro qs pz qJ p0 pE hk ar
    refine⟨qs,pz,qJ,p0,pE,hk,?_⟩
    rw [hi] at n9|-
    refine oq n9 ak (ar.trans ?_)
    unfold p7
    refine B List.flatMap_cons ?_
    dsimp only [kz,kL,kB,kA,kF,kJ,kR,kM]
    refine B ae ?_
    simp [dP,bO.num]
   ·have s4:=wK
    replace s4:=ae▸s4
    refine eg s4 ?_;clear s4;intro bH b8 c9
    have aR:=zs b8
    replace aY:=aR▸aY
    have wt:kids.map (fun y=>au y.num)=(kids.map bO.num).map au:=by refine B List.map_map ?_;rfl
    have ag:aH b (m+4) "kids_of" [bB t u,.V hd] per=some (.ret (.U (.am ((kids.map bO.num).map au))),per):=by
     have:=qA (b:=b) (m:=m+1) (u:=u) (hd:=hd) (v:=.am (kids.map fun y=>au y.num)) (l:=kids.map fun y=>au y.num) aG (by refine B b8.2.2 ?_;rfl) (.hI rfl)
     replace this:=wt▸this
     exact this
    have mJ:x.c8=x.num::kids.flatMap bO.c8:=by refine B ae ?_;show bO.c8 (.node _ _ _)=_;unfold bO.c8;refine B (wC _) ?_;rfl
    have k6:kids.length<=(kids.flatMap bO.c8).length:=by
     have:=zW (stk:=kids.map fun y=>(ab,y))
     unfold fF at this
     rw [List.flatMap_map] at this
     simpa using this
    have p2:x.c8.length=(kids.flatMap bO.c8).length+1:=by refine B mJ ?_;rfl
    refine bT (Iy (b:=b) (CQ:=CQ) (n:=n) (m:=m) (t:=t) (u:=u) (per:=per) (found:=found) (line:=hV stk) (ab:=ab) (seen:=seen) (va:=va) (aa:=aa) (ia:=ia) (sa:=sa) (kid:=.none) (x0:=x0) (k:=x.num) (j:=j) (hd:=hd) (ks:=kids.map bO.num) (by exact qK aB) (by exact qK hs) (by exact qK xP) (by simp;exact J2 hs dm ke pN i9 k6 p2) aY ag (zS _ (vx x))) ?_;intro Gg ak
    have iw:fF (kids.map (fun y=>(ab++[au x.num],y))++stk)=kids.flatMap bO.c8++fF stk:=by
     unfold fF;(refine B List.flatMap_append ?_;refine B (List.flatMap_map _ _ _) ?_;rfl)
    have DR:x.num∉kids.flatMap bO.c8/\(kids.flatMap bO.c8).Nodup:=by
     have:=it.1;replace this:=mJ▸this;exact List.nodup_cons.mp this
    have xM:vF tab (cU (.int x.num) (.bool true) seen) (kids.map (fun y=>(ab++[au x.num],y))++stk):=by
     refine⟨fun p an=> ?_,?_,fun j bF=> ?_,fun p an=> ?_⟩
     ·rcases List.mem_append.mp an with an|an
      ·refine ba (List.mem_map.mp an) ?_;intro y aQ u;subst u
       exact yz c9 y aQ
      ·exact ok.ao p (List.mem_cons_of_mem _ an)
     ·refine B iw ?_
      exact List.nodup_append.mpr ⟨DR.2,it.2.1,fun a bz c hc=>it.2.2 a (by refine B mJ ?_;exact List.mem_cons_of_mem _ bz) c hc⟩
     ·replace bF:=iw▸bF
      have b1:¬al.int j=al.int x.num:=fun e=>by
       injection e with e
       subst e
       rcases List.mem_append.mp bF with h|h
       ·exact DR.1 h
       ·exact it.2.2 _ (vx x) _ h rfl
      (refine B gW ?_;refine B (if_neg b1) ?_)
      rcases List.mem_append.mp bF with h|h
      ·exact zS j (by refine B mJ ?_;exact List.mem_cons_of_mem _ h)
      ·exact ok.fresh j (by unfold fF;refine B List.flatMap_cons ?_;exact List.mem_append_right _ h)
     ·rcases List.mem_append.mp an with an|an
      ·refine ba (List.mem_map.mp an) ?_;intro y aQ u;subst u
       have:y.c8.length<=(kids.flatMap bO.c8).length:=by
        exact wB aQ
       simp only [List.length_append,List.length_cons,List.length_nil]
       exact V5 xP p2 this
      ·exact ok.high p (List.mem_cons_of_mem _ an)
    obtain⟨qs,pz,qJ,p0,pE,hk,ar⟩:=ih (fF (kids.map (fun y=>(ab++[au x.num],y))++stk)).length (by(refine B iw ?_;refine B List.length_append ?_);exact RE dm ke p2) (stk:=kids.map (fun y=>(ab++[au x.num],y))++stk) (found:=found++[bS x.num hd ab [] false]) (seen:=cU (.int x.num) (.bool true) seen) (va:=au x.num) (aa:=.aF ab) (ia:=.V []) (sa:=bS x.num hd ab [] false) (x0:=x0) (j:=Gg) (fuel:=fuel) rfl xM
     (by refine B iw ?_;simp only [List.length_append,List.length_cons,List.length_nil];exact PO aB dm ke p2) (by(refine B iw ?_;refine B List.length_append ?_);exact H7 hs dm ke Es p2) (by(refine B iw ?_;refine B List.length_append ?_);exact Tf wb dm ke p2)
    refine⟨qs,pz,qJ,p0,pE,hk,?_⟩
    have h7:hV (kids.map (fun y=>(ab++[au x.num],y))++stk)=hV stk++(kids.map bO.num).reverse.map (gI (ab++[au x.num])):=by
     unfold hV
     (refine B List.reverse_append ?_;refine B List.map_append ?_;refine bt List.map_reverse ?_;refine B List.map_map ?_;refine bt List.map_reverse ?_;refine B List.map_map ?_);rfl
    replace ar:=h7▸ar
    rw [hi] at n9|-
    refine oq n9 ak (ar.trans ?_)
    unfold p7
    (refine B List.flatMap_cons ?_;refine B List.flatMap_append ?_;refine B (List.flatMap_map _ _ _) ?_)
    dsimp only [kz,kL,kB,kA,kF,kJ,kR,kM]
    have:dP ab x=bS x.num hd ab [] false::kids.flatMap (dP (ab++[au x.num])):=by
     refine B ae ?_
     show dP ab (.node _ _ _)=_
     unfold dP
     (refine B aR ?_;refine B (xr _) ?_);rfl
    refine B this ?_
    simp
end
end Mine
end
section
open PySem
namespace Mine
section
variable{b:Bool} {C CQ:ct} {n:Nat} {J aW:Scope} {fs fs₁ fs₂ fs':X} {R:bk} {o:Option (bE×X)} {p:Pos} {m:Nat} {t u:Nat} {per:List H} {tab bJ:List (al×H)}
noncomputable def qT (t u:Nat) (line:List H) (per:List H):X:=⟨[("shelf",.U (bB t u)),("found",.aD (.am [])),("seen",.aD (.V [])),("line",.aD (.am line))],per⟩
theorem Nm {k:Int} {hd:List (al×H)} {ks:List Int} (aq:ks.length<900) (aY:aH b (m+4) "met" [bB t u,au k,.aF [],.V []] per=some (.ret (.U (bS k hd [] [] false)),per))
  (ag:aH b (m+4) "kids_of" [bB t u,.V hd] per=some (.ret (.U (.am (ks.map au))),per)):
  ∃fs,cR (m9 b CQ m n) pp (qT t u [gI [] k] per)=some (.next,fs)/\
   ((ks=[]/\fs=Bc t u [bS k hd [] [] false] [(.int k,.bool true)] [] (au k) (.aF []) (.V []) (bS k hd [] [] false) per)\/
    ∃j,fs=hZ t u [bS k hd [] [] false] [(.int k,.bool true)] (ks.reverse.map (gI [au k])) (au k) (.aF []) (.V []) (bS k hd [] [] false) (au j) per):=by
 have key:∀fs,f4 (aJ b (aH b (m+4)) CQ (n+16) (bN (aI 29))) (bN (aI 29)) "kid" (d5 w3) (ks.map au).reverse (Bc t u [bS k hd [] [] false] [(.int k,.bool true)] [] (au k) (.aF []) (.V []) (bS k hd [] [] false) per)=some (.next,fs)->
   cR (m9 b CQ m n) pp (qT t u [gI [] k] per)=some (.next,fs):=fun fs e=>by
  refine aO (l3 (vs:=[au k,.aF [],.V []]) rfl (f7 rfl rfl (zH (l:=[]) rfl rfl (Nat.le_of_ble_eq_true rfl))) (Nat.le_of_ble_eq_true rfl) rfl) ?_
  refine aO (de (eV rfl (by decide+kernel) (by decide+kernel) (by decide+kernel) (by decide+kernel) rfl (by decide+kernel) rfl aY) rfl) ?_
  refine aO (co false (r2 (cO rfl rfl rfl rfl (qQ (kk:=.int k) rfl rfl) rfl) (kU (cO rfl rfl rfl rfl rfl rfl) rfl)) rfl) ?_
  refine aO (gL (k:=.int k) (v:=.bool true) rfl rfl rfl (jx rfl rfl (Nat.le_of_ble_eq_true rfl))) ?_
  refine aO (oz (f7 rfl rfl (ra (v:=bS k hd [] [] false) (l:=[]) rfl rfl rfl (Nat.le_of_ble_eq_true rfl)))) ?_
  exact aO (co true rfl (aO (gT (Fj rfl (dt (eV rfl (by decide+kernel) (by decide+kernel) (by decide+kernel) (by decide+kernel) rfl (by decide+kernel) rfl ag) rfl)) e) rfl)) rfl
 replace key:=(Eq.symm List.map_reverse)▸key
 cases jf:ks.reverse with
 |nil=>
  have:ks=[]:=by simpa using jf
  refine⟨_,key _ (by refine B jf ?_;rfl),.inl ⟨this,rfl⟩⟩
 |cons i r=>
  have aP:r.length<900:=by have:=congrArg List.length jf;simp at this;exact JE aq this
  refine bT (wZ (b:=b) (C:=aH b (m+4)) (CQ:=CQ) (n:=n+2) (t:=t) (u:=u) (per:=per) (found:=[bS k hd [] [] false]) (ab:=[]) (seen:=[(.int k,.bool true)]) (value:=au k) (inh:=.V []) (k:=k) (hd:=hd) (by simp) (ks:=r) (line:=[gI [au k] i]) (j:=i) (by simp;exact QD aP)) ?_;intro hk e
  refine⟨_,key _ ?_,.inr ⟨hk,rfl⟩⟩
  refine B jf ?_
  exact fL (fs₁:=hZ t u [bS k hd [] [] false] [(.int k,.bool true)] [] (au k) (.aF []) (.V []) (bS k hd [] [] false) (au i) per) rfl (Fx (line:=[]) (by simp) (by simp)) e
structure kT (tab bJ:List (al×H)) (x:bO):Prop where
 jw:∃a6 pf,(bb (.str "Root") bJ).getD .none=au a6/\bb (.int a6) tab=some (.aF [.int 0,.V pf])/\bb (.str "Pages") pf=some (au x.num)
 node:∃k hd kids,x=.node k hd kids
 ao:qF tab x
 ex:x.c8.Nodup
 fx:x.c8.length<400
theorem tS {x:bO} (aG:per[t]? =some (.V tab)) (b2:per[u]? =some (.V bJ)) (ae:kT tab bJ x):aH b (m+5) "spots" [bB t u] per=some (.ret (.b5 (.am (dP [] x))),per):=by
 refine dN ae.jw ?_;intro a6 pf ez ey hW
 refine p5 ae.node ?_;intro k hd kids u;subst u
 refine eg ae.ao ?_;intro bH b8 c9
 have aR:=zs b8
 have aY:=rx (b:=b) (m:=m) (u:=u) (ab:=[]) (x:=true) aG bH (fun k ag v e=>by replace e:=(b8.1 k ag)▸e;cases e) b8.2.1
 replace aY:=aR▸aY
 have wt:kids.map (fun y=>au y.num)=(kids.map bO.num).map au:=by refine B List.map_map ?_;rfl
 have ag:aH b (m+4) "kids_of" [bB t u,.V hd] per=some (.ret (.U (.am ((kids.map bO.num).map au))),per):=by
  have:=qA (b:=b) (m:=m+1) (u:=u) (hd:=hd) (v:=.am (kids.map fun y=>au y.num)) (l:=kids.map fun y=>au y.num) aG (by refine B b8.2.2 ?_;rfl) (.hI rfl)
  replace this:=wt▸this
  exact this
 have mJ:bO.c8 (.node k hd kids)=k::kids.flatMap bO.c8:=by unfold bO.c8;(refine B (wC _) ?_;rfl)
 have fi:=ae.fx
 have fC:=ae.ex
 rw [mJ] at fi fC
 simp only [List.length_cons] at fi
 have k6:kids.length<=(kids.flatMap bO.c8).length:=by
  have:=zW (stk:=kids.map fun y=>(([]:List H),y))
  unfold fF at this
  rw [List.flatMap_map] at this
  simpa using this
 refine ba (Nm (b:=b) (CQ:=aH false (m+4)) (n:=21) (m:=m) (t:=t) (u:=u) (per:=per) (k:=k) (hd:=hd) (ks:=kids.map bO.num) (by simp;exact UZ fi k6) aY ag) ?_;intro fs ak ar
 have Ec:dP [] (.node k hd kids)=bS k hd [] [] false::kids.flatMap (dP [au k]):=by unfold dP;(refine B aR ?_;refine B (xr _) ?_);rfl
 refine c7 Tn ?_
 have cJ:∀fs',gN (m9 b (aH false (m+4)) m 21) (lq (cc (aI 29) 3)) pp lx (qT t u [gI [] k] per)=some (.next,fs')->getL "found" fs'.loc=some (.aD (.am (dP [] (.node k hd kids))))->fs'.per=per->
   jj b (aH b (m+4)) (aH false (m+4)) (aI 29) [bB t u] per=some (.ret (.b5 (.am (dP [] (.node k hd kids)))),per):=fun fs' yl mF rW=>by
  apply dq rfl
  ·refine aO (fz rfl rfl) ?_
   refine aO (fz rfl rfl) ?_
   refine aO (fz (yS (bM (kK (bM (f7 rfl (d0 rfl rfl rfl rfl rfl (wa (m:=m+1) aG b2 ez (.rP ey rfl))) (mR (kk:=.str "Pages") (l:=pf) (x:=au k) rfl rfl rfl rfl (by refine B hW ?_;rfl))) rfl (bM rfl rfl (bM rfl rfl rfl))) (Nat.le_of_ble_eq_true rfl)) rfl rfl) (Nat.le_of_ble_eq_true rfl)) rfl) ?_
   refine aO (qR yl) ?_
   exact cw (sj rfl (by decide+kernel) mF)
  ·exact rW
 have n9:(m9 b (aH false (m+4)) m 21).dD (lq (cc (aI 29) 3)) (qT t u [gI [] k] per)=some (true,qT t u [gI [] k] per):=ub rfl rfl rfl (Nat.le_of_ble_eq_true rfl) rfl
 rcases ar with⟨aL,rfl⟩|⟨j,rfl⟩
 ·have aL:kids=[]:=by simpa using aL
  subst aL
  refine cJ _ (oq (m:=999999) n9 ak (w_end (m:=999998) (ub rfl rfl rfl (Nat.zero_le _) rfl))) ?_ rfl
  refine B Ec ?_;rfl
 ·have h7:hV (kids.map fun y=>([au k],y))=(kids.map bO.num).reverse.map (gI [au k]):=by
   unfold hV
   (refine bt List.map_reverse ?_;refine B List.map_map ?_;refine bt List.map_reverse ?_;refine B List.map_map ?_);rfl
  have iw:fF (kids.map fun y=>([au k],y))=kids.flatMap bO.c8:=by unfold fF;(refine B (List.flatMap_map _ _ _) ?_;rfl)
  refine cm (List.nodup_cons.mp fC) ?_;intro kr k7
  have ok:vF tab [(.int k,.bool true)] (kids.map fun y=>([au k],y)):=by
   refine⟨fun p an=> ?_,by refine B iw ?_;exact k7,fun j bF=> ?_,fun p an=> ?_⟩
   ·refine ba (List.mem_map.mp an) ?_;intro y aQ u;subst u
    exact yz c9 y aQ
   ·replace bF:=iw▸bF
    unfold bb
    refine B (if_neg (fun e=>by injection e with e;subst e;exact kr bF)) ?_;rfl
   ·refine ba (List.mem_map.mp an) ?_;intro y aQ u;subst u
    have:=wB aQ
    simp only [List.length_cons,List.length_nil]
    exact IR fi this
  refine vE (Jj (b:=b) (CQ:=aH false (m+4)) (n:=21) (m:=m) (t:=t) (u:=u) (per:=per) aG _ (found:=[]) (va:=au k) (aa:=.aF []) (ia:=.V []) (sa:=bS k hd [] [] false) (x0:=bS k hd [] [] false) (j:=j) (fuel:=999999) rfl ok (by refine B iw ?_;simp only [List.length_nil];exact Lq fi) (by refine B iw ?_;simp only [List.length_cons,List.length_nil];exact PV fi) (by refine B iw ?_;exact No fi)) ?_;intro qs pz qJ p0 pE hk bP
  replace bP:=h7▸bP
  refine cJ _ (oq (m:=999999) n9 ak bP) ?_ rfl
  refine B Ec ?_
  show some (cg.aD (.am (bS k hd [] [] false::[]++p7 _)))=_
  unfold p7
  refine B (List.flatMap_map _ _ _) ?_;rfl
end
end Mine
end
section
open PySem
namespace Mine
theorem JO:ds "turned"=some (aI 24):=by kernel_rfl
theorem UD:ds "lay"=some (aI 41):=by kernel_rfl
theorem LZ:ds "is_count"=some (aI 34):=by kernel_rfl
theorem Lc:ds "page_spots"=some (aI 31):=by kernel_rfl
section
variable{b:Bool} {C CQ:ct} {n:Nat} {J aW:Scope} {fs fs₁ fs₂ fs':X} {R:bk} {o:Option (bE×X)} {p:Pos} {m:Nat} {t u:Nat} {per:List H} {tab bJ:List (al×H)}
theorem h8 {elt iter:Expr} {x:Str} {px:Pos} {ifs:List Expr} {items cl:List H} (h:hy (aJ b C CQ n J) J iter fs=some (items,fs₁)) (M:items.length<=a4) (O:(aW.names.lookup x==some .local&&oK J aW)=true) (Y:gd (aJ b C CQ n aW) x ifs elt items {fs₁ with loc:=ls aW fs₁.loc}=some (cl,fs₂)):
  (aJ b C CQ (n+1) J).a9 (.ListComp elt [⟨.Name x px,iter,ifs,0⟩] aW p) fs=some (.b5 (.am cl),{fs₁ with per:=fs₂.per}):=bq rfl (bd h (cT (Bool.and_eq_true_iff.mpr ⟨decide_eq_true M,O⟩) (bd Y rfl)))
theorem set_set {x:Str} {v w:cg}:∀{l:List (Str×cg)},bX x v (bX x w l)=bX x v l
 |[]=>by simp [bX]
 |(y,z)::r=>by
  by_cases e:x=y
  ·subst e;simp [bX]
  ·have M:bX x w ((y,z)::r)=(y,z)::bX x w r:=by show(if x=y then _ else _)=_;(refine B (if_neg e) ?_;rfl)
   have O:∀q,bX x v ((y,z)::q)=(y,z)::bX x v q:=fun q=>by show(if x=y then _ else _)=_;(refine B (if_neg e) ?_;rfl)
   (refine B M ?_;refine B (O _) ?_;refine B (O _) ?_;refine B set_set ?_;rfl)
theorem rk {x:Str} {L:List (Str×cg)} {fs:X} (v:H) (aB:fs=⟨L,per⟩\/∃w,fs=⟨bX x w L,per⟩):({fs with loc:=bX x (.U v) fs.loc}:X)=⟨bX x (.U v) L,per⟩:=by
 rcases aB with rfl|⟨w,rfl⟩
 ·rfl
 ·exact congrArg (X.mk · per) set_set
theorem sU {x:Str} {L:List (Str×cg)} {fs:X} {α:Type} {a:α} (aB:fs=⟨L,per⟩\/∃w,fs=⟨bX x w L,per⟩):∃l,some (a,fs)=some (a,(⟨l,per⟩:X)):=by
 rcases aB with rfl|⟨w,rfl⟩<;>exact⟨_,rfl⟩
theorem u2 {elt:Expr} {x:Str} {L:List (Str×cg)} {f:H->H} {items:List H}:∀{fs:X},(∀v∈items,d2 R elt ⟨bX x (.U v) L,per⟩=some (f v,⟨bX x (.U v) L,per⟩))->(fs=⟨L,per⟩\/∃w,fs=⟨bX x w L,per⟩)->∃l,gd R x [] elt items fs=some (items.map f,⟨l,per⟩):=by
 induction items with
 |nil=>exact fun _ aB=>sU aB
 |cons v r ih=>exact fun h aB=>(ih (fun y aQ=>h y (List.mem_cons_of_mem _ aQ)) (.inr ⟨.U v,rfl⟩)).elim fun l e=>⟨l,bd rfl (bd ((congrArg (d2 R elt) (rk v aB)).trans (h v List.mem_cons_self)) (bd e rfl))⟩
theorem wE {elt:Expr} {x:Str} {v y:H} {t cl:List H} (M:d2 R elt {fs with loc:=bX x (.U v) fs.loc}=some (y,fs₁)) (O:gd R x [] elt t fs₁=some (cl,fs₂)):gd R x [] elt (v::t) fs=some (y::cl,fs₂):=bd rfl (bd M (bd O rfl))
theorem v2 {elt c:Expr} {x:Str} {L:List (Str×cg)} {f:H->H} {q:H->Bool} {items:List H}:∀{fs:X},(∀v∈items,R.dD c ⟨bX x (.U v) L,per⟩=some (q v,⟨bX x (.U v) L,per⟩))->(∀v∈items,q v=true->d2 R elt ⟨bX x (.U v) L,per⟩=some (f v,⟨bX x (.U v) L,per⟩))->
  (fs=⟨L,per⟩\/∃w,fs=⟨bX x w L,per⟩)->∃l,gd R x [c] elt items fs=some ((items.filter q).map f,⟨l,per⟩):=by
 induction items with
 |nil=>exact fun _ _ aB=>sU aB
 |cons v r ih=>
  intro fs aA h aB
  refine(ih (fun y aQ=>aA y (List.mem_cons_of_mem _ aQ)) (fun y aQ=>h y (List.mem_cons_of_mem _ aQ)) (.inr ⟨.U v,rfl⟩)).elim fun l e=>⟨l,bd ((congrArg (R.dD c) (rk v aB)).trans (aA v List.mem_cons_self)) ?_⟩
  cases ay:q v with
  |true=>exact bd (h v List.mem_cons_self ay) (bd e (by refine B (List.filter_cons_of_pos ay) ?_;rfl))
  |false=>exact e.trans (by(refine B (List.filter_cons_of_neg (by rw [ay];decide)) ?_;rfl))
theorem ES {k:Int} {v:H} (aG:per[t]? =some (.V tab)) (aq:tab.length<=a4):aH b (m+2) "lay" [bB t u,au k,v] per=some (.ret (.U .none),per.set t (.V (cU (.int k) (.aF [.int 0,v]) tab))):=by
 refine c7 UD ?_
 apply ti rfl
 ·exact aO (oz (d0 rfl rfl rfl rfl rfl (Hi aG aq))) rfl
 ·rfl
theorem GF {e:Expr} {z:Bool} (h:R.a9 e fs=some (.U (.bool z),fs₁)):oR R [e] fs=some (z,fs₁):=bd h (bq rfl (bq rfl (eh (by simp) rfl)))
theorem wm {e ci:Expr} {l:List Expr} {o:Option (Bool×X)} (h:R.a9 e fs=some (.U (.bool true),fs₁)) (O:oR R (ci::l) fs₁=o):oR R (e::ci::l) fs=o:=bd h (bq rfl (bq rfl O))
theorem z0 {i:Int}:aH b (m+1) "is_count" [.int i] per=some (.ret (.U (.bool (decide (0<=i)))),per):=by
 refine c7 LZ ?_
 apply dq rfl
 ·exact cw (dE (bd (wm rfl (wm rfl (GF rfl))) rfl) rfl)
 ·rfl
noncomputable def kl (d:List (al×H)) (q:al×H):List (al×H):=if fP q.2 then hY q.1 d else cU q.1 q.2 d
noncomputable def hP (hd ch:List (al×H)):List (al×H):=ch.foldl kl hd
theorem Gi {k:al}:∀{l:List (al×H)},(hY k l).length<=l.length
 |[]=>Nat.le_refl _
 |(y,w)::r=>by
  unfold hY
  split
  ·simp
  ·have:=Gi (k:=k) (l:=r);simp only [List.length_cons];exact T4 this
theorem FV {d:List (al×H)} {q:al×H}:(kl d q).length<=d.length+1:=by
 unfold kl;split
 ·have:=Gi (k:=q.1) (l:=d);exact M5 this
 ·exact qu
noncomputable def mB (hd ch d:List (al×H)) (k:Str) (per:List H):X:=⟨[("head",.U (.V hd)),("changes",.U (.V ch)),("found",.aD (.V d)),("key",.U (.str k))],per⟩
theorem A6 {hd ch d:List (al×H)} {k:Str} {v:H} (bi:bb (.str k) ch=some v) (ay:iC v=true) (aq:d.length<=a4):
  cR (aJ b C CQ (n+14) (bN (aI 24))) (d5 (cc (aI 24) 1)) (mB hd ch d k per)=some (.next,mB hd ch (kl d (.str k,v)) k per):=by
 have j4:∀{N g2 hE iG},(aJ b C CQ (N+3) (bN (aI 24))).a9 (.Subscript (.Name "changes" g2) (.Name "key" hE) iG) (mB hd ch d k per)=some (.U v,mB hd ch d k per):=fun{N g2 hE iG}=>by
  exact f0 rfl rfl rfl rfl (bq rfl bi)
 cases aE:fP v with
 |true=>
  have e:kl d (.str k,v)=hY (.str k) d:=by unfold kl;(refine B (if_pos aE) ?_;rfl)
  refine B e ?_
  exact aO (co true (cO j4 rfl (t4 ay) rfl (x:=true) (by show some (fP v)=_;(refine B aE ?_;rfl)) rfl) (aO (oz (f7 rfl rfl (TC (kk:=.str k) (l:=d) rfl rfl rfl rfl aq))) rfl)) rfl
 |false=>
  have e:kl d (.str k,v)=cU (.str k) v d:=by unfold kl;(refine B (if_neg (by rw [aE];decide)) ?_;rfl)
  refine B e ?_
  exact aO (co false (cO j4 rfl (t4 ay) rfl (x:=false) (by show some (fP v)=_;(refine B aE ?_;rfl)) rfl) (aO (gL (v:=v) (k:=.str k) (r:=.var "found") (dt j4 rfl) rfl rfl (jx (l:=d) rfl rfl aq)) rfl)) rfl
end
end Mine
end
section
open PySem
namespace Mine
theorem NH:ds "fields_of"=some (aI 30):=by kernel_rfl
theorem Ko:ds "pages"=some (aI 32):=by kernel_rfl
section
variable{b:Bool} {C CQ:ct} {n:Nat} {J aW:Scope} {fs fs₁ fs₂ fs':X} {R:bk} {o:Option (bE×X)} {p:Pos} {m:Nat} {t u:Nat} {per:List H} {tab bJ:List (al×H)}
theorem yp {k:al} {v:H}:∀{l:List (al×H)},(l.map (·.1)).Nodup->(k,v)∈l->bb k l=some v
 |(y,w)::r,aE,h=>by
  refine cm (List.nodup_cons.mp aE) ?_;intro M O
  unfold bb
  rcases List.mem_cons.mp h with e|h
  ·cases e;(refine B (if_pos rfl) ?_;rfl)
  ·refine B (if_neg (fun e=>M (by rw [<-e];exact List.mem_map.mpr ⟨_,h,rfl⟩))) ?_
   exact yp O h
structure qU (ch:List (al×H)):Prop where
 str:∀q∈ch,∃k,q.1=.str k/\iC q.2=true
 ex:(ch.map (·.1)).Nodup
theorem BF {hd ch:List (al×H)} (hc:qU ch):∀{l d:List (al×H)} {k:Str},(∀q∈l,q∈ch)->d.length+l.length<1000->
  ∃cX,f4 (aJ b C CQ (n+14) (bN (aI 24))) (bN (aI 24)) "key" (d5 (cc (aI 24) 1)) (l.map fun p=>pt p.1) (mB hd ch d k per)=some (.next,mB hd ch (l.foldl kl d) cX per)
 |[],d,k,_,_=>⟨k,rfl⟩
 |(key,v)::l,d,k,aY,aq=>by
  refine ba (hc.str _ (aY _ List.mem_cons_self)) ?_;intro s hs ay
  dsimp only at hs ay
  subst hs
  have bC:=FV (d:=d) (q:=(.str s,v))
  simp only [List.length_cons] at aq
  refine bT (BF (hd:=hd) hc (l:=l) (d:=kl d (.str s,v)) (k:=s) (fun q aA=>aY q (List.mem_cons_of_mem _ aA)) (by exact GJ aq bC)) ?_;intro cX e
  exact⟨cX,fL (fs₁:=mB hd ch d s per) rfl (A6 (yp hc.ex (aY _ List.mem_cons_self)) ay (by unfold a4;exact Kn aq)) e⟩
theorem rY {hd ch:List (al×H)} (hc:qU ch) (aq:hd.length+ch.length<900):aH b (m+1) "turned" [.V hd,.V ch] per=some (.ret (.b5 (.V (hP hd ch))),per):=by
 refine c7 JO ?_
 have aL:gB "dict" (.V hd)=some (.b5 (.V hd)):=DH (by unfold a4;exact Jg aq)
 have start:∀fs',f4 (aJ b (aH b m) (aH false m) 39 (bN (aI 24))) (bN (aI 24)) "key" (d5 (cc (aI 24) 1)) (ch.map fun p=>pt p.1) ⟨[("head",.U (.V hd)),("changes",.U (.V ch)),("found",.aD (.V hd))],per⟩=some (.next,fs')->getL "found" fs'.loc=some (.aD (.V (hP hd ch)))->fs'.per=per->
   jj b (aH b m) (aH false m) (aI 24) [.V hd,.V ch] per=some (.ret (.b5 (.V (hP hd ch))),per):=fun fs' yl mF rW=>by
  apply dq rfl
  ·refine aO (fz (k9 rfl (by decide+kernel) (by decide+kernel) rfl rfl rfl aL) rfl) ?_
   refine aO (gT (U0 rfl (dt (r:=.U (.V ch)) rfl rfl)) yl) ?_
   exact cw (sj rfl (by decide+kernel) mF)
  ·exact rW
 cases ch with
 |nil=>exact start _ rfl rfl rfl
 |cons q r=>
  obtain⟨key,v⟩:=q
  refine ba (hc.str _ List.mem_cons_self) ?_;intro s hs ay
  dsimp only at hs ay
  subst hs
  have bC:=FV (d:=hd) (q:=(.str s,v))
  simp only [List.length_cons] at aq
  refine bT (BF (b:=b) (C:=aH b m) (CQ:=aH false m) (n:=25) (per:=per) (hd:=hd) hc (l:=r) (d:=kl hd (.str s,v)) (k:=s) (fun q aA=>List.mem_cons_of_mem _ aA) (by exact Pa aq bC)) ?_;intro cX e
  exact start _ (fL (fs₁:=mB hd ((.str s,v)::r) hd s per) rfl (A6 (n:=25) (yp hc.ex List.mem_cons_self) ay (by unfold a4;exact Cu aq)) e) rfl rfl
noncomputable def xj:H->Bool
 |.dV _ l=>match iu "is_page" l with|some (.bool x)=>x|_=>false
 |_=>false
noncomputable def el (x:bO):List H:=(dP [] x).filter xj
theorem qr:∀(x:bO) (ab:List H),∀v∈dP ab x,∃k hd ab' inh pg,v=bS k hd ab' inh pg:=by
 intro x
 induction x using bO.rec (motive_2:=fun l=>∀ab,∀v∈iv ab l,∃k hd ab' inh pg,v=bS k hd ab' inh pg) with
 |leaf k hd=>intro ab v ay;unfold dP at ay;exact⟨_,_,_,_,_,List.mem_singleton.mp ay⟩
 |node k hd kids ih=>
  intro ab v ay
  unfold dP at ay
  rcases List.mem_cons.mp ay with rfl|ay
  ·exact⟨_,_,_,_,_,rfl⟩
  ·exact ih _ v ay
 |nil=>rename_i ab v ay;unfold iv at ay;cases ay
 |cons x r y1 xh=>
  rename_i ab v ay
  unfold iv at ay
  rcases List.mem_append.mp ay with ay|ay
  ·exact y1 _ v ay
  ·exact xh _ v ay
theorem vC:∀(x:bO) (ab:List H),(dP ab x).length=x.c8.length:=by
 intro x
 induction x using bO.rec (motive_2:=fun l=>∀ab,(iv ab l).length=(bO.kb l).length) with
 |leaf k hd=>intro ab;unfold dP bO.c8;rfl
 |node k hd kids ih=>intro ab;unfold dP bO.c8;(refine B List.length_cons ?_;refine B List.length_cons ?_;refine B (ih _) ?_;rfl)
 |nil=>unfold iv bO.kb;rfl
 |cons x r y1 xh=>rename_i ab;unfold iv bO.kb;(refine B List.length_append ?_;refine B List.length_append ?_;refine B (y1 _) ?_;refine B (xh _) ?_;rfl)
theorem SE {x:bO} (aG:per[t]? =some (.V tab)) (b2:per[u]? =some (.V bJ)) (ae:kT tab bJ x):aH b (m+6) "page_spots" [bB t u] per=some (.ret (.b5 (.am (el x))),per):=by
 refine c7 Lc ?_
 obtain⟨l,e⟩:=v2 (R:=aJ b (aH b (m+5)) (aH false (m+5)) 38 (iH (en (cc (aI 31) 0) []))) (per:=per)
  (elt:=en (cc (aI 31) 0) [0]) (c:=en (cc (aI 31) 0) [2]) (x:="spot") (L:=[]) (f:=fun v=>v) (q:=xj) (items:=dP [] x) (fs:=⟨[],per⟩)
  (fun v ay=>by obtain⟨k,hd,ab',inh,pg,rfl⟩:=qr x [] v ay;cases pg<;>rfl) (fun v ay _=>by obtain⟨k,hd,ab',inh,pg,rfl⟩:=qr x [] v ay;rfl) (.inl rfl)
 replace e:=(List.map_id' _)▸e
 apply dq rfl
 ·exact cw (dE (h8 (g4 rfl (dt (eV rfl (by decide+kernel) (by decide+kernel) (by decide+kernel) (by decide+kernel) rfl (by decide+kernel) rfl (tS aG b2 ae)) rfl)) (by refine B (vC _ _) ?_;have:=ae.fx;unfold a4;exact xe this) rfl e) rfl)
 ·rfl
end
end Mine
end
section
open PySem
namespace Mine
section
variable{b:Bool} {C CQ:ct} {n:Nat} {J aW:Scope} {fs fs₁ fs₂ fs':X} {R:bk} {o:Option (bE×X)} {p:Pos} {m:Nat} {t u:Nat} {per:List H} {tab bJ:List (al×H)}
theorem u4 {hd g:List (al×H)} {k j:Str}:bb (.str j) (fJ hd g k)=if j=k then(match bb (.str k) hd with|some v=>some v|none=>bb (.str j) g) else bb (.str j) g:=by
 unfold fJ
 cases h:bb (.str k) hd with
 |none=>by_cases e:j=k<;>simp [e]
 |some v=>
  dsimp only [kz,kL,kB,kA,kF,kJ,kR,kM]
  refine B gW ?_
  by_cases e:j=k
  ·subst e;simp
  ·(refine B (if_neg (fun q=>e (by injection q))) ?_;refine B (if_neg e) ?_;rfl)
theorem yE {hd:List (al×H)} {k:Str} (ag:k∈fR):bb (.str k) (ep hd)=bb (.str k) hd:=by
 unfold ep
 simp only [fR,List.mem_cons,List.not_mem_nil,or_false] at ag
 rcases ag with rfl|rfl|rfl|rfl<;>
 ·(refine B u4 ?_;refine B u4 ?_;refine B u4 ?_;refine B u4 ?_)
  simp only [uB,String.reduceEq,if_true,if_false,bb]
  split<;>simp_all
noncomputable def Gz (t u:Nat) (sp:H) (d:List (al×H)) (k:Str) (per:List H):X:=⟨[("shelf",.U (bB t u)),("spot",.U sp),("found",.aD (.V d)),("key",.U (.str k))],per⟩
theorem s7 {k0:Int} {hd:List (al×H)} {ab:List H} {pg:Bool} {k:Str} (aG:per[t]? =some (.V tab)) (ag:k∈fR) (an:∀v,bb (.str k) hd=some v->p4 v):
  cR (aJ b (aH b (m+2)) CQ (n+16) (bN (aI 30))) (d5 (cc (aI 30) 1)) (Gz t u (bS k0 hd ab (ep hd) pg) hd k per)=some (.next,Gz t u (bS k0 hd ab (ep hd) pg) hd k per):=by
 cases bi:bb (.str k) hd with
 |none=>exact aO (co false (om (cO rfl rfl rfl rfl (qQ (kk:=.str k) rfl (by(refine B (yE ag) ?_;refine B bi ?_);rfl)) rfl)) rfl) rfl
 |some v=>
  refine cm (an v bi) ?_;intro M O
  exact aO (co false (kU (cO rfl rfl rfl rfl (qQ (kk:=.str k) rfl (by(refine B (yE ag) ?_;refine B bi ?_);rfl)) rfl) (cO (d0 rfl rfl rfl rfl rfl (la aG (v:=v) (by refine B bi ?_;rfl) (.hI M))) rfl (qb M) rfl (x:=false) (by show some (fP v)=_;(refine B O ?_;rfl)) rfl)) rfl) rfl
theorem Eb {k0:Int} {hd:List (al×H)} {ab:List H} {pg:Bool} (aG:per[t]? =some (.V tab)) (an:∀k∈fR,∀v,bb (.str k) hd=some v->p4 v) (aq:hd.length<=a4):
  aH b (m+3) "fields_of" [bB t u,bS k0 hd ab (ep hd) pg] per=some (.ret (.b5 (.V hd)),per):=by
 have d3:=s7 (b:=b) (CQ:=aH false (m+2)) (n:=23) (m:=m) (u:=u) (k0:=k0) (ab:=ab) (pg:=pg) (k:="Resources") aG (by simp [fR]) (an _ (by simp [fR]))
 have dS:=s7 (b:=b) (CQ:=aH false (m+2)) (n:=23) (m:=m) (u:=u) (k0:=k0) (ab:=ab) (pg:=pg) (k:="MediaBox") aG (by simp [fR]) (an _ (by simp [fR]))
 have fH:=s7 (b:=b) (CQ:=aH false (m+2)) (n:=23) (m:=m) (u:=u) (k0:=k0) (ab:=ab) (pg:=pg) (k:="CropBox") aG (by simp [fR]) (an _ (by simp [fR]))
 have iX:=s7 (b:=b) (CQ:=aH false (m+2)) (n:=23) (m:=m) (u:=u) (k0:=k0) (ab:=ab) (pg:=pg) (k:="Rotate") aG (by simp [fR]) (an _ (by simp [fR]))
 refine c7 NH ?_
 apply dq rfl
 ·refine aO (fz (k9 rfl (by decide+kernel) (by decide+kernel) rfl rfl rfl (DH aq)) rfl) ?_
  refine aO (gT rfl (fL rfl d3 (fL rfl dS (fL rfl fH (fL rfl iX rfl))))) ?_
  exact cw (dE rfl rfl)
 ·rfl
theorem y8:ds "is_parent"=some (aI 38):=by kernel_rfl
theorem QK {k0:Int} {hd inh:List (al×H)} {pg:Bool} {v:H} (bi:(bb (.str "Parent") hd).getD .none=v) (ay:iC v=true):aH b (m+1) "is_parent" [bS k0 hd [] inh pg] per=some (.ret (.U (.bool (fP v))),per):=by
 refine c7 y8 ?_
 apply dq rfl
 ·refine aO (de (f7 rfl rfl (mR (kk:=.str "Parent") (l:=hd) (x:=v) rfl rfl rfl rfl bi)) rfl) ?_
  refine cw (co true (cO rfl rfl rfl rfl rfl rfl) (cw (dE (wT rfl rfl (t4 ay) rfl rfl) rfl)))
 ·rfl
theorem Rc {k0 j:Int} {hd inh:List (al×H)} {ab:List H} {pg:Bool} (bz:ab.length<900) (bi:(bb (.str "Parent") hd).getD .none=.none):aH b (m+2) "is_parent" [bS k0 hd (ab++[au j]) inh pg] per=some (.ret (.U (.bool false)),per):=by
 refine c7 y8 ?_
 have b1:eK .Eq (.aF (ab++[au j])) (.aF [])=some false:=by
  cases ab<;>rfl
 apply dq rfl
 ·refine aO (de (f7 rfl rfl (mR (kk:=.str "Parent") (l:=hd) (x:=.none) rfl rfl rfl rfl bi)) rfl) ?_
  refine aO (co false (cO rfl rfl rfl rfl b1 rfl) rfl) ?_
  exact cw (dE rfl rfl)
 ·rfl
theorem C2 {x y:Expr} {z:Bool} (M:(aJ b C CQ n J).a9 x fs=some (.U (.bool true),fs₁)) (O:(aJ b C CQ n J).a9 y fs₁=some (.U (.bool z),fs₂)):(aJ b C CQ (n+1) J).a9 (.BoolOp .And [x,y] p) fs=some (.U (.bool z),fs₂):=bd (wm M (GF O)) rfl
theorem ys {ab:List H} {v:H}:o5 (.aF (ab++[v])) (.int (-1))=some v:=by
 have O:j8 (-1) (ab++[v]).length=some ab.length:=by
  refine B List.length_append ?_
  exact eh (by decide) (cT (show(0:Int)<= -1+((ab.length+1:Nat):Int) by exact jY) (congrArg some (show(-1+((ab.length+1:Nat):Int)).toNat=_ by exact oJ)))
 have Y:qO (ab++[v]) (.int (-1))=br (j8 (-1) (ab++[v]).length) fun j=>(ab++[v])[j]? :=rfl
 exact Y.trans (bq O List.getElem?_concat_length)
theorem Fg {i j:Int}:eK .Eq (.aF [.int i,.int 0]) (.aF [.int j,.int 0])=some (decide (i=j)):=by
 show some ((i==j)&&(((0:Int)==0)&&true))=_
 by_cases h:i=j<;>simp [h]
theorem V3 {k0 i j:Int} {hd inh:List (al×H)} {ab:List H} {pg:Bool} (bi:(bb (.str "Parent") hd).getD .none=au i):aH b (m+2) "is_parent" [bS k0 hd (ab++[au j]) inh pg] per=some (.ret (.U (.bool (decide (i=j)))),per):=by
 refine c7 y8 ?_
 have b1:eK .Eq (.aF (ab++[au j])) (.aF [])=some false:=by
  cases ab<;>rfl
 apply dq rfl
 ·refine aO (de (f7 rfl rfl (mR (kk:=.str "Parent") (l:=hd) (x:=au i) rfl rfl rfl rfl bi)) rfl) ?_
  refine aO (co false (cO rfl rfl rfl rfl b1 rfl) rfl) ?_
  exact cw (dE (C2 rfl (wT (d0 rfl rfl rfl rfl rfl mD) (d0 (l:=[("number",.int j),("generation",.int 0)]) rfl (f0 rfl rfl rfl rfl ys) rfl rfl rfl mD) rfl rfl Fg)) rfl)
 ·rfl
end
end Mine
end
section
open PySem
namespace Mine
theorem K5:ds "counts_of"=some (aI 37):=by kernel_rfl
structure cQ where
 k:Int
 hd:List (al×H)
 ab:List Int
 inh:List (al×H)
 pg:Bool
noncomputable def cQ.v (s:cQ):H:=bS s.k s.hd (s.ab.map au) s.inh s.pg
noncomputable def gy (d:List (al×H)) (k:Int):List (al×H):=match bb (.int k) d with
 |some (.int c)=>cU (.int k) (.int (c+1)) d
 |_=>d
noncomputable def he (d:List (al×H)) (s:cQ):List (al×H):=cU (.int s.k) (.int (if s.pg then 1 else 0)) d
noncomputable def iS (d:List (al×H)) (s:cQ):List (al×H):=if s.pg then s.ab.foldl gy d else d
noncomputable def gg (d:List (al×H)) (k:Int):Prop:=∃c,bb (.int k) d=some (.int c)
theorem gg.s2 {d:List (al×H)} {k j:Int} (h:gg d j):gg (gy d k) j:=by
 refine bT h ?_;clear h;intro c hc
 unfold gy
 split
 ·unfold gg
  refine B gW ?_
  by_cases e:al.int j=al.int k
  ·refine B (if_pos e) ?_;exact⟨_,rfl⟩
  ·refine B (if_neg e) ?_;exact⟨c,hc⟩
 ·exact⟨c,hc⟩
theorem zO {d:List (al×H)} {k:Int} (h:gg d k):(gy d k).length=d.length:=by
 refine bT h ?_;clear h;intro c hc
 unfold gy
 refine B hc ?_
 dsimp only [kz,kL,kB,kA,kF,kJ,kR,kM]
 have:∀{l:List (al×H)} {v:H},(bb (.int k) l).isSome=true->(cU (.int k) v l).length=l.length:=by
  intro l v
  induction l with
  |nil=>intro h;cases h
  |cons p r ih=>
   obtain⟨y,w⟩:=p
   intro h
   unfold cU
   unfold bb at h
   by_cases e:al.int k=y
   ·refine B (if_pos e) ?_;rfl
   ·rw [if_neg e] at h|-
    simp [ih h]
 exact this (by refine B hc ?_;rfl)
section
variable{b:Bool} {C CQ:ct} {n:Nat} {J aW:Scope} {fs fs₁ fs₂ fs':X} {R:bk} {o:Option (bE×X)} {p:Pos} {m:Nat} {t u:Nat} {per:List H} {tab bJ:List (al×H)}
noncomputable def ka (found:List H) (d:List (al×H)) (s:H) (per:List H):X:=⟨[("found",.U (.am found)),("counts",.aD (.V d)),("spot",.U s)],per⟩
noncomputable def jc (found:List H) (d:List (al×H)) (s nd:H) (per:List H):X:=⟨[("found",.U (.am found)),("counts",.aD (.V d)),("spot",.U s),("node",.U nd)],per⟩
noncomputable def EQ:List Stmt:=d5 (ij (d5 (ij (d5 (cc (aI 37) 2)) 0)) 0)
theorem Dd {found:List H} {d:List (al×H)} {s:cQ} (aq:d.length<1000):cR (aJ b C CQ (n+16) (bN (aI 37))) (d5 (cc (aI 37) 1)) (ka found d s.v per)=some (.next,ka found (he d s) s.v per):=by
 obtain⟨k,hd,ab,inh,pg⟩:=s
 cases pg
 ·exact aO (gL (v:=.int 0) (k:=.int k) (r:=.var "counts") rfl rfl rfl (jx (l:=d) rfl rfl (by unfold a4;exact mP aq))) rfl
 ·exact aO (gL (v:=.int 1) (k:=.int k) (r:=.var "counts") rfl rfl rfl (jx (l:=d) rfl rfl (by unfold a4;exact mP aq))) rfl
theorem EE {found:List H} {d:List (al×H)} {s:H} {k:Int} (aq:d.length<1000) (h:gg d k):cR (aJ b C CQ (n+14) (bN (aI 37))) EQ (jc found d s (au k) per)=some (.next,jc found (gy d k) s (au k) per):=by
 refine bT h ?_;clear h;intro c hc
 have e:gy d k=cU (.int k) (.int (c+1)) d:=by unfold gy;(refine B hc ?_;rfl)
 refine B e ?_
 have j4:∀{N g2 hE iG kn a},a=("number":Str)->(aJ b C CQ (N+4) (bN (aI 37))).a9 (.Subscript (.Name "counts" g2) (.Attribute (.Name "node" hE) a iG) kn) (jc found d s (au k) per)=some (.U (.int c),jc found d s (au k) per):=fun{N g2 hE iG kn a} bz=>by
  subst bz
  exact f0 rfl rfl rfl rfl (bq rfl hc)
 exact aO (gL (v:=.int (c+1)) (k:=.int k) (r:=.var "counts") (dt (dC (j4 rfl) rfl rfl rfl rfl) rfl) rfl rfl (jx (l:=d) rfl rfl (by unfold a4;exact mP aq))) rfl
theorem zt {found:List H} {s:H}:∀{ks:List Int} {d:List (al×H)} {nd:H},d.length<1000->(∀k∈ks,gg d k)->∃kd,f4 (aJ b C CQ (n+14) (bN (aI 37))) (bN (aI 37)) "node" EQ (ks.map au) (jc found d s nd per)=some (.next,jc found (ks.foldl gy d) s kd per)
 |[],d,nd,_,_=>⟨nd,rfl⟩
 |k::ks,d,nd,aq,h=>by
  refine bT (zt (found:=found) (s:=s) (ks:=ks) (d:=gy d k) (nd:=au k) (by refine B (zO (h k List.mem_cons_self)) ?_;exact aq) (fun j bF=>(h j (List.mem_cons_of_mem _ bF)).s2)) ?_;intro kd e
  exact⟨kd,fL (fs₁:=jc found d s (au k) per) rfl (EE aq (h k List.mem_cons_self)) e⟩
theorem IB {ks:List Int}:∀{d:List (al×H)},(∀k∈ks,gg d k)->(ks.foldl gy d).length=d.length/\∀j,gg d j->gg (ks.foldl gy d) j:=by
 induction ks with
 |nil=>intro d _;exact⟨rfl,fun j h=>h⟩
 |cons k ks ih=>
  intro d h
  refine cm (ih (d:=gy d k) (fun j bF=>(h j (List.mem_cons_of_mem _ bF)).s2)) ?_;intro M O
  exact⟨M.trans (zO (h k List.mem_cons_self)),fun j bF=>O j bF.s2⟩
theorem Np {d:List (al×H)} {s:cQ} (h:∀k∈s.ab,gg d k):(iS d s).length=d.length/\∀j,gg d j->gg (iS d s) j:=by
 unfold iS
 split
 ·exact IB h
 ·exact⟨rfl,fun j h=>h⟩
theorem Pk {found:List H} {d:List (al×H)} {s:cQ} {nd:H} (aq:d.length<1000) (h:∀k∈s.ab,gg d k):∃kd,cR (aJ b C CQ (n+16) (bN (aI 37))) (d5 (cc (aI 37) 2)) (jc found d s.v nd per)=some (.next,jc found (iS d s) s.v kd per):=by
 obtain⟨k,hd,ab,inh,pg⟩:=s
 cases pg
 ·exact⟨nd,aO (co false rfl rfl) rfl⟩
 ·refine bT (zt (b:=b) (C:=C) (CQ:=CQ) (n:=n) (per:=per) (found:=found) (s:=bS k hd (ab.map au) inh true) (ks:=ab) (d:=d) (nd:=nd) aq h) ?_;intro kd e
  exact⟨kd,aO (co true rfl (aO (gT rfl e) rfl)) rfl⟩
end
end Mine
end
section
open PySem
namespace Mine
section
variable{b:Bool} {C CQ:ct} {n:Nat} {J aW:Scope} {fs fs₁ fs₂ fs':X} {R:bk} {o:Option (bE×X)} {p:Pos} {m:Nat} {t u:Nat} {per:List H} {tab bJ:List (al×H)}
theorem I7 {found:List H} {d:List (al×H)} {s:cQ} (aq:d.length<1000) (h:∀k∈s.ab,gg d k):∃fs',cR (aJ b C CQ (n+16) (bN (aI 37))) (d5 (cc (aI 37) 2)) (ka found d s.v per)=some (.next,fs')/\
  (fs'=ka found (iS d s) s.v per\/∃nd,fs'=jc found (iS d s) s.v nd per):=by
 obtain⟨k,hd,ab,inh,pg⟩:=s
 cases pg
 ·exact⟨_,aO (co false rfl rfl) rfl,.inl rfl⟩
 ·cases ab with
  |nil=>exact⟨_,aO (co true rfl (aO (gT rfl rfl) rfl)) rfl,.inl rfl⟩
  |cons k0 ks=>
   refine bT (zt (b:=b) (C:=C) (CQ:=CQ) (n:=n) (per:=per) (found:=found) (s:=bS k hd ((k0::ks).map au) inh true) (ks:=ks) (d:=gy d k0) (nd:=au k0) (by refine B (zO (h k0 List.mem_cons_self)) ?_;exact aq) (fun j bF=>(h j (List.mem_cons_of_mem _ bF)).s2)) ?_;intro kd e
   exact⟨_,aO (co true rfl (aO (gT rfl (fL (fs₁:=jc found d (bS k hd ((k0::ks).map au) inh true) (au k0) per) rfl (EE aq (h k0 List.mem_cons_self)) e)) rfl)) rfl,.inr ⟨kd,rfl⟩⟩
noncomputable def xw (fs:X) (found:List H) (d:List (al×H)) (s:H) (per:List H):Prop:=fs=ka found d s per\/∃nd,fs=jc found d s nd per
theorem FL {found:List H}:∀{l:List cQ} {d:List (al×H)} {s:H} {fs:X},d.length<1000->(∀x∈l,∀k∈x.ab,gg d k)->xw fs found d s per->
  ∃fs' az,f4 (aJ b C CQ (n+16) (bN (aI 37))) (bN (aI 37)) "spot" (d5 (cc (aI 37) 2)) (l.map cQ.v) fs=some (.next,fs')/\xw fs' found (l.foldl iS d) az per
 |[],d,s,fs,_,_,h=>⟨fs,s,rfl,h⟩
 |x::l,d,s,fs,aq,bx,h=>by
  refine cm (Np (bx x List.mem_cons_self)) ?_;intro ez ey
  have step:∃fs₁ fs₂,eQ (bN (aI 37)) "spot" (.U x.v) fs=some fs₁/\cR (aJ b C CQ (n+16) (bN (aI 37))) (d5 (cc (aI 37) 2)) fs₁=some (.next,fs₂)/\xw fs₂ found (iS d x) x.v per:=by
   rcases h with rfl|⟨nd,rfl⟩
   ·refine ba (I7 (b:=b) (C:=C) (CQ:=CQ) (n:=n) (per:=per) (found:=found) (s:=x) aq (bx x List.mem_cons_self)) ?_;intro fs' ak ar
    exact⟨ka found d x.v per,fs',rfl,ak,ar⟩
   ·refine bT (Pk (b:=b) (C:=C) (CQ:=CQ) (n:=n) (per:=per) (found:=found) (s:=x) (nd:=nd) aq (bx x List.mem_cons_self)) ?_;intro kd ak
    exact⟨jc found d x.v nd per,_,rfl,ak,.inr ⟨kd,rfl⟩⟩
  refine dN step ?_;clear step;intro fs₁ fs₂ ak ar bP
  refine hq (FL (l:=l) (d:=iS d x) (s:=x.v) (fs:=fs₂) (by refine B ez ?_;exact aq) (fun y aQ k ag=>ey k (bx y (List.mem_cons_of_mem _ aQ) k ag)) bP) ?_;intro fs' az cY dn
  exact⟨fs',az,fL ak ar cY,dn⟩
theorem zp {d:List (al×H)} {s:cQ}:(he d s).length<=d.length+1:=qu
theorem A4 {found:List H}:∀{l:List cQ} {d:List (al×H)} {s:H},d.length+l.length<1000->∃az,f4 (aJ b C CQ (n+16) (bN (aI 37))) (bN (aI 37)) "spot" (d5 (cc (aI 37) 1)) (l.map cQ.v) (ka found d s per)=some (.next,ka found (l.foldl he d) az per)
 |[],d,s,_=>⟨s,rfl⟩
 |x::l,d,s,h=>by
  have:=zp (d:=d) (s:=x)
  simp only [List.length_cons] at h
  obtain⟨az,e⟩:=A4 (l:=l) (d:=he d x) (s:=x.v) (by exact GJ h this)
  exact⟨az,fL (fs₁:=ka found d x.v per) rfl (Dd (by exact wR h)) e⟩
noncomputable def m0 (l:List cQ):List (al×H):=l.foldl iS (l.foldl he [])
theorem RX {l:List cQ}:∀{d:List (al×H)},(l.foldl he d).length<=d.length+l.length:=by
 induction l with
 |nil=>intro d;exact Nat.le_refl _
 |cons x l ih=>intro d;have:=zp (d:=d) (s:=x);have:=ih (d:=he d x);simp only [List.foldl_cons,List.length_cons];exact UV (by assumption) this
theorem G5 {x:cQ} {l:List cQ} (aq:(x::l).length<900) (bx:∀y∈x::l,∀k∈y.ab,gg ((x::l).foldl he []) k):aH b (m+1) "counts_of" [.am ((x::l).map cQ.v)] per=some (.ret (.b5 (.V (m0 (x::l)))),per):=by
 refine c7 K5 ?_
 simp only [List.length_cons] at aq
 refine bT (A4 (b:=b) (C:=aH b m) (CQ:=aH false m) (n:=23) (per:=per) (found:=(x::l).map cQ.v) (l:=l) (d:=he [] x) (s:=x.v) (by have:=zp (d:=[]) (s:=x);simp only [List.length_nil] at this;exact Wj aq this)) ?_;intro d3 ak
 have bC:=RX (l:=x::l) (d:=[])
 simp only [List.length_cons,List.length_nil] at bC
 refine hq (FL (b:=b) (C:=aH b m) (CQ:=aH false m) (n:=23) (per:=per) (found:=(x::l).map cQ.v) (l:=x::l) (d:=(x::l).foldl he []) (s:=d3) (fs:=ka ((x::l).map cQ.v) ((x::l).foldl he []) d3 per) (by exact IE aq bC) bx (.inl rfl)) ?_;intro fs' dS ar bP
 have mF:getL "counts" fs'.loc=some (.aD (.V (m0 (x::l)))):=by
  rcases bP with rfl|⟨nd,rfl⟩<;>rfl
 have rW:fs'.per=per:=by
  rcases bP with rfl|⟨nd,rfl⟩<;>rfl
 apply dq rfl
 ·refine aO (fz rfl rfl) ?_
  refine aO (gT rfl (fL (fs₁:=ka ((x::l).map cQ.v) [] x.v per) rfl (Dd (n:=23) (by simp)) ak)) ?_
  refine aO (gT (g4 rfl (dt (r:=.U (.am ((x::l).map cQ.v))) rfl rfl)) ar) ?_
  exact cw (sj rfl (by decide+kernel) mF)
 ·exact rW
end
end Mine
end
section
open PySem
namespace Mine
theorem Ka:ds "settle"=some (aI 40):=by kernel_rfl
noncomputable def j5 (s:cQ) (x:Option Int):Bool:=decide (x=s.ab.getLast?)
noncomputable def ll (s:cQ) (c:Int):Bool:=s.pg||(match bb (.str "Count") s.hd with|some (.int d)=>d==c|_=>false)
noncomputable def hS (s:cQ) (x:Option Int) (c:Int):List (al×H):=
 (if j5 s x then [] else [(.str "Parent",match s.ab.getLast? with|some j=>au j|none=>.none)])++(if ll s c then [] else [(.str "Count",.int c)])
structure nl (s:cQ) (x:Option Int):Prop where
 par:bb (.str "Parent") s.hd=x.map au
 iV:s.ab=[]->x=none
 cnt:s.pg=false->bb (.str "Count") s.hd=none\/∃c,bb (.str "Count") s.hd=some (.int c)
 fx:s.hd.length<500/\s.ab.length<500
section
variable{b:Bool} {C CQ:ct} {n:Nat} {J aW:Scope} {fs fs₁ fs₂ fs':X} {R:bk} {o:Option (bE×X)} {p:Pos} {m:Nat} {t u:Nat} {per:List H} {tab bJ:List (al×H)}
theorem EV {s:cQ} {x:Option Int} (h:nl s x):aH b (m+2) "is_parent" [s.v] per=some (.ret (.U (.bool (j5 s x))),per):=by
 obtain⟨k,hd,ab,inh,pg⟩:=s
 have an:=h.par
 dsimp only at an
 rcases List.eq_nil_or_concat ab with rfl|⟨ab',j,rfl⟩
 ·have ae:=h.iV rfl
  subst ae
  exact QK (v:=.none) (m:=m+1) (by refine B an ?_;rfl) rfl
 ·have e:j5 ⟨k,hd,ab'++[j],inh,pg⟩ x=decide (x=some j):=by unfold j5;simp
  have a9:(⟨k,hd,ab'++[j],inh,pg⟩:cQ).v=bS k hd (ab'.map au++[au j]) inh pg:=by unfold cQ.v;simp
  (refine B List.concat_eq_append ?_;refine B e ?_;refine B a9 ?_)
  cases x with
  |none=>exact Rc (by have:=h.fx.2;simp at this|-;exact XZ this) (by refine B an ?_;rfl)
  |some i=>
   have:=V3 (b:=b) (m:=m) (per:=per) (k0:=k) (i:=i) (j:=j) (hd:=hd) (inh:=inh) (ab:=ab'.map au) (pg:=pg) (by refine B an ?_;rfl)
   refine B this ?_
   congr 5
   simp
noncomputable def iI (t u:Nat) (found:List H) (cts:List (al×H)) (s:H) (ch:cg) (per:List H):X:=
 ⟨[("shelf",.U (bB t u)),("found",.U (.am found)),("counts",.aD (.V cts)),("spot",.U s),("changes",ch)],per⟩
noncomputable def jW:List Stmt:=d5 (cc (aI 40) 2)
theorem Rm {found:List H} {cts:List (al×H)} {s:cQ} {x:Option Int} (h:nl s x):
  (aJ b (aH b (m+2)) CQ (n+20) (bN (aI 40))).dg ((jW[1]?).getD default) (iI t u found cts s.v (.aD (.V [])) per)=
   some (.next,iI t u found cts s.v (.aD (.V (if j5 s x then [] else [(.str "Parent",match s.ab.getLast? with|some j=>au j|none=>.none)]))) per):=by
 have an:=EV (b:=b) (m:=m) (per:=per) h
 refine co (!j5 s x) (i4 (j0 (eV rfl (by decide+kernel) (by decide+kernel) (by decide+kernel) (by decide+kernel) rfl (by decide+kernel) rfl an))) ?_
 cases ah:j5 s x with
 |true=>rfl
 |false=>
  obtain⟨k,hd,ab,inh,pg⟩:=s
  rcases List.eq_nil_or_concat ab with rfl|⟨ab',j,rfl⟩
  ·have ae:=h.iV rfl
   subst ae
   cases ah
  ·rw [List.concat_eq_append] at*
   have a9:(⟨k,hd,ab'++[j],inh,pg⟩:cQ).v=bS k hd (ab'.map au++[au j]) inh pg:=by unfold cQ.v;simp
   have e9:(ab'++[j]).getLast? =some j:=by simp
   dsimp only [kz,kL,kB,kA,kF,kJ,kR,kM]
   (refine B a9 ?_;refine B e9 ?_)
   have b1:eK .Eq (.aF (ab'.map au++[au j])) (.aF [])=some false:=by
    cases ab'<;>rfl
   exact aO (gL (v:=au j) (k:=.str "Parent") (r:=.var "changes") (dt (mV false (cO rfl rfl rfl rfl b1 rfl) (f0 rfl rfl rfl rfl ys)) rfl) rfl rfl (jx (l:=[]) rfl rfl (Nat.zero_le _))) rfl
end
end Mine
end
section
open PySem
namespace Mine
section
variable{b:Bool} {C CQ:ct} {n:Nat} {J aW:Scope} {fs fs₁ fs₂ fs':X} {R:bk} {o:Option (bE×X)} {p:Pos} {m:Nat} {t u:Nat} {per:List H} {tab bJ:List (al×H)}
theorem pj {d:List (al×H)} {k:H} {kk:al} {v:H} (ag:f8 k=some kk) (h:bb kk d=some v):o5 (.V d) k=some v:=bq ag h
theorem Qs {found:List H} {cts d1:List (al×H)} {s:cQ} {x:Option Int} {c:Int} (aG:per[t]? =some (.V tab)) (h:nl s x) (hc:bb (.int s.k) cts=some (.int c)) (M:cU (.str "Count") (.int c) d1=d1++[(.str "Count",.int c)]) (O:d1.length<=1):
  (aJ b (aH b (m+2)) CQ (n+20) (bN (aI 40))).dg ((jW[2]?).getD default) (iI t u found cts s.v (.aD (.V d1)) per)=
   some (.next,iI t u found cts s.v (.aD (.V (d1++(if ll s c then [] else [(.str "Count",.int c)])))) per):=by
 obtain⟨k,hd,ab,inh,pg⟩:=s
 dsimp only at hc
 cases pg with
 |true=>
  have e:ll ⟨k,hd,ab,inh,true⟩ c=true:=rfl
  (refine B e ?_;refine B (if_pos rfl) ?_;refine B (List.append_nil _) ?_)
  exact co false (om rfl) rfl
 |false=>
  have cJ:∀(v:H) (z:Bool),(bb (.str "Count") hd).getD .none=v->gz v "Reference"=some false->eK .NotEq v (.int c)=some z->ll ⟨k,hd,ab,inh,false⟩ c= !z->
    (aJ b (aH b (m+2)) CQ (n+20) (bN (aI 40))).dg ((jW[2]?).getD default) (iI t u found cts (cQ.v ⟨k,hd,ab,inh,false⟩) (.aD (.V d1)) per)=
    some (.next,iI t u found cts (cQ.v ⟨k,hd,ab,inh,false⟩) (.aD (.V (d1++(if ll ⟨k,hd,ab,inh,false⟩ c then [] else [(.str "Count",.int c)])))) per):=fun v z ak ar bP cY=>by
   refine B cY ?_
   refine co z (kU rfl (cO (d0 rfl rfl rfl rfl rfl (la aG (v:=v) ak (.hI ar))) (f0 rfl rfl rfl rfl (pj (kk:=.int k) rfl hc)) (qb ar) rfl bP rfl)) ?_
   cases z with
   |false=>(refine B Bool.not_false ?_;refine B (if_pos rfl) ?_;refine B (List.append_nil _) ?_);rfl
   |true=>
    have fb:(d1++(if(!true)=true then([]:List (al×H)) else [(.str "Count",.int c)]))=cU (.str "Count") (.int c) d1:=M.symm
    refine B fb ?_
    exact aO (gL (v:=.int c) (k:=.str "Count") (r:=.var "changes") (dt (f0 rfl rfl rfl rfl (pj (kk:=.int k) rfl hc)) rfl) rfl rfl (jx (l:=d1) rfl rfl (by unfold a4;exact N6 O))) rfl
  rcases h.cnt rfl with bi|⟨d,bi⟩
  ·dsimp only at bi
   refine cJ .none true (by refine B bi ?_;rfl) rfl rfl ?_
   unfold ll;refine B bi ?_;rfl
  ·dsimp only at bi
   refine cJ (.int d) (!(d==c)) (by refine B bi ?_;rfl) rfl rfl ?_
   unfold ll;(refine B bi ?_;refine B (Bool.not_not _) ?_);rfl
theorem Py {s:cQ} {x:Option Int} {c:Int}:qU (hS s x c)/\(hS s x c).length<=2:=by
 unfold hS
 cases j5 s x<;>cases ll s c
 ·refine⟨⟨fun q aA=> ?_,?_⟩,by simp⟩
  ·simp only [Bool.false_eq_true,if_false,List.cons_append,List.nil_append,List.mem_cons,List.not_mem_nil,or_false] at aA
   rcases aA with rfl|rfl
   ·exact⟨"Parent",rfl,by dsimp only [kz,kL,kB,kA,kF,kJ,kR,kM];split<;>rfl⟩
   ·exact⟨"Count",rfl,rfl⟩
  ·simp [uB]
 ·refine⟨⟨fun q aA=> ?_,?_⟩,by simp⟩
  ·simp only [Bool.false_eq_true,if_false,if_true,List.append_nil,List.mem_cons,List.not_mem_nil,or_false] at aA
   subst aA
   exact⟨"Parent",rfl,by dsimp only [kz,kL,kB,kA,kF,kJ,kR,kM];split<;>rfl⟩
  ·simp
 ·refine⟨⟨fun q aA=> ?_,?_⟩,by simp⟩
  ·simp only [Bool.false_eq_true,if_false,if_true,List.nil_append,List.mem_cons,List.not_mem_nil,or_false] at aA
   subst aA
   exact⟨"Count",rfl,rfl⟩
  ·simp
 ·exact⟨⟨fun q aA=>by simp at aA,by simp⟩,by simp⟩
noncomputable def jq (tab:List (al×H)) (s:cQ) (x:Option Int) (c:Int):List (al×H):=if(hS s x c).isEmpty then tab else cU (.int s.k) (.aF [.int 0,.V (hP s.hd (hS s x c))]) tab
theorem WC {q:al×H} {d:List (al×H)}:eK .NotEq (.V (q::d)) (.V [])=some true:=rfl
theorem tP {t:Nat} {v:H} (h:per[t]? =some v):per.set t v=per:=by
 apply List.ext_getElem?
 intro i
 refine B List.getElem?_set ?_
 by_cases e:t=i
 ·subst e
  have:=(List.getElem?_eq_some_iff.mp h).1
  (refine B (if_pos rfl) ?_;refine B (if_pos this) ?_;refine B h ?_;rfl)
 ·(refine B (if_neg e) ?_;rfl)
theorem Lk {found:List H} {cts:List (al×H)} {s:cQ} {x:Option Int} {c:Int} (aG:per[t]? =some (.V tab)) (h:nl s x) (aq:tab.length<=a4):
  ∃ch,(aJ b (aH b (m+2)) CQ (n+20) (bN (aI 40))).dg ((jW[3]?).getD default) (iI t u found cts s.v (.aD (.V (hS s x c))) per)=
   some (.next,iI t u found cts s.v ch (per.set t (.V (jq tab s x c)))):=by
 refine cm (Py (s:=s) (x:=x) (c:=c)) ?_;intro nr op
 unfold jq
 cases NN:hS s x c with
 |nil=>
  refine⟨.aD (.V []),?_⟩
  (refine B List.isEmpty_nil ?_;refine B (if_pos rfl) ?_;refine B (tP aG) ?_)
  exact co false (cO rfl rfl rfl rfl rfl rfl) rfl
 |cons q d=>
  rw [NN] at nr op
  refine⟨.U (.V (q::d)),?_⟩
  (refine B List.isEmpty_cons ?_;refine B (if_neg (by decide)) ?_)
  have hs:=h.fx.1
  obtain⟨k,hd,ab,inh,pg⟩:=s
  have UK:=rY (b:=b) (m:=m+1) (per:=per) (hd:=hd) (ch:=q::d) nr (by dsimp only at hs;simp only [List.length_cons] at op|-;exact Lw op hs)
  refine co true (cO rfl rfl rfl rfl WC rfl) ?_
  exact aO (mx (by decide+kernel) (bM rfl rfl (bM rfl rfl (bM (eV rfl (by decide+kernel) (by decide+kernel) (by decide+kernel) (by decide+kernel) rfl (by decide+kernel) rfl UK) rfl rfl))) (ES (m:=m) aG aq)) rfl
end
end Mine
end
section
open PySem
namespace Mine
mutual
noncomputable def gq (ab:List Int):bO->List cQ
 |.leaf k hd=>[⟨k,hd,ab,ep hd,true⟩]
 |.node k hd kids=>⟨k,hd,ab,ep hd,false⟩::nF (ab++[k]) kids
noncomputable def nF (ab:List Int):List bO->List cQ
 |[]=>[]
 |x::r=>gq ab x++nF ab r
end
mutual
theorem yQ:∀{x:bO} {ab:List Int},dP (ab.map au) x=(gq ab x).map cQ.v
 |.leaf k hd,ab=>rfl
 |.node k hd kids,ab=>by
  unfold dP gq
  have:=D1 (l:=kids) (ab:=ab++[k])
  replace this:=List.map_append▸this
  (refine B List.map_cons ?_;refine bt this ?_);rfl
theorem D1:∀{l:List bO} {ab:List Int},iv (ab.map au) l=(nF ab l).map cQ.v
 |[],ab=>rfl
 |x::r,ab=>by unfold iv nF;(refine B List.map_append ?_;refine B (yQ (x:=x)) ?_;refine B (D1 (l:=r)) ?_;rfl)
end
noncomputable abbrev zq:=cQ×Option Int×Int
noncomputable def qm (tab:List (al×H)) (l:List zq):List (al×H):=l.foldl (fun d q=>jq d q.1 q.2.1 q.2.2) tab
theorem Mn {tab:List (al×H)} {s:cQ} {x:Option Int} {c:Int}:(jq tab s x c).length<=tab.length+1:=by
 unfold jq;split
 ·exact uf
 ·exact qu
section
variable{b:Bool} {C CQ:ct} {n:Nat} {J aW:Scope} {fs fs₁ fs₂ fs':X} {R:bk} {o:Option (bE×X)} {p:Pos} {m:Nat} {t u:Nat} {per:List H} {tab bJ:List (al×H)}
noncomputable def EZ (t u:Nat) (found:List H) (cts:List (al×H)) (per:List H):X:=⟨[("shelf",.U (bB t u)),("found",.U (.am found)),("counts",.aD (.V cts))],per⟩
noncomputable def Gc (t u:Nat) (found:List H) (cts:List (al×H)) (s:H) (per:List H):X:=⟨[("shelf",.U (bB t u)),("found",.U (.am found)),("counts",.aD (.V cts)),("spot",.U s)],per⟩
noncomputable def UE (t u:Nat) (found:List H) (cts:List (al×H)) (per:List H) (fs:X):Prop:=fs=EZ t u found cts per\/∃s ch,fs=iI t u found cts s ch per
theorem IN {found:List H} {cts:List (al×H)} {s:cQ} {x:Option Int} {c:Int} (aB:fs=Gc t u found cts s.v per\/∃ch,fs=iI t u found cts s.v ch per) (aG:per[t]? =some (.V tab)) (h:nl s x) (hc:bb (.int s.k) cts=some (.int c)) (aq:tab.length<=a4):
  ∃ch,cR (aJ b (aH b (m+2)) CQ (n+20) (bN (aI 40))) jW fs=some (.next,iI t u found cts s.v ch (per.set t (.V (jq tab s x c)))):=by
 refine bT (Lk (b:=b) (CQ:=CQ) (n:=n) (m:=m) (u:=u) (found:=found) (cts:=cts) (s:=s) (x:=x) (c:=c) aG h aq) ?_;intro ch e
 have ak:=Rm (b:=b) (CQ:=CQ) (n:=n) (m:=m) (t:=t) (u:=u) (per:=per) (found:=found) (cts:=cts) h
 have ar:=fun d1 M O=>Qs (b:=b) (CQ:=CQ) (n:=n) (m:=m) (u:=u) (found:=found) (cts:=cts) (d1:=d1) (x:=x) (c:=c) aG h hc M O
 have iA:(aJ b (aH b (m+2)) CQ (n+20) (bN (aI 40))).dg ((jW[0]?).getD default) fs=some (.next,iI t u found cts s.v (.aD (.V [])) per):=by
  rcases aB with rfl|⟨Ym,rfl⟩<;>exact fz rfl rfl
 refine⟨ch,aO (s:=(jW[0]?).getD default) (r:=[(jW[1]?).getD default,(jW[2]?).getD default,(jW[3]?).getD default]) iA (aO ak (aO (ar _ ?_ ?_) (aO e rfl)))⟩
 ·split<;>rfl
 ·split<;>simp
theorem lS {t:Nat} {v w:H}:(per.set t v).set t w=per.set t w:=by(refine B (List.set_set _) ?_;rfl)
theorem jJ {t:Nat} {v w:H} (h:per[t]? =some v):(per.set t w)[t]? =some w:=by
 have:=(List.getElem?_eq_some_iff.mp h).1
 (refine B List.getElem?_set ?_;refine B (if_pos rfl) ?_;refine B (if_pos this) ?_;rfl)
theorem DZ {found:List H} {cts:List (al×H)}:∀{l:List zq} {tab:List (al×H)} {per:List H} {fs:X},UE t u found cts per fs->per[t]? =some (.V tab)->(∀q∈l,nl q.1 q.2.1/\bb (.int q.1.k) cts=some (.int q.2.2))->tab.length+l.length<=a4->
  ∃fs',f4 (aJ b (aH b (m+2)) CQ (n+20) (bN (aI 40))) (bN (aI 40)) "spot" jW (l.map fun q=>q.1.v) fs=some (.next,fs')/\fs'.per=per.set t (.V (qm tab l))
 |[],tab,per,fs,aB,aG,h,aq=>by
  refine⟨fs,rfl,?_⟩
  have:qm tab []=tab:=rfl
  (refine B this ?_;refine B (tP aG) ?_)
  rcases aB with rfl|⟨s,ch,rfl⟩<;>rfl
 |(s,x,c)::l,tab,per,fs,aB,aG,h,aq=>by
  refine cm (h _ List.mem_cons_self) ?_;intro bH b8
  simp only [List.length_cons] at aq
  have bC:=Mn (tab:=tab) (s:=s) (x:=x) (c:=c)
  have step:∃fs₁,eQ (bN (aI 40)) "spot" (.U s.v) fs=some fs₁/\(fs₁=Gc t u found cts s.v per\/∃ch,fs₁=iI t u found cts s.v ch per):=by
   rcases aB with rfl|⟨az,ch,rfl⟩
   ·exact⟨_,rfl,.inl rfl⟩
   ·exact⟨_,rfl,.inr ⟨ch,rfl⟩⟩
  refine ba step ?_;clear step;intro fs₁ ak ar
  refine bT (IN (b:=b) (CQ:=CQ) (n:=n) (m:=m) (x:=x) (c:=c) ar aG bH b8 (by exact NO aq)) ?_;intro ch bP
  refine ba (DZ (l:=l) (tab:=jq tab s x c) (fs:=iI t u found cts s.v ch (per.set t (.V (jq tab s x c)))) (.inr ⟨_,_,rfl⟩) (jJ aG) (fun q aA=>h q (List.mem_cons_of_mem _ aA)) (by exact Ij aq bC)) ?_;intro fs' cY dn
  refine⟨fs',fL ak bP cY,?_⟩
  (refine B dn ?_;refine B lS ?_);rfl
theorem Mr {x:bO} {l:List zq} (aG:per[t]? =some (.V tab)) (b2:per[u]? =some (.V bJ)) (ae:kT tab bJ x) (hs:l.map (fun q=>q.1)=gq [] x)
  (bC:l.length<900) (bx:∀y∈gq [] x,∀k∈y.ab,gg ((gq [] x).foldl he []) k) (aA:∀q∈l,nl q.1 q.2.1/\bb (.int q.1.k) (m0 (gq [] x))=some (.int q.2.2)) (aq:tab.length+l.length<=a4):
  aH b (m+6) "settle" [bB t u] per=some (.ret (.U .none),per.set t (.V (qm tab l))):=by
 refine c7 Ka ?_
 have ak:=tS (b:=b) (m:=m) aG b2 ae
 have iA:dP [] x=(gq [] x).map cQ.v:=yQ (ab:=[])
 replace ak:=iA▸ak
 have b1:∃s r,gq [] x=s::r:=by
  refine p5 ae.node ?_;intro k hd kids u;subst u
  exact⟨_,_,rfl⟩
 refine jd b1 ?_;clear b1;intro s r vj
 have ar:aH b (m+5) "counts_of" [.am ((gq [] x).map cQ.v)] per=some (.ret (.b5 (.V (m0 (gq [] x)))),per):=by
  rw [vj] at bx|-
  exact G5 (m:=m+4) (by(refine bt vj ?_;refine bt hs ?_;refine B (List.length_map _) ?_);exact bC) bx
 refine ba (DZ (b:=b) (CQ:=aH false (m+5)) (n:=19) (m:=m+3) (u:=u) (found:=(gq [] x).map cQ.v) (cts:=m0 (gq [] x)) (l:=l) (fs:=EZ t u ((gq [] x).map cQ.v) (m0 (gq [] x)) per) (.inl rfl) aG aA aq) ?_;intro fs' bP cY
 have ay:(l.map fun q=>q.1.v)=(gq [] x).map cQ.v:=by(refine bt hs ?_;refine B List.map_map ?_);rfl
 replace bP:=ay▸bP
 apply ti rfl
 ·refine aO (fz (eV rfl (by decide+kernel) (by decide+kernel) (by decide+kernel) (by decide+kernel) rfl (by decide+kernel) (bM rfl rfl rfl) ak) rfl) ?_
  refine aO (fz (eV rfl (by decide+kernel) (by decide+kernel) (by decide+kernel) (by decide+kernel) rfl (by decide+kernel) (bM rfl rfl rfl) ar) rfl) ?_
  exact aO (gT (g4 rfl (dt (r:=.U (.am ((gq [] x).map cQ.v))) rfl rfl)) bP) rfl
 ·exact cY
end
end Mine
end
section
open PySem
namespace Mine
theorem SF:ds "page_count"=some (aI 33):=by kernel_rfl
section
variable{b:Bool} {C CQ:ct} {n:Nat} {J aW:Scope} {fs fs₁ fs₂ fs':X} {R:bk} {o:Option (bE×X)} {p:Pos} {m:Nat} {t u:Nat} {per:List H} {tab bJ:List (al×H)}
theorem XM {k:Int} {hd:List (al×H)} {kids:List bO} {c:Int} (aG:per[t]? =some (.V tab)) (b2:per[u]? =some (.V bJ)) (ae:kT tab bJ (.node k hd kids)) (hc:bb (.str "Count") hd=some (.int c)) (aL:0<=c):
  aH b (m+5) "page_count" [bB t u] per=some (.ret (.U (.int c)),per):=by
 refine dN ae.jw ?_;intro a6 pf ez ey hW
 refine eg ae.ao ?_;intro bH b8 c9
 have aR:=z0 (b:=b) (m:=m+3) (per:=per) (i:=c)
 replace aR:=(decide_eq_true aL)▸aR
 refine c7 SF ?_
 apply dq rfl
 ·refine aO (de (d0 rfl rfl rfl rfl (bM (d0 rfl rfl rfl rfl (bM (eV rfl (by decide+kernel) (by decide+kernel) (by decide+kernel) (by decide+kernel) rfl (by decide+kernel) (bM rfl rfl (bM (f7 rfl (d0 rfl rfl rfl rfl rfl (wa (m:=m+1) aG b2 ez (.rP ey rfl))) (mR (kk:=.str "Pages") (l:=pf) (x:=au k) rfl rfl rfl rfl (by refine B hW ?_;rfl))) rfl rfl)) (zI (m:=m+3) aG bH rfl)) rfl rfl) (s9 (m:=m+3) aG (.rP bH rfl))) rfl (bM rfl rfl rfl)) (la (m:=m+2) aG (v:=.int c) (by refine B hc ?_;rfl) (.hI rfl))) rfl) ?_
  exact cw (co true (j0 (eV rfl (by decide+kernel) (by decide+kernel) (by decide+kernel) (by decide+kernel) rfl (by decide+kernel) rfl aR)) (cw (dE rfl rfl)))
 ·rfl
end
end Mine
end
section
open PySem
namespace Mine
theorem Kr:ds "kid_index"=some (aI 45):=by kernel_rfl
noncomputable def hx (k:Int):H:=.aF [.int k,.int 0]
noncomputable def wG:H->Int
 |.dV _ ((_,.int k)::_)=>k
 |_=>0
noncomputable def oC (r:Int):List Int->Option Nat
 |[]=>none
 |k::l=>if k=r then some 0 else(oC r l).map (· +1)
theorem wO {i j:Int}:eP eG (hx i) (hx j)=some (decide (i=j)):=by
 show some ((i==j)&&(((0:Int)==0)&&true))=_
 by_cases h:i=j<;>simp [h]
theorem L9 {r:Int} {l:List Int}:m2 (hx r) (l.map hx)=oC r l:=by
 induction l with
 |nil=>rfl
 |cons k l ih=>
  refine bq wO ?_
  unfold oC
  by_cases h:k=r
  ·refine B (if_pos h) ?_;exact cT (decide_eq_true h) rfl
  ·(refine B (if_neg h) ?_;refine bt ih ?_);refine eh (fun e=>h (of_decide_eq_true e)) ?_
   cases m2 (hx r) (l.map hx)<;>rfl
section
variable{b:Bool} {C CQ:ct} {n:Nat} {J aW:Scope} {fs fs₁ fs₂ fs':X} {R:bk} {o:Option (bE×X)} {p:Pos} {m:Nat} {t u:Nat} {per:List H} {tab bJ:List (al×H)}
theorem Qz {r:aV} {args:List Expr} {v:H} {l:List H} {i:Nat} (aL:o7 (fs.cE r)=true) (bz:dp R args fs=some ([v],fs₁)) (M:fs₁.cE r=some (.am l)) (O:(l.length<=a4&&l.all (fun y=>np y&&(eP eG y v).isSome))=true) (Y:m2 v l=some i):iK C R "index" r args fs=some (.U (.int i),fs₁):=by
 exact(JG aL).trans (bd bz (i1 rfl (congrArg lm M) (cT O (bq Y rfl))))
noncomputable def O3:Expr:=en (cc (aI 45) 0) [0,0,0]
noncomputable def HS:Scope:=iH (en (cc (aI 45) 0) [0,0])
noncomputable def CV (tab:List (al×H)) (j:Int):Prop:=∃x,bb (.int j) tab=some (.aF [.int 0,x])/\gz x "Reference"=some false
theorem Hj {k r:Int} {hd inh:List (al×H)} {ab:List H} {ks:List Int} {i:Nat} (aG:per[t]? =some (.V tab)) (ag:bb (.str "Kids") hd=some (.am (ks.map au))) (hs:∀j∈ks,CV tab j) (aq:ks.length<900) (aR:oC r ks=some i):
  aH b (m+4) "kid_index" [bB t u,bS k hd ab inh false,au r] per=some (.ret (.U (.int i)),per):=by
 refine c7 Kr ?_
 obtain⟨l,e⟩:=u2 (R:=aJ b (aH b (m+3)) (aH false (m+3)) 37 HS) (per:=per) (elt:=O3) (x:="kid") (L:=[("shelf",.U (bB t u))]) (f:=fun v=>hx (wG v)) (items:=ks.map au) (fs:=⟨[("shelf",.U (bB t u))],per⟩)
  (fun v ay=>by
   refine ba (List.mem_map.mp ay) ?_;intro j bF u;subst u
   refine ba (hs j bF) ?_;intro x jD nB
   exact dt (d0 (l:=[("number",.int j),("generation",.int 0)]) rfl (eV rfl (by decide+kernel) (by decide+kernel) (by decide+kernel) (by decide+kernel) rfl (by decide+kernel) (bM rfl rfl (bM rfl rfl rfl)) (zI (m:=m+2) aG jD nB)) rfl rfl rfl (mD (m:=m+2))) rfl) (.inl rfl)
 have Ks:(ks.map au).map (fun v=>hx (wG v))=ks.map hx:=by refine B List.map_map ?_;rfl
 replace e:=Ks▸e
 apply dq rfl
 ·refine cw (dE (f7 rfl (h8 (g4 rfl (dt (eV rfl (by decide+kernel) (by decide+kernel) (by decide+kernel) (by decide+kernel) rfl (by decide+kernel) rfl (qA (m:=m) aG (by refine B ag ?_;rfl) (.hI rfl))) rfl)) (by refine B (List.length_map _) ?_;unfold a4;exact jR aq) rfl e) (Qz (v:=hx r) (l:=ks.map hx) (i:=i) rfl (bM (d0 rfl rfl rfl rfl rfl (mD (m:=m+2))) rfl rfl) rfl ?_ ?_)) rfl)
  ·refine B (Bool.and_eq_true _ _) ?_
   refine⟨decide_eq_true (by refine B (List.length_map _) ?_;unfold a4;exact jR aq),?_⟩
   rw [List.all_eq_true]
   intro y aQ
   refine ba (List.mem_map.mp aQ) ?_;intro j bF u;subst u
   (refine B (show np (hx j)=true from rfl) ?_;refine B (Bool.true_and _) ?_)
   refine B wO ?_;rfl
  ·refine B L9 ?_;exact aR
 ·rfl
end
end Mine
end
section
open PySem
namespace Mine
theorem vY:ds "place_of"=some (aI 44):=by kernel_rfl
section
variable{b:Bool} {C CQ:ct} {n:Nat} {J aW:Scope} {fs fs₁ fs₂ fs₃ fs':X} {R:bk} {o:Option (bE×X)} {p:Pos} {m:Nat} {t u:Nat} {per:List H} {tab bJ:List (al×H)}
theorem uU {l bW kW e ci a c c' v w BH z} (M:(aJ b C CQ n J).a9 l fs=some (a,fs₁)) (O:(aJ b C CQ n J).a9 e fs₁=some (.U c,fs₂)) (Y:fs₂.cE a=some v) (aC:fs₂.cE (.U c)=some w) (bR:eK bW v w=some true)
  (dL:(aJ b C CQ n J).a9 ci fs₂=some (c',fs₃)) (f2:fs₃.cE (.U c)=some e4) (oc:fs₃.cE c'=some BH) (rO:eK kW e4 BH=some z):(aJ b C CQ (n+1) J).dD (.Compare l [bW,kW] [e,ci] p) fs=some (z,fs₃):=bd M (bd O (i1 Y aC (bq bR (bq rfl (bq rfl (bd dL (i1 f2 oc (bq rO rfl))))))))
theorem S5 {l bW kW e ci a c v w} (M:(aJ b C CQ n J).a9 l fs=some (a,fs₁)) (O:(aJ b C CQ n J).a9 e fs₁=some (.U c,fs₂)) (Y:fs₂.cE a=some v) (aC:fs₂.cE (.U c)=some w) (bR:eK bW v w=some false):(aJ b C CQ (n+1) J).dD (.Compare l [bW,kW] [e,ci] p) fs=some (false,fs₂):=bd M (bd O (i1 Y aC (bq bR (bq rfl (bq rfl rfl)))))
theorem PE {args:List Expr} {q:Pos} {x y:Int} (aL:J.names.lookup ("min":Str)=some .globalImplicit) (bz:dp (aJ b C CQ n J) args fs=some ([.int x,.int y],fs₁)):(aJ b C CQ (n+1) J).a9 (.Call (.Name ("min":Str) p) args [] q) fs=some (.U (.int (if y<x then y else x)),fs₁):=cT aL (eh (show("min":Str)≠"isinstance" by decide+kernel) (cT rfl (bd bz (bd rfl rfl))))
theorem xI {l:List H} {i:Nat} {v:H} (h:l[i]? =some v) (aR:i<2^62):o5 (.am l) (.int i)=some v:=by
 have M:qO l (.int (i:Int))=br (j8 i l.length) fun j=>l[j]? :=if_pos aR
 have O:j8 i l.length=some i:=cT (Int.natCast_nonneg i) (cT (List.getElem?_eq_some_iff.mp h).1 rfl)
 exact M.trans (bq O h)
theorem Dz {cls s:Str} {k q bZ bn} (h:(cls=("TreeFault":Str)&&J.names.lookup cls==some .globalImplicit)=true):(aJ true C CQ (n+1) J).dg (.Raise (some (.Call (.Name cls q) [.Constant (.str s) k bZ] [] bn)) none p) fs=some (.dB,fs):=by
 refine bq rfl (bd rfl (bq rfl (bq rfl (cT (?_:(true&&(true&&(true&&(decide (cls=("TreeFault":Str))&&J.names.lookup cls==some .globalImplicit))))=true) rfl))))
 exact h
end
end Mine
end
section
open PySem
namespace Mine
section
variable{b:Bool} {C CQ:ct} {n:Nat} {J aW:Scope} {fs fs₁ fs₂ fs₃ fs':X} {R:bk} {o:Option (bE×X)} {p:Pos} {m:Nat} {t u:Nat} {per:List H} {tab bJ:List (al×H)}
noncomputable def CL (t u:Nat) (at':Int) (found:List H) (per:List H):X:=⟨[("shelf",.U (bB t u)),("at",.U (.int at')),("found",.aD (.am found))],per⟩
noncomputable def B7 (t u:Nat) (at':Int) (found ma:List H) (per:List H):X:=⟨[("shelf",.U (bB t u)),("at",.U (.int at')),("found",.U (.am found)),("leaves",.aD (.am ma))],per⟩
theorem ya {x:bO} {a:Int} (hs:x.c8.length<400):(aJ b C CQ 40 (bN (aI 44))).dg (cc (aI 44) 1) (CL t u a (dP [] x) per)=some (.next,B7 t u a (dP [] x) (el x) per):=by
 obtain⟨l,e⟩:=v2 (R:=aJ b C CQ 38 (iH (en (cc (aI 44) 1) []))) (per:=per)
  (elt:=en (cc (aI 44) 1) [0]) (c:=en (cc (aI 44) 1) [2]) (x:="spot") (L:=[]) (f:=fun v=>v) (q:=xj) (items:=dP [] x) (fs:=⟨[],per⟩)
  (fun v ay=>by obtain⟨k,hd,ab',inh,pg,rfl⟩:=qr x [] v ay;cases pg<;>rfl) (fun v ay _=>by obtain⟨k,hd,ab',inh,pg,rfl⟩:=qr x [] v ay;rfl) (.inl rfl)
 replace e:=(List.map_id' _)▸e
 exact fz (h8 (g4 rfl (dt (r:=.var "found") rfl rfl)) (by refine B (vC _ _) ?_;unfold a4;exact xe hs) rfl e) rfl
theorem vQ {x:bO} {a:Int} (aG:per[t]? =some (.V tab)) (b2:per[u]? =some (.V bJ)) (ae:kT tab bJ x):(aJ b (aH b (m+5)) CQ 40 (bN (aI 44))).dg (cc (aI 44) 0) ⟨[("shelf",.U (bB t u)),("at",.U (.int a))],per⟩=some (.next,CL t u a (dP [] x) per):=
 fz (eV rfl (by decide+kernel) (by decide+kernel) (by decide+kernel) (by decide+kernel) rfl (by decide+kernel) rfl (tS aG b2 ae)) rfl
theorem rs {x:bO} (hs:x.c8.length<400):(el x).length<=a4:=by
 have M:(el x).length<=(dP [] x).length:=List.length_filter_le ..
 replace M:=(vC _ _)▸M
 unfold a4;exact Ud hs M
theorem il {l:List H} (h:l.length<=a4):gB "len" (.am l)=some (.U (.int l.length)):=wf rfl h
theorem qz {x y:Int} (h:x<=y):eK .LtE (.int x) (.int y)=some true:=by
 show some (decide (x<=y))=_;(refine B (decide_eq_true h) ?_;rfl)
theorem Do {x y:Int} (h:¬x<=y):eK .LtE (.int x) (.int y)=some false:=by
 show some (decide (x<=y))=_;(refine B (decide_eq_false h) ?_;rfl)
theorem HY {x:bO} {a:Int} (aG:per[t]? =some (.V tab)) (b2:per[u]? =some (.V bJ)) (ae:kT tab bJ x) (bz:a<0\/((el x).length:Int)<a):aH true (m+6) "place_of" [bB t u,.int a] per=some (.dB,per):=by
 refine c7 vY ?_
 apply Aj rfl
 ·refine aO (vQ (m:=m) aG b2 ae) (aO (ya ae.fx) ?_)
  by_cases aL:0<=a
  ·have M:¬(a<=((el x).length:Int)):=by exact VL bz aL
   exact pv (co true (i4 (uU (z:=false) (c:=.int a) (c':=.U (.int (el x).length)) rfl rfl rfl rfl (qz aL) (k9 rfl (by decide+kernel) (by decide+kernel) rfl rfl rfl (il (rs ae.fx))) rfl rfl (Do M))) (pv (Dz rfl)))
  ·exact pv (co true (i4 (S5 (c:=.int a) rfl rfl rfl rfl (Do aL))) (pv (Dz rfl)))
 ·rfl
end
end Mine
end
section
open PySem
namespace Mine
section
variable{b:Bool} {C CQ:ct} {n:Nat} {J aW:Scope} {fs fs₁ fs₂ fs₃ fs':X} {R:bk} {o:Option (bE×X)} {p:Pos} {m:Nat} {t u:Nat} {per:List H} {tab bJ:List (al×H)}
theorem wN {e:Expr} {a c:Str} {r:aV} {l:List (Str×H)} {v:H} (M:(aJ b C CQ n J).a9 e fs=some (r,fs₁)) (O:fs₁.cE r=some (.dV c l)) (Y:(ql c a&&kS e)=true) (aC:iu a l=some v):(aJ b C CQ (n+1) J).a9 (.Attribute e a p) fs=some (.U v,fs₁):=bd M (bd (bq O rfl) (cT Y (bq aC rfl)))
theorem xa {l:List H} {v:H}:o5 (.am (v::l)) (.int 0)=some v:=xI (i:=0) rfl (by decide)
theorem O9 {k:Int} {hd:List (al×H)} {kids:List bO} (aG:per[t]? =some (.V tab)) (b2:per[u]? =some (.V bJ)) (ae:kT tab bJ (.node k hd kids)) (aX:el (.node k hd kids)=[]) (k6:kids.length<900):
  aH b (m+6) "place_of" [bB t u,.int 0] per=some (.ret (.U (.aF [bS k hd [] (ep hd) false,.int kids.length])),per):=by
 refine c7 vY ?_
 refine eg ae.ao ?_;intro bH b8 c9
 have ag:=qA (b:=b) (m:=m+2) (u:=u) (hd:=hd) (v:=.am (kids.map fun y=>au y.num)) (l:=kids.map fun y=>au y.num) aG (by refine B b8.2.2 ?_;rfl) (.hI rfl)
 have iA:=vQ (b:=b) (CQ:=aH false (m+5)) (m:=m) (a:=0) aG b2 ae
 have ak:=ya (b:=b) (C:=aH b (m+5)) (CQ:=aH false (m+5)) (t:=t) (u:=u) (per:=per) (a:=0) ae.fx
 replace ak:=aX▸ak
 have hs:dP [] (.node k hd kids)=bS k hd [] (ep hd) false::iv ([]++[au k]) kids:=rfl
 rw [hs] at iA ak
 have aq:gB "len" (.am (kids.map fun y=>au y.num))=some (.U (.int kids.length)):=by
  have:=il (l:=kids.map fun y=>au y.num) (by refine B (List.length_map _) ?_;unfold a4;exact jR k6)
  replace this:=(List.length_map _)▸this
  exact this
 apply dq rfl
 ·refine aO iA (aO ak ?_)
  refine aO (co false (i4 (uU (z:=true) (c:=.int 0) (c':=.U (.int 0)) rfl rfl rfl rfl (qz (Int.le_refl 0)) (k9 rfl (by decide+kernel) (by decide+kernel) rfl rfl rfl rfl) rfl rfl (qz (Int.le_refl 0)))) rfl) ?_
  exact cw (co true (cO rfl rfl rfl rfl rfl rfl) (cw (dE (kK (bM (f0 rfl rfl rfl rfl xa) rfl (bM (k9 rfl (by decide+kernel) (by decide+kernel) rfl (eV rfl (by decide+kernel) (by decide+kernel) (by decide+kernel) (by decide+kernel) rfl (by decide+kernel) (bM rfl rfl (bM (wN (f0 rfl rfl rfl rfl xa) rfl rfl rfl) rfl rfl)) ag) rfl aq) rfl rfl)) (Nat.le_of_ble_eq_true rfl)) rfl)))
 ·rfl
end
end Mine
end
section
open PySem
namespace Mine
noncomputable def uG:H->Int
 |.dV _ ((_,r)::_)=>wG r
 |_=>0
section
variable{b:Bool} {C CQ:ct} {n:Nat} {J aW:Scope} {fs fs₁ fs₂ fs₃ fs':X} {R:bk} {o:Option (bE×X)} {p:Pos} {m:Nat} {t u:Nat} {per:List H} {tab bJ:List (al×H)}
noncomputable def Er (t u:Nat) (at':Int) (found ma:List H) (bs:H) (per:List H):X:=⟨[("shelf",.U (bB t u)),("at",.U (.int at')),("found",.U (.am found)),("leaves",.aD (.am ma)),("beside",.U bs)],per⟩
noncomputable def Sd (t u:Nat) (at':Int) (found ma:List H) (bs nd:H) (per:List H):X:=⟨[("shelf",.U (bB t u)),("at",.U (.int at')),("found",.U (.am found)),("leaves",.aD (.am ma)),("beside",.U bs),("node",.U nd)],per⟩
noncomputable def rp:Expr×Expr×Scope:=(en (cc (aI 44) 5) [0,0],en (cc (aI 44) 5) [0,2],iH (en (cc (aI 44) 5) [0]))
theorem TU {x:bO} {a r nk:Int} {rhd rinh:List (al×H)} {ab rest:List H} {nd:H} (hs:x.c8.length<400) (aE:(dP [] x).filter (fun v=>decide (uG v=nk))=nd::rest):
  (aJ b (aH b (m+5)) CQ 40 (bN (aI 44))).dg (cc (aI 44) 5) (Er t u a (dP [] x) (el x) (bS r rhd (ab++[au nk]) rinh true) per)=some (.next,Sd t u a (dP [] x) (el x) (bS r rhd (ab++[au nk]) rinh true) nd per):=by
 obtain⟨l,e⟩:=v2 (R:=aJ b (aH b (m+5)) CQ 37 rp.2.2) (per:=per) (elt:=rp.1) (c:=rp.2.1) (x:="spot") (L:=[("beside",.U (bS r rhd (ab++[au nk]) rinh true))]) (f:=fun v=>v) (q:=fun v=>decide (uG v=nk)) (items:=dP [] x) (fs:=⟨[("beside",.U (bS r rhd (ab++[au nk]) rinh true))],per⟩)
  (fun v ay=>by
   refine r1 (qr x [] v ay) ?_;intro k hd ab' inh pg u;subst u
   have aA:∀{z},decide (k=nk)=z->(aJ b (aH b (m+5)) CQ 37 rp.2.2).dD rp.2.1 ⟨bX "spot" (.U (bS k hd ab' inh pg)) [("beside",.U (bS r rhd (ab++[au nk]) rinh true))],per⟩=some (z,⟨bX "spot" (.U (bS k hd ab' inh pg)) [("beside",.U (bS r rhd (ab++[au nk]) rinh true))],per⟩):=fun{z} hz=>by
    apply cO (a:=.U (.aF [.int k,.int 0])) (c:=.U (.aF [.int nk,.int 0]))
    ·exact d0 rfl rfl rfl rfl rfl mD
    ·apply d0 (fs₁:=⟨bX "spot" (.U (bS k hd ab' inh pg)) [("beside",.U (bS r rhd (ab++[au nk]) rinh true))],per⟩) (fs₂:=⟨bX "spot" (.U (bS k hd ab' inh pg)) [("beside",.U (bS r rhd (ab++[au nk]) rinh true))],per⟩) (c:="Reference") (l:=[("number",.int nk),("generation",.int 0)]) (vs:=[])
     ·rfl
     ·exact f0 rfl rfl rfl rfl ys
     ·rfl
     ·rfl
     ·rfl
     ·exact mD
    ·rfl
    ·rfl
    ·exact Fg
    ·exact hz
   exact aA rfl) (fun v ay _=>by obtain⟨k,hd,ab',inh,pg,rfl⟩:=qr x [] v ay;rfl) (.inl rfl)
 (replace e:=(List.map_id' _)▸e;replace e:=aE▸e)
 exact de (f0 rfl (h8 (g4 rfl (dt (r:=.U (.am (dP [] x))) rfl rfl)) (by refine B (vC _ _) ?_;unfold a4;exact xe hs) rfl e) rfl rfl xa) rfl
theorem WH {x:bO} {a:Int} {i:Nat} {bs:H} (hs:x.c8.length<400) (ah:(el x)[i]? =some bs) (aR:(if((el x).length:Int)-1<a then((el x).length:Int)-1 else a)=(i:Int)):
  (aJ b (aH b (m+5)) CQ 40 (bN (aI 44))).dg (cc (aI 44) 4) (B7 t u a (dP [] x) (el x) per)=some (.next,Er t u a (dP [] x) (el x) bs per):=by
 have bC:(el x).length<2^62:=by have:=rs hs;unfold a4 at this;exact Re this
 have cz:=(List.getElem?_eq_some_iff.mp ah).1
 exact de (f0 rfl rfl (PE rfl (bM rfl rfl (bM (dC (k9 rfl (by decide+kernel) (by decide+kernel) rfl rfl rfl (il (rs hs))) rfl rfl rfl rfl) rfl rfl))) rfl (by refine B aR ?_;exact xI ah (by exact R4 bC cz))) rfl
theorem V9 {x:bO} {a r nk:Int} {i j:Nat} {rhd rinh nhd ninh:List (al×H)} {ab nab rest:List H} {ks:List Int} (aG:per[t]? =some (.V tab)) (b2:per[u]? =some (.V bJ)) (ae:kT tab bJ x) (aL:0<=a) (M:a<=((el x).length:Int))
  (ah:(el x)[i]? =some (bS r rhd (ab++[au nk]) rinh true)) (aR:(if((el x).length:Int)-1<a then((el x).length:Int)-1 else a)=(i:Int)) (aE:(dP [] x).filter (fun v=>decide (uG v=nk))=bS nk nhd nab ninh false::rest)
  (ag:bb (.str "Kids") nhd=some (.am (ks.map au))) (bx:∀j∈ks,CV tab j) (aq:ks.length<900) (bF:oC r ks=some j):
  aH b (m+6) "place_of" [bB t u,.int a] per=some (.ret (.U (.aF [bS nk nhd nab ninh false,.int ((j:Int)+if a=((el x).length:Int) then 1 else 0)])),per):=by
 refine c7 vY ?_
 have iA:=vQ (b:=b) (CQ:=aH false (m+5)) (m:=m) (a:=a) aG b2 ae
 have ak:=ya (b:=b) (C:=aH b (m+5)) (CQ:=aH false (m+5)) (t:=t) (u:=u) (per:=per) (a:=a) ae.fx
 have cY:=WH (b:=b) (CQ:=aH false (m+5)) (m:=m) (t:=t) (u:=u) (per:=per) (a:=a) ae.fx ah aR
 have dn:=TU (b:=b) (CQ:=aH false (m+5)) (m:=m) (t:=t) (u:=u) (per:=per) (a:=a) (r:=r) (rhd:=rhd) (rinh:=rinh) (ab:=ab) ae.fx aE
 have an:=rs ae.fx
 have qa:=Hj (b:=b) (m:=m+1) (u:=u) (k:=nk) (inh:=ninh) (ab:=nab) aG ag bx aq bF
 have b1:eK .Eq (.am (el x)) (.am [])=some false:=by
  cases aA:el x with
  |nil=>replace ah:=aA▸ah;cases ah
  |cons y l=>rfl
 apply dq rfl
 ·refine aO iA (aO ak ?_)
  refine aO (co false (i4 (uU (z:=true) (c:=.int a) (c':=.U (.int (el x).length)) rfl rfl rfl rfl (qz aL) (k9 rfl (by decide+kernel) (by decide+kernel) rfl rfl rfl (il an)) rfl rfl (qz M))) rfl) ?_
  refine aO (co false (cO rfl rfl rfl rfl b1 rfl) rfl) ?_
  refine aO cY (aO dn ?_)
  by_cases aX:a=((el x).length:Int)
  ·refine B (if_pos aX) ?_
   exact cw (dE (kK (bM rfl rfl (bM (dC (eV rfl (by decide+kernel) (by decide+kernel) (by decide+kernel) (by decide+kernel) rfl (by decide+kernel) rfl qa) (mV true (cO rfl (k9 rfl (by decide+kernel) (by decide+kernel) rfl rfl rfl (il an)) rfl rfl (show some (a==((el x).length:Int))=some true by(refine B (beq_iff_eq.mpr aX) ?_;rfl)) rfl) rfl) rfl rfl rfl) rfl rfl)) (Nat.le_of_ble_eq_true rfl)) rfl)
  ·refine B (if_neg aX) ?_
   exact cw (dE (kK (bM rfl rfl (bM (dC (eV rfl (by decide+kernel) (by decide+kernel) (by decide+kernel) (by decide+kernel) rfl (by decide+kernel) rfl qa) (mV false (cO rfl (k9 rfl (by decide+kernel) (by decide+kernel) rfl rfl rfl (il an)) rfl rfl (show some (a==((el x).length:Int))=some false by(refine B (beq_eq_false_iff_ne.mpr aX) ?_;rfl)) rfl) rfl) rfl rfl rfl) rfl rfl)) (Nat.le_of_ble_eq_true rfl)) rfl)
 ·rfl
end
end Mine
end
section
open PySem
namespace Mine
theorem II:ds "put_reference"=some (aI 46):=by kernel_rfl
section
variable{b:Bool} {C CQ:ct} {n:Nat} {J aW:Scope} {fs fs₁ fs₂ fs₃ fs':X} {R:bk} {o:Option (bE×X)} {p:Pos} {m:Nat} {t u:Nat} {per:List H} {tab bJ:List (al×H)}
theorem oF {e:Expr} {c1 aR:Option Expr} {q:Pos} {r:aV} {x y:Option Int} {l:List H} (M:(aJ b C CQ n J).a9 e fs=some (r,fs₁)) (O:mY (aJ b C CQ n J) c1 fs₁=some (x,fs₂)) (Y:mY (aJ b C CQ n J) aR fs₂=some (y,fs₃)) (aC:fs₃.cE r=some (.am l)) (bR:l.length<=a4):
  (aJ b C CQ (n+1) J).a9 (.Subscript e (.Slice c1 aR none p) q) fs=some (.b5 (.am (iU l x y)),fs₃):=bd M (bd O (bd Y (bq (congrArg lm aC) (cT bR rfl))))
theorem BY {k:Str} {e:Expr} {cX bZ:_} {v:H} (h:d2 (aJ b C CQ n J) e fs=some (v,fs₁)):(aJ b C CQ (n+1) J).a9 (.Dict [some (.Constant (.str k) cX bZ)] [e] p) fs=some (.b5 (.V [(.str k,v)]),fs₁):=bd (bq rfl (bd h (bd rfl rfl))) rfl
theorem vB {j k:Nat} (h:j<=k):jL (j:Int) k=j:=by
 unfold jL
 (refine B (if_neg (by exact DP)) ?_;refine B (Int.toNat_natCast _) ?_;refine B (Nat.min_eq_left h) ?_;rfl)
theorem yk {l:List H} {j:Nat} (h:j<=l.length):iU l none (some (j:Int))=l.take j:=by
 show(l.take (jL (j:Int) l.length)).drop 0=_
 (refine B (vB h) ?_;refine B List.drop_zero ?_;rfl)
theorem CW {l:List H} {j:Nat} (h:j<=l.length):iU l (some (j:Int)) none=l.drop j:=by
 show(l.take l.length).drop (jL (j:Int) l.length)=_
 (refine B (vB h) ?_;refine B List.take_length ?_;rfl)
theorem Qq {l:List H}:qU [(.str "Kids",.am l)]:=⟨fun q aA=>by rw [List.mem_singleton] at aA;subst aA;exact⟨_,rfl,rfl⟩,by simp⟩
theorem O5 {a r k:Int} {j:Nat} {hd inh:List (al×H)} {ab:List H} {ks:List H} {dh:List H} (aG:per[t]? =some (.V tab)) (aq:tab.length<=a4) (bx:hd.length<800) (k6:ks.length<900) (bF:j<=ks.length)
  (an:aH b (m+3) "place_of" [bB t u,.int a] per=some (.ret (.U (.aF [bS k hd ab inh false,.int j])),per)) (ag:bb (.str "Kids") hd=some (.am ks))
  (hs:aH b (m+3) "settle" [bB t u] (per.set t (.V (cU (.int k) (.aF [.int 0,.V (hP hd [(.str "Kids",.am (ks.take j++[au r]++ks.drop j))])]) tab)))=some (.ret (.U .none),dh)):
  aH b (m+4) "put_reference" [bB t u,.int a,au r] per=some (.ret (.U .none),dh):=by
 refine c7 II ?_
 have sI:=qA (b:=b) (m:=m) (u:=u) (hd:=hd) (v:=.am ks) (l:=ks) aG (by refine B ag ?_;rfl) (.hI rfl)
 have iW:=rY (b:=b) (m:=m+2) (per:=per) (hd:=hd) (ch:=[(.str "Kids",.am (ks.take j++[au r]++ks.drop j))]) Qq (by simp only [List.length_cons,List.length_nil];exact NM bx)
 have jf:ks.length<=a4:=by unfold a4;exact jR k6
 have M:=yk (l:=ks) bF
 have O:=CW (l:=ks) bF
 apply ti rfl
 ·refine aO (l3 (vs:=[bS k hd ab inh false,.int j]) rfl (eV rfl (by decide+kernel) (by decide+kernel) (by decide+kernel) (by decide+kernel) rfl (by decide+kernel) rfl an) (Nat.le_of_ble_eq_true rfl) rfl) ?_
  refine aO (de (eV rfl (by decide+kernel) (by decide+kernel) (by decide+kernel) (by decide+kernel) rfl (by decide+kernel) rfl sI) rfl) ?_
  refine aO (mx (by decide+kernel) (bM rfl rfl (bM rfl rfl (bM (eV rfl (by decide+kernel) (by decide+kernel) (by decide+kernel) (by decide+kernel) rfl (by decide+kernel) (bM rfl rfl (bM (BY (dt (dC (dC (oF rfl rfl rfl rfl jf) rfl rfl rfl (uE ?_)) (oF rfl rfl rfl rfl jf) rfl rfl (uE ?_)) rfl)) rfl rfl)) (by(refine B M ?_;refine B O ?_);exact iW)) rfl rfl))) (ES (m:=m+1) aG aq)) ?_
  ·(refine B M ?_;refine B List.length_take ?_);unfold a4;simp only [List.length_cons,List.length_nil];exact Ow k6
  ·(refine B M ?_;refine B O ?_;refine B List.length_append ?_;refine B List.length_take ?_;refine B List.length_drop ?_);unfold a4;simp only [List.length_cons,List.length_nil];exact Km k6
  ·exact aO (mx (by decide+kernel) rfl hs) rfl
 ·rfl
end
end Mine
end
section
open PySem
namespace Mine
theorem EM:ds "insert_page"=some (aI 47):=by kernel_rfl
section
variable{b:Bool} {C CQ:ct} {n:Nat} {J aW:Scope} {fs fs₁ fs₂ fs₃ fs':X} {R:bk} {o:Option (bE×X)} {p:Pos} {m:Nat} {t u:Nat} {per:List H} {tab bJ:List (al×H)}
theorem QB {a:Int} {pd:H} (Yu:iC pd=true) (h:aH true m "place_of" [bB t u,.int a] per=some (.dB,per)):aH true (m+1) "insert_page" [bB t u,.int a,pd] per=some (.dB,per):=by
 refine c7 EM ?_
 apply Aj rfl
 ·exact pv (DX (by decide+kernel) rfl h)
 ·rfl
end
end Mine
end
section
open PySem
namespace Mine
section
variable{b:Bool} {C CQ:ct} {n:Nat} {J aW:Scope} {fs fs₁ fs₂ fs₃ hm fs':X} {R:bk} {o:Option (bE×X)} {p:Pos} {m:Nat} {t u:Nat} {per:List H} {tab bJ:List (al×H)}
theorem qn {k k2:Str} {e ar:Expr} {cX bZ VF bn} {v w:H} (h:d2 (aJ b C CQ n J) e fs=some (v,fs₁)) (O:d2 (aJ b C CQ n J) ar fs₁=some (w,fs₂)) (b1:k≠k2):(aJ b C CQ (n+1) J).a9 (.Dict [some (.Constant (.str k) cX bZ),some (.Constant (.str k2) VF bn)] [e,ar] p) fs=some (.b5 (.V [(.str k,v),(.str k2,w)]),fs₂):=by
 have Y:cU (.str k2) w [(.str k,v)]=[(.str k,v),(.str k2,w)]:=if_neg fun e=>b1 (by injection e with e;exact e.symm)
 exact bd (bq rfl (bd h (bd (bq rfl (bd O (bd rfl rfl))) rfl))) (congrArg (fun d=>some (aV.b5 (.V d),fs₂)) Y)
noncomputable def nA:List (al×H):=[(.str "Type",gG "Page"),(.str "Parent",.none)]
theorem AV:qU nA:=⟨fun q aA=>by
  unfold nA at aA
  rcases List.mem_cons.mp aA with rfl|aA
  ·exact⟨_,rfl,rfl⟩
  ·rw [List.mem_singleton] at aA;subst aA;exact⟨_,rfl,rfl⟩,by unfold nA;simp [uB]⟩
theorem Mi {a:Int} {N:Nat} {pd cd:List (al×H)} {Hs:H} {dh:List H} (aG:per[t]? =some (.V tab)) (ag:fU tab N) (dm:N<1000) (fa:cd.length<800)
  (an:aH b (m+2) "place_of" [bB t u,.int a] per=some (.ret (.U Hs),per)) (hc:aH b (m+2) "copied" [.V pd] per=some (.ret (.b5 (.V cd)),per))
  (aP:aH b (m+2) "put_reference" [bB t u,.int a,au ((N:Int)+1)] (per.set t (.V (tab++[(.int ((N:Int)+1),.aF [.int 0,.V (hP cd nA)])])))=some (.ret (.U .none),dh)):
  aH b (m+3) "insert_page" [bB t u,.int a,.V pd] per=some (.ret (.U (au ((N:Int)+1))),dh):=by
 refine c7 EM ?_
 have iW:=rY (b:=b) (m:=m+1) (per:=per) (hd:=cd) AV (by unfold nA;simp only [List.length_cons,List.length_nil];exact KH fa)
 apply dq rfl
 ·refine aO (mx (by decide+kernel) rfl an) ?_
  refine aO (de (d0 rfl rfl rfl rfl (bM (eV rfl (by decide+kernel) (by decide+kernel) (by decide+kernel) (by decide+kernel) rfl (by decide+kernel) (bM (eV rfl (by decide+kernel) (by decide+kernel) (by decide+kernel) (by decide+kernel) rfl (by decide+kernel) rfl hc) rfl (bM (qn (v:=gG "Page") (w:=.none) rfl rfl (by decide+kernel)) rfl rfl)) iW) rfl rfl) (rR (m:=m+1) aG ag dm)) rfl) ?_
  refine aO (mx (by decide+kernel) rfl aP) ?_
  exact cw (dE rfl rfl)
 ·rfl
end
end Mine
end
section
open PySem
namespace Mine
noncomputable def mr (k:Int) (hd:List (al×H)):H:=.dV "Page" [("reference",au k),("fields",.V hd)]
noncomputable def zg:H->H
 |.dV _ ((_,r)::(_,h)::_)=>.dV "Page" [("reference",r),("fields",h)]
 |_=>.none
section
variable{b:Bool} {C CQ:ct} {n:Nat} {J aW:Scope} {fs fs₁ fs₂ fs₃ hm fs':X} {R:bk} {o:Option (bE×X)} {p:Pos} {m:Nat} {t u:Nat} {per:List H} {tab bJ:List (al×H)}
noncomputable def C3:Expr×Scope:=(en (cc (aI 32) 0) [0],iH (en (cc (aI 32) 0) []))
theorem P1 {x:bO} (aG:per[t]? =some (.V tab)) (b2:per[u]? =some (.V bJ)) (ae:kT tab bJ x) (WY:∀v∈el x,∃k hd ab pg,v=bS k hd ab (ep hd) pg/\(∀k∈fR,∀v,bb (.str k) hd=some v->p4 v)/\hd.length<=a4):
  aH b (m+7) "pages" [bB t u] per=some (.ret (.b5 (.am ((el x).map zg))),per):=by
 refine c7 Ko ?_
 obtain⟨l,e⟩:=u2 (R:=aJ b (aH b (m+6)) (aH false (m+6)) 38 C3.2) (per:=per) (elt:=C3.1) (x:="spot") (L:=[("shelf",.U (bB t u))]) (f:=zg) (items:=el x) (fs:=⟨[("shelf",.U (bB t u))],per⟩)
  (fun v ay=>by
   refine sd (WY v ay) ?_;intro k hd ab pg u;subst u;intro M O
   exact dt (x3 rfl (by decide+kernel) (by decide+kernel) (by decide+kernel) (by decide+kernel) rfl (bM rfl rfl (bM (eV rfl (by decide+kernel) (by decide+kernel) (by decide+kernel) (by decide+kernel) rfl (by decide+kernel) rfl (Eb (m:=m+3) aG M O)) rfl rfl)) rfl) rfl) (.inl rfl)
 apply dq rfl
 ·exact cw (dE (h8 (g4 rfl (dt (eV rfl (by decide+kernel) (by decide+kernel) (by decide+kernel) (by decide+kernel) rfl (by decide+kernel) rfl (SE (m:=m) aG b2 ae)) rfl)) (rs ae.fx) rfl e) rfl)
 ·rfl
end
end Mine
end
section
open PySem
namespace Mine
structure da where
 n:Int
 w:Int
 kc:Bool
noncomputable abbrev cF:=List (al×H)
noncomputable def da.d (p:da):cF:=(.str "N",.int p.n)::(.str "MediaBox",.am [.int 0,.int 0,.int p.w,.int 9])::(if p.kc then [(.str "Rotate",.int 90)] else [])
inductive af where
 |leaf (k:Int) (p:da) (par:Option Int)
 |node (k:Int) (par cnt:Option Int) (kids:List af)
noncomputable def af.num:af->Int
 |.leaf k _ _=>k
 |.node k _ _ _=>k
structure bg where
 k:Int
 par:Option Int
 cnt:Option Int
 c:da⊕List Int
 ab:List Int
noncomputable def B2 (p:Option Int):cF:=(p.map fun j=>(al.str "Parent",au j)).toList
noncomputable def Jf (p:Option Int):cF:=(p.map fun j=>(al.str "Count",H.int j)).toList
noncomputable def dY (par cnt:Option Int):da⊕List Int->cF
 |.inl p=>p.d++(.str "Type",gG "Page")::B2 par
 |.inr l=>(.str "Type",gG "Pages")::(.str "Kids",.am (l.map au))::(B2 par++Jf cnt)
noncomputable def bg.hd (q:bg):cF:=dY q.par q.cnt q.c
noncomputable def bg.pg (q:bg):Bool:=q.c.isLeft
noncomputable def bg.sp (q:bg):cQ:=⟨q.k,q.hd,q.ab,ep q.hd,q.pg⟩
mutual
noncomputable def af.ic:af->bO
 |.leaf k p par=>.leaf k (dY par none (.inl p))
 |.node k par cnt kids=>.node k (dY par cnt (.inr (kids.map af.num))) (af.jv kids)
noncomputable def af.jv:List af->List bO
 |[]=>[]
 |x::r=>x.ic::af.jv r
end
mutual
noncomputable def af.ai (ab:List Int):af->List bg
 |.leaf k p par=>[⟨k,par,none,.inl p,ab⟩]
 |.node k par cnt kids=>⟨k,par,cnt,.inr (kids.map af.num),ab⟩::af.bD (ab++[k]) kids
noncomputable def af.bD (ab:List Int):List af->List bg
 |[]=>[]
 |x::r=>af.ai ab x++af.bD ab r
end
theorem af.all {P:af->Prop} {Q:List af->Prop} (M:∀k p par,P (.leaf k p par)) (O:∀k par cnt kids,Q kids->P (.node k par cnt kids)) (Y:Q []) (aC:∀x r,P x->Q r->Q (x::r)):(∀x,P x)/\∀l,Q l:=
 have h:∀x,P x:=fun x=>af.rec (motive_1:=P) (motive_2:=Q) M O Y aC x
 ⟨h,fun l=>List.rec Y (fun x r ih=>aC x r (h x) ih) l⟩
theorem GB {x:af}:x.ic.num=x.num:=by cases x<;>rfl
theorem vc:∀{l:List af},af.jv l=l.map af.ic
 |[]=>rfl
 |x::r=>by unfold af.jv;refine B vc ?_;rfl
theorem tc {ab:List Int}:∀{l:List af},af.bD ab l=l.flatMap (af.ai ab)
 |[]=>rfl
 |x::r=>by unfold af.bD;refine B tc ?_;rfl
theorem uK:(∀x:af,∀ab,gq ab x.ic=(x.ai ab).map bg.sp)/\∀l:List af,∀ab,nF ab (af.jv l)=(af.bD ab l).map bg.sp:=by
 apply af.all
 ·intro k p par ab;rfl
 ·intro k par cnt kids ih ab
  show _::nF (ab++[k]) (af.jv kids)=_::(af.bD (ab++[k]) kids).map bg.sp
  refine B (ih _) ?_;rfl
 ·intro ab;rfl
 ·intro x r M O ab
  show gq ab x.ic++nF ab (af.jv r)=(x.ai ab++af.bD ab r).map bg.sp
  (refine B (M _) ?_;refine B (O _) ?_;refine B List.map_append ?_;rfl)
noncomputable def cA (L:List bg):List Int:=L.map bg.k
theorem EK:(∀x:af,∀ab,x.ic.c8=cA (x.ai ab))/\∀l:List af,∀ab,bO.kb (af.jv l)=cA (af.bD ab l):=by
 apply af.all
 ·intro k p par ab;rfl
 ·intro k par cnt kids ih ab
  show k::bO.kb (af.jv kids)=k::cA (af.bD (ab++[k]) kids)
  rw [ih]
 ·intro ab;rfl
 ·intro x r M O ab
  show bO.c8 x.ic++bO.kb (af.jv r)=cA (x.ai ab++af.bD ab r)
  (refine B (M ab) ?_;refine B (O ab) ?_);unfold cA;(refine B List.map_append ?_;rfl)
theorem tm:(∀x:af,∀ab,∀q∈x.ai ab,∃t,q.ab=ab++t/\t.length<(x.ai ab).length/\∀j∈t,j∈cA (x.ai ab))/\∀l:List af,∀ab,∀q∈af.bD ab l,∃t,q.ab=ab++t/\t.length<(af.bD ab l).length/\∀j∈t,j∈cA (af.bD ab l):=by
 apply af.all
 ·intro k p par ab q aA
  rw [af.ai,List.mem_singleton] at aA
  subst aA
  exact⟨[],by simp,by simp [af.ai],by simp⟩
 ·intro k par cnt kids ih ab q aA
  rw [af.ai] at aA|-
  rcases List.mem_cons.mp aA with rfl|aA
  ·exact⟨[],by simp,by simp,by simp⟩
  ·refine et (ih _ q aA) ?_;intro t M Y O
   refine⟨k::t,by refine B M ?_;simp,by simp;exact WR Y,fun j bF=> ?_⟩
   rcases List.mem_cons.mp bF with rfl|bF
   ·exact List.mem_cons_self
   ·exact List.mem_cons_of_mem _ (O j bF)
 ·intro ab q aA;cases aA
 ·intro x r M O ab q aA
  rw [af.bD] at aA|-
  unfold cA at*
  (refine B List.map_append ?_;refine B List.length_append ?_)
  rcases List.mem_append.mp aA with aA|aA
  ·refine et (M _ q aA) ?_;intro t ak bP ar
   exact⟨t,ak,by exact TB bP,fun j bF=>List.mem_append_left _ (ar j bF)⟩
  ·refine et (O _ q aA) ?_;intro t ak bP ar
   exact⟨t,ak,by exact I5 bP,fun j bF=>List.mem_append_right _ (ar j bF)⟩
noncomputable def g0 (tab:cF) (L:List bg):Prop:=∀q∈L,bb (.int q.k) tab=some (.aF [.int 0,.V q.hd])
theorem qL {par cnt:Option Int} {p:da}:E7 (dY par cnt (.inl p)):=by
 obtain⟨n,w,kc⟩:=p
 refine⟨fun k ag v ay=> ?_,by cases kc<;>rfl⟩
 simp only [fR,List.mem_cons,List.not_mem_nil,or_false] at ag
 rcases ag with rfl|rfl|rfl|rfl<;>cases kc<;>cases par<;>first|(cases ay;done)|(injection ay with ay;subst ay;exact⟨rfl,rfl⟩)
theorem Ag {par cnt:Option Int} {kids:List af}:xC (dY par cnt (.inr (kids.map af.num))) (af.jv kids):=by
 refine⟨fun k ag=> ?_,rfl,?_⟩
 ·simp only [fR,List.mem_cons,List.not_mem_nil,or_false] at ag
  rcases ag with rfl|rfl|rfl|rfl<;>cases par<;>cases cnt<;>rfl
 ·(refine B vc ?_;refine B List.map_map ?_)
  show some (H.am ((kids.map af.num).map au))=_
  refine B List.map_map ?_
  congr 2
  apply List.map_congr_left
  intro x _
  show au x.num=au x.ic.num
  (refine B GB ?_;rfl)
theorem SO {tab:cF}:(∀x:af,∀ab,g0 tab (x.ai ab)->qF tab x.ic)/\∀l:List af,∀ab,g0 tab (af.bD ab l)->rt tab (af.jv l):=by
 apply af.all
 ·intro k p par ab h
  exact⟨h _ List.mem_cons_self,qL⟩
 ·intro k par cnt kids ih ab h
  exact⟨h _ List.mem_cons_self,Ag,ih _ fun q aA=>h q (List.mem_cons_of_mem _ aA)⟩
 ·intro ab h;trivial
 ·intro x r M O ab h
  exact⟨M ab fun q aA=>h q (List.mem_append_left _ aA),O ab fun q aA=>h q (List.mem_append_right _ aA)⟩
end Mine
end
section
open PySem
namespace Mine
theorem J1:ds "kid_with"=some (aI 36):=by kernel_rfl
theorem RH:ds "page_at"=some (aI 35):=by kernel_rfl
mutual
noncomputable def af.bh:af->List (Int×da×Option Int)
 |.leaf k p par=>[(k,p,par)]
 |.node _ _ _ kids=>af.fS kids
noncomputable def af.fS:List af->List (Int×da×Option Int)
 |[]=>[]
 |x::r=>x.bh++af.fS r
end
mutual
noncomputable def af.oT:af->Prop
 |.leaf ..=>True
 |.node _ _ cnt kids=>cnt=some ((af.fS kids).length:Int)/\af.pq kids
noncomputable def af.pq:List af->Prop
 |[]=>True
 |x::r=>x.oT/\af.pq r
end
noncomputable def af.sv (ab:List Int):af->H
 |.leaf k p par=>bS k (dY par none (.inl p)) (ab.map au) (ep (dY par none (.inl p))) true
 |.node k par cnt kids=>bS k (dY par cnt (.inr (kids.map af.num))) (ab.map au) [] false
noncomputable def AB (J:Scope) (f:Str):Bool:=decide (J.names.lookup f=some .globalImplicit)&&(!(["isinstance","min","Shelf"]:List Str).contains f&&(!ml.contains f&&((jN f).isNone&&jV f)))
section
variable{b:Bool} {C CQ:ct} {n:Nat} {J aW:Scope} {fs fs₁ fs₂ fs₃ hm fs':X} {R:bk} {o:Option (bE×X)} {p:Pos} {m:Nat} {t u:Nat} {per:List H} {tab bJ:List (al×H)}
theorem dr {f args q vs r per} (h:AB J f=true) (bz:dp (aJ b C CQ n J) args fs=some (vs,fs₁)) (hc:C f vs fs₁.per=some (.ret r,per)):(aJ b C CQ (n+1) J).a9 (.Call (.Name f p) args [] q) fs=some (r,{fs₁ with per:=per}):=by
 unfold AB at h
 simp only [Bool.and_eq_true,decide_eq_true_eq,Bool.not_eq_true',Option.isNone_iff_eq_none] at h
 refine j3 h ?_;clear h;intro aL M O Y aC
 have iL:∀g∈(["isinstance","min","Shelf"]:List Str),f≠g:=fun g bi e=>by
  subst e
  have:=List.contains_iff_mem.mpr bi
  replace this:=M▸this;cases this
 exact eV aL (iL _ (by simp)) (iL _ (by simp)) (by refine B O ?_;decide) (iL _ (by simp)) Y aC bz hc
theorem Eg {x:af} {ab:List Int} (aG:per[t]? =some (.V tab)) (h:g0 tab (x.ai ab)):aH b (m+4) "met" [bB t u,au x.num,.aF (ab.map au),.V []] per=some (.ret (.U (x.sv ab)),per):=by
 cases x with
 |leaf k q par=>exact rx (x:=false) aG (h _ List.mem_cons_self) qL.1 qL.2
 |node k par cnt kids=>
  have g:=Ag (par:=par) (cnt:=cnt) (kids:=kids)
  have:=rx (b:=b) (m:=m) (u:=u) (ab:=ab.map au) (x:=true) aG (h _ List.mem_cons_self) (fun k ag v e=>by(rw [show bg.hd _=dY par cnt (.inr (kids.map af.num)) from rfl] at e;replace e:=(g.1 k ag)▸e);cases e) g.2.1
  have aR:ep (bg.hd ⟨k,par,cnt,.inr (kids.map af.num),ab⟩)=[]:=zs g
  replace this:=aR▸this
  exact this
noncomputable def G0 (t u:Nat) (sp:H) (left:Int) (kid:H) (per:List H):X:=⟨[("shelf",.U (bB t u)),("spot",.U sp),("left",.U (.int left)),("kid",.U kid)],per⟩
noncomputable def jX (t u:Nat) (sp:H) (left:Int) (kid below count:H) (per:List H):X:=⟨[("shelf",.U (bB t u)),("spot",.U sp),("left",.U (.int left)),("kid",.U kid),("below",.U below),("count",.U count)],per⟩
noncomputable def pJ:List Stmt:=d5 (cc (aI 36) 0)
noncomputable abbrev p9 (b:Bool) (CQ:ct) (m n:Nat):bk:=aJ b (aH b (m+4)) CQ (n+20) (bN (aI 36))
theorem oV {x y:Int} {z:Bool} (h:decide (x<y)=z):eK .Lt (.int x) (.int y)=some z:=by
 show some (decide (x<y))=_;(refine B h ?_;rfl)
theorem XG {z:af} {k left:Int} {hd:cF} {ab:List Int} (aB:fs=G0 t u (bS k hd (ab.map au) [] false) left (au z.num) per\/∃x y,fs=jX t u (bS k hd (ab.map au) [] false) left (au z.num) x y per) (aG:per[t]? =some (.V tab)) (h:g0 tab (z.ai (ab++[k]))) (hc:z.oT) (bz:ab.length<900):
  cR (p9 b CQ m n) pJ fs=cR (p9 b CQ m n) (pJ.drop 3) (jX t u (bS k hd (ab.map au) [] false) left (au z.num) (z.sv (ab++[k])) (.int z.bh.length) per):=by
 have aY:=Eg (b:=b) (m:=m) (u:=u) (ab:=ab++[k]) aG h
 replace aY:=List.map_append▸aY
 have aR:=z0 (b:=b) (m:=m+3) (per:=per) (i:=(z.bh.length:Int))
 replace aR:=(decide_eq_true (Int.natCast_nonneg _))▸aR
 have ar:(p9 b CQ m n).dg ((pJ[2]?).getD default) (jX t u (bS k hd (ab.map au) [] false) left (au z.num) (z.sv (ab++[k])) (.int z.bh.length) per)=some (.next,jX t u (bS k hd (ab.map au) [] false) left (au z.num) (z.sv (ab++[k])) (.int z.bh.length) per):=
  co false (i4 (t:=true) (j0 (dr rfl rfl aR))) rfl
 have Fo:=uu (x:=ab.map au) (y:=[au k]) (by refine B (List.length_map _) ?_;unfold a4;simp;exact TG bz)
 cases z with
 |leaf cX q par=>
  rcases aB with rfl|⟨x,y,rfl⟩<;>
  exact aO (de (dr rfl (bM rfl rfl (bM rfl rfl (bM (dC rfl rfl rfl rfl Fo) rfl rfl))) aY) rfl) (aO (de (mV true rfl rfl) rfl) (aO ar rfl))
 |node cX par cnt kids=>
  refine cm hc ?_;clear hc;intro hc _
  subst hc
  rcases aB with rfl|⟨x,y,rfl⟩<;>
  exact aO (de (dr rfl (bM rfl rfl (bM rfl rfl (bM (dC rfl rfl rfl rfl Fo) rfl rfl))) aY) rfl) (aO (de (mV false rfl (d0 rfl rfl rfl rfl rfl (la (m:=m+2) aG (v:=.int (af.fS kids).length) (by cases par<;>rfl) (.hI rfl)))) rfl) (aO ar rfl))
theorem Lr {sp kid below:H} {left c:Int} (h:left<c):cR (p9 b CQ m n) (pJ.drop 3) (jX t u sp left kid below (.int c) per)=some (.ret (.U (.aF [below,.int left])),jX t u sp left kid below (.int c) per)\/iC below=false:=by
 cases ah:iC below with
 |false=>exact .inr rfl
 |true=>exact .inl (cw (co true (cO rfl rfl rfl rfl (oV (decide_eq_true h)) rfl) (cw (dE rfl rfl))))
theorem UW {sp kid below:H} {left c:Int} (h:¬left<c):cR (p9 b CQ m n) (pJ.drop 3) (jX t u sp left kid below (.int c) per)=some (.next,jX t u sp (left-c) kid below (.int c) per):=
 aO (co false (cO rfl rfl rfl rfl (oV (decide_eq_false h)) rfl) rfl) (aO (de rfl rfl) rfl)
end
end Mine
end
section
open PySem
namespace Mine
noncomputable def Et (J:Scope) (f:Str):Bool:=decide (J.names.lookup f=some .globalImplicit)&&(!(["isinstance","min"]:List Str).contains f&&ml.contains f)
theorem Fk {z:af} {ab:List Int}:∀{l:List af},z∈l->(z.ai ab).length<=(af.bD ab l).length/\∀q∈z.ai ab,q∈af.bD ab l
 |x::r,h=>by
  (rw [af.bD];refine B List.length_append ?_)
  rcases List.mem_cons.mp h with rfl|h
  ·exact⟨by exact Cr,fun q aA=>List.mem_append_left _ aA⟩
  ·have:=Fk (ab:=ab) h
   exact⟨by omega,fun q aA=>List.mem_append_right _ (this.2 q aA)⟩
theorem FZ {z:af}:∀{l:List af},af.pq l->z∈l->z.oT
 |x::r,h,hz=>by
  rcases List.mem_cons.mp hz with rfl|hz
  ·exact h.1
  ·exact FZ h.2 hz
section
variable{b:Bool} {C CQ:ct} {n:Nat} {J aW:Scope} {fs fs₁ fs₂ fs₃ hm fs':X} {R:bk} {o:Option (bE×X)} {p:Pos} {m:Nat} {t u:Nat} {per:List H} {tab bJ:List (al×H)}
theorem fe {f:Str} {e:Expr} {q:Pos} {r r':aV} {v:H} (h:Et J f=true) (aX:(aJ b C CQ n J).a9 e fs=some (r,fs₁)) (hd:fs₁.cE r=some v) (aC:gB f v=some r'):(aJ b C CQ (n+1) J).a9 (.Call (.Name f p) [e] [] q) fs=some (r',fs₁):=by
 unfold Et at h
 simp only [Bool.and_eq_true,decide_eq_true_eq,Bool.not_eq_true'] at h
 refine eg h ?_;clear h;intro aL M O
 have iL:∀g∈(["isinstance","min"]:List Str),f≠g:=fun g bi e=>by
  subst e
  have:=List.contains_iff_mem.mpr bi
  replace this:=M▸this;cases this
 exact k9 aL (iL _ (by simp)) (iL _ (by simp)) O aX hd aC
noncomputable def Tq (t u:Nat) (sp:H) (left:Int) (per:List H):X:=⟨[("shelf",.U (bB t u)),("spot",.U sp),("left",.U (.int left))],per⟩
theorem XU {z:af} {ab:List Int}:iC (z.sv ab)=true:=by cases z<;>rfl
theorem Fe {k:Int} {hd:cF} {ab:List Int} (aG:per[t]? =some (.V tab)) (bz:ab.length<900):∀{l:List af} {left:Nat} {fs:X},(fs=Tq t u (bS k hd (ab.map au) [] false) left per\/∃x y z,fs=jX t u (bS k hd (ab.map au) [] false) left x y z per)->
  g0 tab (af.bD (ab++[k]) l)->af.pq l->left<(af.fS l).length->
  ∃z io fs',f4 (p9 b CQ m n) (bN (aI 36)) "kid" pJ (l.map fun z=>au z.num) fs=some (.ret (.U (.aF [z.sv (ab++[k]),.int (io:Nat)])),fs')/\fs'.per=per/\z∈l/\io<z.bh.length/\z.bh[io]? =(af.fS l)[left]?
 |[],left,fs,_,_,_,aq=>by cases aq
 |z::l,left,fs,aB,aR,hc,aq=>by
  have P2:g0 tab (z.ai (ab++[k])):=fun q aA=>aR q (List.mem_append_left _ aA)
  have qE:g0 tab (af.bD (ab++[k]) l):=fun q aA=>aR q (List.mem_append_right _ aA)
  have d3:∃fs₁,eQ (bN (aI 36)) "kid" (.U (au z.num)) fs=some fs₁/\(fs₁=G0 t u (bS k hd (ab.map au) [] false) left (au z.num) per\/∃x y,fs₁=jX t u (bS k hd (ab.map au) [] false) left (au z.num) x y per):=by
   rcases aB with rfl|⟨x,y,w,rfl⟩
   ·exact⟨_,rfl,.inl rfl⟩
   ·exact⟨_,rfl,.inr ⟨y,w,rfl⟩⟩
  refine ba d3 ?_;clear d3;intro fs₁ ak ar
  have bP:=XG (b:=b) (CQ:=CQ) (n:=n) (m:=m) ar aG P2 hc.1 bz
  rw [af.fS] at aq|-
  by_cases h:left<z.bh.length
  ·have cY:=(Lr (b:=b) (CQ:=CQ) (n:=n) (m:=m) (t:=t) (u:=u) (per:=per) (sp:=bS k hd (ab.map au) [] false) (kid:=au z.num) (below:=z.sv (ab++[k])) (left:=left) (c:=z.bh.length) (by exact vu h)).resolve_right (by refine B XU ?_;decide)
   exact⟨z,left,_,zo ak (bP.trans cY),rfl,List.mem_cons_self,h,by(refine B (List.getElem?_append_left h) ?_;rfl)⟩
  ·have cY:=UW (b:=b) (CQ:=CQ) (n:=n) (m:=m) (t:=t) (u:=u) (per:=per) (sp:=bS k hd (ab.map au) [] false) (kid:=au z.num) (below:=z.sv (ab++[k])) (left:=left) (c:=z.bh.length) (by exact yy h)
   replace aq:=List.length_append▸aq
   refine t3 (Fe aG bz (l:=l) (left:=left-z.bh.length) (fs:=jX t u (bS k hd (ab.map au) [] false) ((left:Int)-z.bh.length) (au z.num) (z.sv (ab++[k])) (.int z.bh.length) per) (.inr ⟨_,_,_,by(refine B (Int.ofNat_sub (by exact u5 h)) ?_;rfl)⟩) qE hc.2 (by exact Iu h aq)) ?_;intro QQ io fs' bH b8 c9 fo hp
   exact⟨QQ,io,fs',fL ak (bP.trans cY) bH,b8,List.mem_cons_of_mem _ c9,fo,by(refine B hp ?_;refine B (List.getElem?_append_right (by exact u5 h)) ?_;rfl)⟩
theorem XR {k:Int} {par cnt:Option Int} {kids:List af} {ab:List Int} {left:Nat} (aG:per[t]? =some (.V tab)) (bz:ab.length<900) (aR:g0 tab (af.bD (ab++[k]) kids)) (hc:af.pq kids) (aq:left<(af.fS kids).length):
  ∃z io,aH b (m+5) "kid_with" [bB t u,af.sv ab (.node k par cnt kids),.int left] per=some (.ret (.U (.aF [z.sv (ab++[k]),.int (io:Nat)])),per)/\z∈kids/\io<z.bh.length/\z.bh[io]? =(af.fS kids)[left]? :=by
 refine dG (Fe (b:=b) (CQ:=aH false (m+4)) (m:=m) (n:=19) (u:=u) (hd:=dY par cnt (.inr (kids.map af.num))) aG bz (.inl rfl) aR hc aq) ?_;intro z io fs' bH b8 c9
 refine⟨z,io,c7 J1 ?_,c9⟩
 have ag:=qA (b:=b) (m:=m+1) (u:=u) (hd:=dY par cnt (.inr (kids.map af.num))) (v:=.am ((kids.map af.num).map au)) (l:=(kids.map af.num).map au) aG rfl (.hI rfl)
 replace ag:=List.map_map▸ag
 apply dq rfl
 ·exact cw (gT (g4 rfl (dt (dr rfl rfl ag) rfl)) bH)
 ·exact b8
noncomputable def uD (t u:Nat) (a:Int) (sp:H) (left:Int) (per:List H):X:=⟨[("shelf",.U (bB t u)),("at",.U (.int a)),("spot",.U sp),("left",.U (.int left))],per⟩
theorem W2 {l:List H} (h:l.length<=a4):gB "len" (.aF l)=some (.U (.int l.length)):=wf rfl h
theorem Lp {l:cF} (h:l.length<=a4):gB "len" (.V l)=some (.U (.int l.length)):=wf rfl h
theorem tR {x y:Int} {z:Bool} (h:decide (y<x)=z):eK .Gt (.int x) (.int y)=some z:=by
 show some (decide (y<x))=_;(refine B h ?_;rfl)
theorem OD (aG:per[t]? =some (.V tab)) (vX:tab.length<900) {a:Int}:(∀x:af,∀ab (left fuel:Nat),g0 tab (x.ai ab)->x.oT->left<x.bh.length->ab.length+(x.ai ab).length<=tab.length->(x.ai ab).length<=fuel->
  ∃k q par ab' dc,gN (aJ b (aH b (m+5)) CQ (n+20) (bN (aI 35))) (lq (cc (aI 35) 3)) (d5 (cc (aI 35) 3)) fuel (uD t u a (x.sv ab) left per)=some (.next,uD t u a (af.sv ab' (.leaf k q par)) dc per)/\x.bh[left]? =some (k,q,par))/\
  ∀l:List af,∀x∈l,∀ab (left fuel:Nat),g0 tab (x.ai ab)->x.oT->left<x.bh.length->ab.length+(x.ai ab).length<=tab.length->(x.ai ab).length<=fuel->
  ∃k q par ab' dc,gN (aJ b (aH b (m+5)) CQ (n+20) (bN (aI 35))) (lq (cc (aI 35) 3)) (d5 (cc (aI 35) 3)) fuel (uD t u a (x.sv ab) left per)=some (.next,uD t u a (af.sv ab' (.leaf k q par)) dc per)/\x.bh[left]? =some (k,q,par):=by
 apply af.all
 ·intro k q par ab left fuel aR hc aq hd aB
  rw [af.ai] at aB
  obtain⟨f,rfl⟩:∃f,fuel=f+1:=⟨fuel-1,by simp at aB;exact VA aB⟩
  rw [af.bh] at aq|-
  have:left=0:=by simpa using aq
  subst this
  exact⟨k,q,par,ab,_,w_end rfl,rfl⟩
 ·intro k par cnt kids ih ab left fuel aR hc aq hd aB
  rw [af.ai] at aB hd aR
  simp only [List.length_cons] at aB hd
  obtain⟨f,rfl⟩:∃f,fuel=f+1:=⟨fuel-1,by exact OI aB⟩
  rw [af.bh] at aq|-
  have qE:g0 tab (af.bD (ab++[k]) kids):=fun q aA=>aR q (List.mem_cons_of_mem _ aA)
  refine gn (XR (b:=b) (m:=m) (u:=u) (par:=par) (cnt:=cnt) aG (by exact S1 vX hd) qE hc.2 aq) ?_;intro z io ak ar bP cY
  have hz:=Fk (ab:=ab++[k]) ar
  have nZ:g0 tab (z.ai (ab++[k])):=fun q aA=>qE q (hz.2 q aA)
  have TP:=FZ hc.2 ar
  have m7:=hz.1
  refine xp (ih z ar (ab++[k]) io f nZ TP bP (by simp;exact R2 hd m7) (by exact Ob aB m7)) ?_;intro cX cI y9 ab' dc bH b8
  refine⟨cX,cI,y9,ab',dc,oq (i4 (t:=false) rfl) ?_ bH,by(refine bt cY ?_;refine B b8 ?_;rfl)⟩
  refine aO (co false (cO (fe rfl rfl rfl (W2 (l:=ab.map au) (by refine B (List.length_map _) ?_;unfold a4;exact Na vX hd))) (fe rfl rfl aG (Lp (by unfold a4;exact jR vX))) rfl rfl (tR (decide_eq_false (by refine B (List.length_map _) ?_;exact Uw hd))) rfl) rfl) ?_
  exact aO (l3 (vs:=[z.sv (ab++[k]),.int (io:Nat)]) rfl (dr rfl rfl ak) (Nat.le_of_ble_eq_true rfl) rfl) rfl
 ·intro x ae;cases ae
 ·intro x r M O y aQ
  rcases List.mem_cons.mp aQ with rfl|aQ
  ·exact M
  ·exact O y aQ
end
end Mine
end
section
open PySem
namespace Mine
noncomputable def under:List bg->Int->Nat
 |[],_=>0
 |q::r,k=>(if q.pg then q.ab.count k else 0)+under r k
theorem tz {k:Int}:∀{A ap:List bg},under (A++ap) k=under A k+under ap k
 |[],ap=>by show under ap k=0+under ap k;exact Ki
 |q::A,ap=>by
  show _+under (A++ap) k=_+under A k+under ap k
  refine B tz ?_;exact Rg
theorem pA {A ap:List bg}:cA (A++ap)=cA A++cA ap:=List.map_append
theorem yA {k:Int}:(∀x:af,∀ab,k∉cA (x.ai ab)->under (x.ai ab) k=x.bh.length*ab.count k)/\∀l:List af,∀ab,k∉cA (af.bD ab l)->under (af.bD ab l) k=(af.fS l).length*ab.count k:=by
 apply af.all
 ·intro j p par ab h
  show ab.count k+0=1*_
  exact KN
 ·intro j par cnt kids ih ab h
  rw [af.ai] at h|-
  refine cm (not_or.mp (fun q=>h (List.mem_cons.mpr q))) ?_;intro M O
  show 0+under (af.bD (ab++[j]) kids) k=_
  (refine B (ih _ O) ?_;refine B List.count_append ?_;refine B List.count_singleton ?_;rw [af.bh])
  rw [if_neg (by simpa using fun e=>M e.symm),Nat.add_zero,Nat.zero_add]
 ·intro ab h;show 0=0*_;exact H1
 ·intro x r M O ab h
  (rw [af.bD] at h;replace h:=pA▸h)
  refine cm (not_or.mp (fun q=>h (List.mem_append.mpr q))) ?_;intro bH b8
  (rw [af.bD];refine B tz ?_;refine B (M _ bH) ?_;refine B (O _ b8) ?_;rw [af.fS];refine B List.length_append ?_;refine B (Nat.add_mul _ _ _) ?_;rfl)
theorem Qf:(∀x:af,∀ab,(cA (x.ai ab)).Nodup->(∀j∈cA (x.ai ab),j∉ab)->(∀q∈x.ai ab,q.pg=false->q.cnt=some (under (x.ai ab) q.k:Int))->x.oT)/\
  ∀l:List af,∀ab,(cA (af.bD ab l)).Nodup->(∀j∈cA (af.bD ab l),j∉ab)->(∀q∈af.bD ab l,q.pg=false->q.cnt=some (under (af.bD ab l) q.k:Int))->af.pq l:=by
 apply af.all
 ·intros;trivial
 ·intro k par cnt kids ih ab M O Y
  rw [af.ai] at M O Y
  refine cm (List.nodup_cons.mp M) ?_;intro bH b8
  have e:∀j,under ((⟨k,par,cnt,.inr (kids.map af.num),ab⟩:bg)::af.bD (ab++[k]) kids) j=under (af.bD (ab++[k]) kids) j:=fun j=>by
   show 0+_=_;exact Bl
  refine⟨?_,ih (ab++[k]) b8 (fun j bF q=> ?_) fun q aA an=>by(refine B (Y q (List.mem_cons_of_mem _ aA) an) ?_;refine B (e _) ?_;rfl)⟩
  ·have aC:cnt=_:=Y _ List.mem_cons_self rfl
   dsimp only at aC
   (refine B aC ?_;refine B (e _) ?_;refine B (yA.2 kids _ bH) ?_;refine B List.count_append ?_;refine B List.count_singleton ?_;refine B (List.count_eq_zero.mpr (O k List.mem_cons_self)) ?_)
   simp
  ·rcases List.mem_append.mp q with q|q
   ·exact O j (List.mem_cons_of_mem _ bF) q
   ·rw [List.mem_singleton] at q
    subst q
    exact bH bF
 ·intros;trivial
 ·intro x r M O ab bH b8 c9
  rw [af.bD] at bH b8 c9
  rw [pA] at bH b8
  refine eg (List.nodup_append.mp bH) ?_;intro g7 jo hf
  have z:∀{L:List bg} {q:bg},q∈L->q.k∈cA L:=fun aA=>List.mem_map_of_mem aA
  refine⟨M ab g7 (fun j bF=>b8 j (List.mem_append_left _ bF)) fun q aA an=> ?_,O ab jo (fun j bF=>b8 j (List.mem_append_right _ bF)) fun q aA an=> ?_⟩
  ·(refine B (c9 q (List.mem_append_left _ aA) an) ?_;refine B tz ?_;refine B (yA.2 r ab (fun h=>hf _ (z aA) _ h rfl)) ?_;refine B (List.count_eq_zero.mpr (b8 _ (List.mem_append_left _ (z aA)))) ?_)
   simp
  ·(refine B (c9 q (List.mem_append_right _ aA) an) ?_;refine B tz ?_;refine B (yA.1 x ab (fun h=>hf _ h _ (z aA) rfl)) ?_;refine B (List.count_eq_zero.mpr (b8 _ (List.mem_append_right _ (z aA)))) ?_)
   simp
theorem BC {k:Int}:∀{ab:List Int} {d:cF} {c:Int},bb (.int k) d=some (.int c)->bb (.int k) (ab.foldl gy d)=some (.int (c+(ab.count k:Nat)))
 |[],d,c,h=>by simpa using h
 |j::ab,d,c,h=>by
  (refine B List.foldl_cons ?_;refine B List.count_cons ?_)
  have e:bb (.int k) (gy d j)=some (.int (if j=k then c+1 else c)):=by
   unfold gy
   by_cases bF:j=k
   ·subst bF;refine B h ?_;dsimp only [kz,kL,kB,kA,kF,kJ,kR,kM];(refine B gW ?_;refine B (if_pos rfl) ?_;refine B (if_pos rfl) ?_;rfl)
   ·refine B (if_neg bF) ?_
    split
    ·(refine B gW ?_;refine B (if_neg (fun e=>bF (by injection e with e;exact e.symm))) ?_;refine B h ?_;rfl)
    ·exact h
  refine B (BC e) ?_
  by_cases bF:j=k
  ·subst bF;simp;exact S4
  ·have:(j==k)=false:=by simpa using bF
   (refine B (if_neg bF) ?_;refine B this ?_);simp
theorem xL {k:Int}:∀{L:List bg} {d:cF} {c:Int},bb (.int k) d=some (.int c)->bb (.int k) ((L.map bg.sp).foldl iS d)=some (.int (c+(under L k:Nat)))
 |[],d,c,h=>by show _=some (H.int (c+((0:Nat):Int)));simpa using h
 |q::L,d,c,h=>by
  (refine B List.map_cons ?_;refine B List.foldl_cons ?_)
  have e:bb (.int k) (iS d q.sp)=some (.int (c+(if q.pg then q.ab.count k else 0:Nat))):=by
   unfold iS
   show bb _ (if q.pg then q.ab.foldl gy d else d)=_
   cases q.pg
   ·simpa using h
   ·exact BC h
  refine B (xL e) ?_
  show _=some (H.int (c+((_+under L k:Nat):Int)))
  congr 2
  push_cast
  exact Hu
theorem E5:∀{L:List bg} {d:cF} {j:Int},j∉cA L->bb (.int j) ((L.map bg.sp).foldl he d)=bb (.int j) d
 |[],d,j,_=>rfl
 |q::L,d,j,h=>by
  refine cm (not_or.mp (fun z=>h (List.mem_cons.mpr z))) ?_;intro M O
  (refine B List.map_cons ?_;refine B List.foldl_cons ?_;refine B (E5 O) ?_)
  unfold he
  (refine B gW ?_;refine B (if_neg (fun e=>M (by injection e))) ?_;rfl)
theorem vk {L:List bg}:∀{d:cF},(cA L).Nodup->∀q∈L,bb (.int q.k) ((L.map bg.sp).foldl he d)=some (.int (if q.pg then 1 else 0)):=by
 induction L with
 |nil=>intro d _ q aA;exact(List.not_mem_nil aA).elim
 |cons cI L ih=>
  intro d aE q aA
  refine cm (List.nodup_cons.mp aE) ?_;intro M O
  (refine B List.map_cons ?_;refine B List.foldl_cons ?_)
  rcases List.mem_cons.mp aA with rfl|aA
  ·refine B (E5 M) ?_
   unfold he
   refine B gW ?_
   exact if_pos rfl
  ·exact ih O q aA
end Mine
end
section
open PySem
namespace Mine
noncomputable def bg.hn (g:Int->Int) (q:bg):bg:=⟨q.k,q.ab.getLast?,if q.pg then none else some (g q.k),q.c,q.ab⟩
mutual
noncomputable def af.hn (g:Int->Int) (par:Option Int):af->af
 |.leaf k p _=>.leaf k p par
 |.node k _ _ kids=>.node k par (some (g k)) (af.qq g (some k) kids)
noncomputable def af.qq (g:Int->Int) (par:Option Int):List af->List af
 |[]=>[]
 |x::r=>x.hn g par::af.qq g par r
end
theorem Cf {g:Int->Int} {par:Option Int} {x:af}:(x.hn g par).num=x.num:=by cases x<;>rfl
theorem Gj {g:Int->Int} {par:Option Int}:∀{l:List af},(af.qq g par l).map af.num=l.map af.num
 |[]=>rfl
 |x::r=>by(rw [af.qq];refine B List.map_cons ?_;refine B List.map_cons ?_;refine B Gj ?_;refine B Cf ?_;rfl)
theorem RU {g:Int->Int}:(∀x:af,∀ab,(x.hn g ab.getLast?).ai ab=(x.ai ab).map (bg.hn g))/\∀l:List af,∀ab,af.bD ab (af.qq g ab.getLast? l)=(af.bD ab l).map (bg.hn g):=by
 apply af.all
 ·intro k p par ab;rfl
 ·intro k par cnt kids ih ab
  have:=ih (ab++[k])
  replace this:=List.getLast?_concat▸this
  (rw [af.hn,af.ai];refine B this ?_;refine B Gj ?_);rfl
 ·intro ab;rfl
 ·intro x r M O ab
  (rw [af.qq,af.bD];refine B (M _) ?_;refine B (O _) ?_;rw [af.bD];refine B List.map_append ?_;rfl)
noncomputable def wk (L:List bg):Prop:=∀q∈L,q.par=q.ab.getLast? \/(q.par=none/\q.cnt=none)
theorem Kg {s:cQ} {x:Option Int} {c:Int}:hS s x c=(if x=s.ab.getLast? then([]:cF) else [(.str "Parent",(s.ab.getLast?.map au).getD .none)])++(if ll s c then [] else [(.str "Count",.int c)]):=by
 unfold hS j5
 cases s.ab.getLast? with
 |none=>by_cases h:x=none<;>simp [h]
 |some j=>by_cases h:x=some j<;>simp [h]
theorem OM:(∀x:af,∀ab,∀q∈x.ai ab,q.pg=true->q.cnt=none)/\∀l:List af,∀ab,∀q∈af.bD ab l,q.pg=true->q.cnt=none:=by
 apply af.all
 ·intro k p par ab q aA _
  rw [af.ai,List.mem_singleton] at aA
  subst aA;rfl
 ·intro k par cnt kids ih ab q aA an
  rw [af.ai] at aA
  rcases List.mem_cons.mp aA with rfl|aA
  ·cases an
  ·exact ih _ q aA an
 ·intro ab q aA;cases aA
 ·intro x r M O ab q aA
  rcases List.mem_append.mp aA with aA|aA
  ·exact M _ q aA
  ·exact O _ q aA
theorem TO {par cnt y:Option Int} {e:da⊕List Int} {z:Bool} {c:Int} (h:par=y\/(par=none/\cnt=none)) (hc:e.isLeft=true->cnt=none) (hz:z=match e,cnt with|.inl _,_=>true|.inr _,some d=>d==c|.inr _,none=>false):
  hP (dY par cnt e) ((if par=y then([]:cF) else [(.str "Parent",(y.map au).getD .none)])++(if z then [] else [(.str "Count",.int c)]))=dY y (if e.isLeft then none else some c) e:=by
 subst hz
 cases e with
 |inl p=>
  have hc:cnt=none:=hc rfl
  subst hc
  obtain⟨n,w,kc⟩:=p
  dsimp only [kz,kL,kB,kA,kF,kJ,kR,kM]
  (refine B (if_pos rfl) ?_;refine B (List.append_nil _) ?_)
  by_cases an:par=y
  ·(refine B (if_pos an) ?_;refine B an ?_);rfl
  ·refine B (if_neg an) ?_
   refine cm (h.resolve_left an) ?_;intro u;subst u;intro _
   cases y with
   |none=>exact absurd rfl an
   |some j=>cases kc<;>rfl
 |inr l=>
  by_cases an:par=y
  ·refine B (if_pos an) ?_
   subst an
   cases cnt with
   |none=>cases par<;>rfl
   |some d=>
    dsimp only [kz,kL,kB,kA,kF,kJ,kR,kM]
    by_cases hd:d=c
    ·(refine B (if_pos (by simpa using hd)) ?_;refine B hd ?_);rfl
    ·refine B (if_neg (by simpa using hd)) ?_;cases par<;>rfl
  ·refine B (if_neg an) ?_
   refine cm (h.resolve_left an) ?_;intro u;subst u;intro u;subst u
   cases y with
   |none=>exact absurd rfl an
   |some j=>rfl
theorem K6 {q:bg} {g:Int->Int} {c:Int} (h:q.par=q.ab.getLast? \/(q.par=none/\q.cnt=none)) (hc:q.pg=true->q.cnt=none) (bi:q.pg=false->c=g q.k):hP q.hd (hS q.sp q.par c)=(q.hn g).hd:=by
 obtain⟨k,par,cnt,e,ab⟩:=q
 refine B Kg ?_
 refine(TO h hc ?_).trans ?_
 ·cases e with
  |inl p=>rfl
  |inr l=>cases par<;>cases cnt<;>rfl
 ·cases e with
  |inl p=>rfl
  |inr l=>
   have bi:c=g k:=bi rfl
   subst bi;rfl
theorem ws {k:al} {v:H}:∀{l:cF},(bb k l).isSome=true->(cU k v l).map (·.1)=l.map (·.1)
 |[],h=>by cases h
 |(y,w)::r,h=>by
  unfold bb at h
  unfold cU
  by_cases e:k=y
  ·refine B (if_pos e) ?_;rfl
  ·rw [if_neg e] at h|-
   (refine B List.map_cons ?_;refine B (ws h) ?_);rfl
theorem KG {tab:cF} {s:cQ} {x:Option Int} {c j:Int} (h:bb (.int s.k) tab=some (.aF [.int 0,.V s.hd])):bb (.int j) (jq tab s x c)=(if j=s.k then some (.aF [.int 0,.V (hP s.hd (hS s x c))]) else bb (.int j) tab)/\(jq tab s x c).map (·.1)=tab.map (·.1):=by
 unfold jq
 cases hc:hS s x c with
 |nil=>
  (refine B List.isEmpty_nil ?_;refine B (if_pos rfl) ?_)
  refine⟨?_,rfl⟩
  by_cases e:j=s.k
  ·(refine B (if_pos e) ?_;refine B e ?_;refine B h ?_);rfl
  ·(refine B (if_neg e) ?_;rfl)
 |cons a l=>
  (refine B List.isEmpty_cons ?_;refine B (if_neg (by decide)) ?_;refine B gW ?_)
  refine⟨?_,ws (by refine B h ?_;rfl)⟩
  by_cases e:j=s.k
  ·(refine B (if_pos (by rw [e])) ?_;refine B (if_pos e) ?_;rfl)
  ·(refine B (if_neg (fun q=>e (by injection q))) ?_;refine B (if_neg e) ?_;rfl)
theorem Gn {c:bg->Int} {g:Int->Int}:∀{L:List bg} {tab:cF},(cA L).Nodup->g0 tab L->(∀q∈L,hP q.hd (hS q.sp q.par (c q))=(q.hn g).hd)->
  g0 (qm tab (L.map fun q=>(q.sp,q.par,c q))) (L.map (bg.hn g))/\(∀j,j∉cA L->bb (.int j) (qm tab (L.map fun q=>(q.sp,q.par,c q)))=bb (.int j) tab)/\(qm tab (L.map fun q=>(q.sp,q.par,c q))).map (·.1)=tab.map (·.1)
 |[],tab,_,_,_=>⟨fun q (aA:q∈[])=>(List.not_mem_nil aA).elim,fun _ _=>rfl,rfl⟩
 |q::L,tab,aE,aR,aG=>by
  refine cm (List.nodup_cons.mp aE) ?_;intro g7 jo
  have aA:=aR q List.mem_cons_self
  have e:=fun j=>KG (x:=q.par) (c:=c q) (j:=j) (s:=q.sp) aA
  have qE:g0 (jq tab q.sp q.par (c q)) L:=fun r aP=>by
   (refine B ((e r.k).1) ?_;refine B (if_neg (fun z=>g7 (by have:r.k=q.k:=z;rw [<-this];exact List.mem_map_of_mem aP))) ?_)
   exact aR r (List.mem_cons_of_mem _ aP)
  refine eg (Gn (c:=c) (g:=g) jo qE fun r aP=>aG r (List.mem_cons_of_mem _ aP)) ?_;intro bH b8 c9
  refine⟨fun r aP=> ?_,fun j bF=> ?_,c9.trans (e 0).2⟩
  ·rcases List.mem_cons.mp aP with rfl|aP
   ·refine(b8 q.k g7).trans ?_
    refine((e q.k).1.trans (if_pos rfl)).trans ?_
    show some (H.aF [.int 0,.V (hP q.hd (hS q.sp q.par (c q)))])=_
    (refine B (aG q List.mem_cons_self) ?_;rfl)
   ·exact bH r aP
  ·refine cm (not_or.mp (fun z=>bF (List.mem_cons.mpr z))) ?_;intro M O
   exact(b8 j O).trans ((e j).1.trans (if_neg M))
end Mine
end
section
open PySem
namespace Mine
noncomputable def cj (L:List bg):List (Int×da):=L.filterMap fun q=>match q.c with
 |.inl p=>some (q.k,p)
 |.inr _=>none
theorem OA {g:Int->Int} {L:List bg}:cj (L.map (bg.hn g))=cj L:=by unfold cj;refine B List.filterMap_map ?_;rfl
theorem vT {g:Int->Int} {L:List bg}:cA (L.map (bg.hn g))=cA L:=by unfold cA;refine B List.map_map ?_;rfl
theorem Ft {g:Int->Int} {k:Int}:∀{L:List bg},under (L.map (bg.hn g)) k=under L k
 |[]=>rfl
 |q::L=>by
  show _+under (L.map (bg.hn g)) k=_+under L k
  refine B Ft ?_;rfl
theorem pS:(∀x:af,∀ab,(x.bh.map fun e=>(e.1,e.2.1))=cj (x.ai ab))/\∀l:List af,∀ab,((af.fS l).map fun e=>(e.1,e.2.1))=cj (af.bD ab l):=by
 apply af.all
 ·intros;rfl
 ·intro k par cnt kids ih ab
  exact ih (ab++[k])
 ·intros;rfl
 ·intro x r M O ab
  (rw [af.fS,af.bD];refine B List.map_append ?_;refine B (M ab) ?_;refine B (O ab) ?_);unfold cj;(refine B List.filterMap_append ?_;rfl)
noncomputable def cB (L:List bg):Prop:=∀q∈L,q.par=q.ab.getLast? /\(q.pg=false->q.cnt=some (under L q.k:Int))
theorem BM:∀{N:Nat} {l:List Int},l.Nodup->(∀x∈l,1<=x/\x<=N)->l.length<=N
 |0,[],_,_=>Nat.le_refl _
 |0,x::l,_,h=>by have:=h x List.mem_cons_self;exact WW this
 |N+1,l,aE,h=>by
  have M:=BM (N:=N) (aE.erase ((N:Int)+1)) fun x ae=>by
   have O:=h x (List.mem_of_mem_erase ae)
   have Y:x≠(N:Int)+1:=fun e=>by
    subst e
    exact(List.Nodup.mem_erase_iff aE).mp ae|>.1 rfl
   exact Me O Y
  have:=List.length_erase (a:=(N:Int)+1) (l:=l)
  replace M:=this▸M
  split at M<;>omega
theorem fU.at {tab:cF} {N:Nat} {j:Int} (h:fU tab N) (bi:(bb (.int j) tab).isSome=true):1<=j/\j<=N:=by
 have:al.int j∈tab.map (·.1):=Classical.byContradiction fun q=>by replace bi:=(zP q)▸bi;cases bi
 (replace this:=h▸this;rw [List.mem_map] at this)
 refine ba this ?_;clear this;intro i M O
 have M:=List.mem_range.mp M
 injection O with O
 exact Oz M O
structure eb (tab bJ:cF) (N:Nat) (a6:Int) (x:af):Prop where
 fY:fU tab N
 fx:N<300
 ins:g0 tab (x.ai [])
 ex:(cA (x.ai [])).Nodup
 node:∃k par cnt kids,x=.node k par cnt kids
 bJ:bJ=[(.str "Root",au a6)]
 jw:bb (.int a6) tab=some (.aF [.int 0,.V [(.str "Type",gG "Catalog"),(.str "Pages",au x.num)]])
 out:a6∉cA (x.ai [])
section
variable{tab bJ:cF} {N:Nat} {a6:Int} {x:af}
theorem eb.at (h:eb tab bJ N a6 x) {j:Int} (bF:j∈cA (x.ai [])):1<=j/\j<=N:=by
 refine ba (List.mem_map.mp bF) ?_;intro q aA u;subst u
 exact h.fY.at (by refine B (h.ins q aA) ?_;rfl)
theorem eb.len (h:eb tab bJ N a6 x):(x.ai []).length<=N:=by
 have:=BM h.ex fun j bF=>h.at bF
 unfold cA at this
 rwa [List.length_map] at this
theorem eb.iV (h:eb tab bJ N a6 x):kT tab bJ x.ic:=by
 refine⟨⟨a6,_,by refine B h.bJ ?_;rfl,h.jw,by refine B GB ?_;rfl⟩,?_,SO.1 x [] h.ins,?_,?_⟩
 ·refine jl h.node ?_;intro k par cnt kids u;subst u
  exact⟨_,_,_,rfl⟩
 ·refine B (EK.1 x []) ?_;exact h.ex
 ·refine B (EK.1 x []) ?_
  have M:=h.len
  have O:=h.fx
  unfold cA
  refine B (List.length_map _) ?_;exact KV M O
theorem Gh {q:bg} (h:q.par=q.ab.getLast? \/(q.par=none/\q.cnt=none)) (aq:q.ab.length<500) (bx:q.hd.length<500):nl q.sp q.par:=by
 obtain⟨k,par,cnt,e,ab⟩:=q
 refine⟨?_,fun z=> ?_,fun z=> ?_,bx,aq⟩
 ·cases e with
  |inl p=>obtain⟨n,w,kc⟩:=p;cases kc<;>cases par<;>rfl
  |inr l=>cases par<;>cases cnt<;>rfl
 ·have z:ab=[]:=z
  subst z
  rcases h with h|h
  ·exact h
  ·exact h.1
 ·cases e with
  |inl p=>cases z
  |inr l=>
   cases cnt with
   |none=>exact .inl (by cases par<;>rfl)
   |some d=>exact .inr ⟨d,by cases par<;>rfl⟩
theorem q1 {q:bg}:q.hd.length<10:=by
 obtain⟨k,par,cnt,e,ab⟩:=q
 cases e with
 |inl p=>obtain⟨n,w,kc⟩:=p;cases kc<;>cases par<;>exact Nat.le_of_ble_eq_true rfl
 |inr l=>cases par<;>cases cnt<;>exact Nat.le_of_ble_eq_true rfl
theorem BA (h:eb tab bJ N a6 x) (ea:wk (x.ai [])):∃c5 df,(∀{b m t u} {per:List H},per[t]? =some (.V tab)->per[u]? =some (.V bJ)->aH b (m+6) "settle" [bB t u] per=some (.ret (.U .none),per.set t (.V c5)))/\
  eb c5 bJ N a6 df/\cB (df.ai [])/\cj (df.ai [])=cj (x.ai [])/\cA (df.ai [])=cA (x.ai []):=by
 have bC:=h.len
 have fi:=h.fx
 have p6:(x.hn (fun k=>(under (x.ai []) k:Int)) none).ai []=_:=RU.1 x []
 have KI:∀q∈x.ai [],∀c,(q.pg=false->c=(under (x.ai []) q.k:Int))->hP q.hd (hS q.sp q.par c)=(q.hn fun k=>(under (x.ai []) k:Int)).hd:=fun q aA c hc=>K6 (ea q aA) (OM.1 x [] q aA) hc
 refine eg (Gn (c:=fun q=>(if q.pg then 1 else 0)+(under (x.ai []) q.k:Int)) (g:=fun k=>(under (x.ai []) k:Int)) h.ex h.ins fun q aA=>KI q aA _ fun z=>by refine B z ?_;simp) ?_;intro d3 dS fH
 refine⟨_,x.hn (fun k=>(under (x.ai []) k:Int)) none,fun{b m t u per} aG b2=> ?_,⟨?_,fi,by refine B p6 ?_;exact d3,by(refine B p6 ?_;refine B vT ?_);exact h.ex,?_,h.bJ,?_,by(refine B p6 ?_;refine B vT ?_);exact h.out⟩,?_,by(refine B p6 ?_;refine B OA ?_;rfl),by(refine B p6 ?_;refine B vT ?_;rfl)⟩
 ·refine Mr aG b2 h.iV ?_ ?_ ?_ ?_ ?_
  ·(refine B (uK.1 x []) ?_;refine B List.map_map ?_);rfl
  ·refine B (List.length_map _) ?_;exact A1 bC fi
  ·intro y aQ k ag
   rw [uK.1 x []] at aQ|-
   refine ba (List.mem_map.mp aQ) ?_;intro q aA u;subst u
   refine et (tm.1 x [] q aA) ?_;intro dW ak _ ar
   have ag:k∈q.ab:=ag
   (replace ag:=ak▸ag;replace ag:=(List.nil_append _)▸ag)
   refine ba (List.mem_map.mp (ar k ag)) ?_;intro cI mz u;subst u
   exact⟨_,vk h.ex cI mz⟩
  ·intro y aQ
   refine ba (List.mem_map.mp aQ) ?_;intro q aA u;subst u
   refine et (tm.1 x [] q aA) ?_;intro dW ak bP _
   have aq:=q1 (q:=q)
   refine⟨Gh (ea q aA) (by(refine B ak ?_;refine B (List.nil_append _) ?_);exact Ga bC fi bP) (by exact Dq aq),?_⟩
   refine B (uK.1 x []) ?_
   exact xL (vk h.ex q aA)
  ·(refine B (List.length_map _) ?_;refine B h.fY.len ?_);unfold a4;exact Nt bC fi
 ·unfold fU;refine B fH ?_;exact h.fY
 ·refine jl h.node ?_;intro k par cnt kids u;subst u
  exact⟨_,_,_,_,rfl⟩
 ·(refine B (dS a6 h.out) ?_;refine B Cf ?_);exact h.jw
 ·refine B p6 ?_
  intro q aA
  refine ba (List.mem_map.mp aA) ?_;intro cI mz u;subst u
  refine⟨rfl,fun z=> ?_⟩
  have z:cI.pg=false:=z
  refine B Ft ?_
  show(if cI.pg then none else some _)=_
  refine B z ?_;rfl
end
end Mine
end
section
open PySem
namespace Mine
theorem i8 {ab:List Int} {A ap:List af}:af.bD ab (A++ap)=af.bD ab A++af.bD ab ap:=by(refine B tc ?_;refine B tc ?_;refine B tc ?_;refine B List.flatMap_append ?_;rfl)
theorem I6 {x:af} {ab:List Int}:∃l,cA (x.ai ab)=x.num::l:=by cases x<;>exact⟨_,rfl⟩
theorem GI {ab:List Int} (l:List af):(l.map af.num).Sublist (cA (af.bD ab l)):=by
 induction l with
 |nil=>exact .slnil
 |cons x r ih=>
  refine bT (I6 (x:=x) (ab:=ab)) ?_;intro l e
  (rw [af.bD];refine B pA ?_;refine B e ?_)
  exact(ih.trans (List.sublist_append_right _ _)).cons_cons _
theorem yF:(∀x:af,∀ab,∀q∈x.ai ab,∀ks,q.c=.inr ks->ks.Sublist (cA (x.ai ab)))/\∀l:List af,∀ab,∀q∈af.bD ab l,∀ks,q.c=.inr ks->ks.Sublist (cA (af.bD ab l)):=by
 apply af.all
 ·intro k p par ab q aA ks h
  rw [af.ai,List.mem_singleton] at aA
  subst aA;cases h
 ·intro k par cnt kids ih ab q aA ks h
  rw [af.ai] at aA|-
  rcases List.mem_cons.mp aA with rfl|aA
  ·cases h
   exact(GI kids).cons _
  ·exact(ih _ q aA ks h).cons _
 ·intro ab q aA;cases aA
 ·intro x r M O ab q aA ks h
  rw [af.bD] at aA|-
  refine B pA ?_
  rcases List.mem_append.mp aA with aA|aA
  ·exact(M _ q aA ks h).trans (List.sublist_append_left _ _)
  ·exact(O _ q aA ks h).trans (List.sublist_append_right _ _)
theorem Rt {r:Int} (l:List Int):∀{j:Nat},l.Nodup->l[j]? =some r->oC r l=some j:=by
 induction l with
 |nil=>intro j _ h;cases h
 |cons k l ih=>
  intro j aE h
  refine cm (List.nodup_cons.mp aE) ?_;intro M O
  unfold oC
  cases j with
  |zero=>(refine B (if_pos (by injection h)) ?_;rfl)
  |succ j=>
   have h:l[j]? =some r:=h
   (refine B (if_neg (fun e=>M (by rw [e];exact List.mem_of_getElem? h))) ?_;refine B (ih O h) ?_);rfl
theorem jy {A ap:List bg}:cj (A++ap)=cj A++cj ap:=List.filterMap_append
theorem yo {A:List bg}:(A.filter bg.pg).length=(cj A).length:=by
 induction A with
 |nil=>rfl
 |cons q A ih=>
  obtain⟨k,par,cnt,e,ab⟩:=q
  cases e with
  |inl p=>exact congrArg (· +1) ih
  |inr l=>exact ih
theorem rf {l:List af} {ab:List Int}:(cj (af.bD ab l)).length=(af.fS l).length:=by(refine bt (pS.2 l ab) ?_;refine B (List.length_map _) ?_;rfl)
theorem LG (l:List af):∀{i:Nat},i<(af.fS l).length->∃pre z post nh,l=pre++z::post/\i=(af.fS pre).length+nh/\nh<z.bh.length:=by
 induction l with
 |nil=>intro i h;cases h
 |cons x r ih=>
  intro i h
  (rw [af.fS] at h;replace h:=List.length_append▸h)
  by_cases ae:i<x.bh.length
  ·exact⟨[],x,r,i,rfl,(Nat.zero_add _).symm,ae⟩
  ·refine sd (ih (i:=i-x.bh.length) (by exact LB h ae)) ?_;intro pre z post nh M O Y
   exact⟨x::pre,z,post,nh,by refine B M ?_;rfl,by(rw [af.fS];refine B List.length_append ?_);exact IY ae O,Y⟩
noncomputable def ov (L A ap C:List bg) (nq:bg) (ks:List Int) (j:Nat) (n:Int) (ab:List Int):Prop:=
 L=A++nq::(ap++C)/\∀nk p,∃df,df.num=n/\(∃k par cnt kids,df=af.node k par cnt kids)/\df.ai ab=A++{nq with c:=.inr (ks.take j++nk::ks.drop j)}::(ap++⟨nk,none,none,.inl p,nq.ab++[nq.k]⟩::C)
theorem yu {k:Int} {par cnt:Option Int} {pre post:List af} {ab:List Int}:ov (af.ai ab (.node k par cnt (pre++post))) [] (af.bD (ab++[k]) pre) (af.bD (ab++[k]) post) ⟨k,par,cnt,.inr ((pre++post).map af.num),ab⟩ ((pre++post).map af.num) pre.length k ab:=by
 refine⟨by(rw [af.ai];refine B i8 ?_);rfl,fun nk p=>⟨.node k par cnt (pre++.leaf nk p none::post),rfl,⟨_,_,_,_,rfl⟩,?_⟩⟩
 (rw [af.ai];refine B i8 ?_;refine bt List.map_take ?_;refine bt List.map_drop ?_;refine B List.take_left ?_;refine B List.drop_left ?_;refine B List.map_append ?_);rfl
theorem ov.up {z:af} {k:Int} {par cnt:Option Int} {pre post:List af} {ab:List Int} {A ap C:List bg} {nq:bg} {ks:List Int} {j:Nat} (h:ov (z.ai (ab++[k])) A ap C nq ks j z.num (ab++[k])):
  ov (af.ai ab (.node k par cnt (pre++z::post))) (⟨k,par,cnt,.inr ((pre++z::post).map af.num),ab⟩::(af.bD (ab++[k]) pre++A)) ap (C++af.bD (ab++[k]) post) nq ks j k ab:=by
 refine⟨?_,fun nk p=> ?_⟩
 ·(rw [af.ai];refine B i8 ?_;rw [af.bD];refine B h.1 ?_);simp
 ·refine et (h.2 nk p) ?_;intro df g7 jo hf
  refine⟨.node k par cnt (pre++df::post),rfl,⟨_,_,_,_,rfl⟩,?_⟩
  (rw [af.ai];refine B i8 ?_;rw [af.bD];refine B hf ?_;refine B List.map_append ?_;refine B List.map_append ?_;refine B List.map_cons ?_;refine B List.map_cons ?_;refine B g7 ?_);simp
theorem GL {pre:List af} {ab:List Int} {A ap:List bg} {h:bg} (an:h.pg=false):(cj (h::(af.bD ab pre++A)++ap)).length=(af.fS pre).length+(cj (A++ap)).length:=by
 have:cj (h::(af.bD ab pre++A)++ap)=cj (af.bD ab pre++(A++ap)):=by
  obtain⟨_,_,_,e,_⟩:=h
  cases e with
  |inl p=>cases an
  |inr l=>(refine B List.cons_append ?_;refine B (List.append_assoc _ _ _) ?_);rfl
 (refine B this ?_;refine B jy ?_;refine B List.length_append ?_;refine B rf ?_;rfl)
structure oH (x:af) (ab:List Int) (i:Nat) (A:List bg) (nq:bg) (ks:List Int) (j:Nat) (q:bg):Prop where
 c:nq.c=.inr ks
 k:ks[j]? =some q.k
 up:q.ab=nq.ab++[nq.k]
 pg:q.pg=true
 gp:((x.ai ab).filter bg.pg)[i]? =some q
 c1:∃ap C,(cj (A++ap)).length=i/\ov (x.ai ab) A ap C nq ks j x.num ab
 aR:∃ap C,(cj (A++ap)).length=i+1/\ov (x.ai ab) A ap C nq ks (j+1) x.num ab
noncomputable def Lf (x:af):Prop:=∃k par cnt kids,x=.node k par cnt kids
noncomputable def Cq (x:af):Prop:=∀ab i,i<x.bh.length->Lf x->∃A nq ks j q,oH x ab i A nq ks j q
theorem DI {k:Int} {par cnt:Option Int} {pre post:List af} {z:af} {ab:List Int} {i:Nat}:((af.ai ab (.node k par cnt (pre++z::post))).filter bg.pg)[(af.fS pre).length+i]? =((z.ai (ab++[k])++af.bD (ab++[k]) post).filter bg.pg)[i]? :=by
 show(List.filter bg.pg (af.bD (ab++[k]) (pre++z::post)))[_]? =_
 (refine B i8 ?_;refine B (List.filter_append _ _) ?_;refine B (List.getElem?_append_right (by rw [yo,rf];exact Nat.le_add_right _ _)) ?_;refine B yo ?_;refine B rf ?_;refine B (Nat.add_sub_cancel_left _ _) ?_);rfl
theorem oH.UJ {k:Int} {par cnt:Option Int} {pre post:List af} {z:af} {ab:List Int} {i:Nat} {A:List bg} {nq q:bg} {ks:List Int} {j:Nat} (h:oH z (ab++[k]) i A nq ks j q):
  oH (.node k par cnt (pre++z::post)) ab ((af.fS pre).length+i) (⟨k,par,cnt,.inr ((pre++z::post).map af.num),ab⟩::(af.bD (ab++[k]) pre++A)) nq ks j q where
 c:=h.c
 k:=h.k
 up:=h.up
 pg:=h.pg
 gp:=by(refine B DI ?_;refine B (List.filter_append _ _) ?_;refine B (List.getElem?_append_left (List.getElem?_eq_some_iff.mp h.gp).1) ?_);exact h.gp
 c1:=hq h.c1 fun ap C e f=>⟨ap,_,by(refine B (GL rfl) ?_;refine B e ?_;rfl),f.up⟩
 aR:=hq h.aR fun ap C e f=>⟨ap,_,by(refine B (GL rfl) ?_;refine B e ?_);rfl,f.up⟩
theorem oH.leaf {k m6:Int} {par cnt mT:Option Int} {lQ:da} {pre post:List af} {ab:List Int}:oH (.node k par cnt (pre++.leaf m6 lQ mT::post)) ab ((af.fS pre).length+0) [] ⟨k,par,cnt,.inr ((pre++.leaf m6 lQ mT::post).map af.num),ab⟩ ((pre++.leaf m6 lQ mT::post).map af.num) pre.length ⟨m6,mT,none,.inl lQ,ab++[k]⟩ where
 c:=rfl
 k:=by(refine B List.map_append ?_;refine B (List.getElem?_append_right (by simp)) ?_);simp;rfl
 up:=rfl
 pg:=rfl
 gp:=by refine B DI ?_;rfl
 c1:=⟨_,_,rf,yu⟩
 aR:=by
  have e:pre++af.leaf m6 lQ mT::post=(pre++[.leaf m6 lQ mT])++post:=by simp
  have:=yu (k:=k) (par:=par) (cnt:=cnt) (pre:=pre++[.leaf m6 lQ mT]) (post:=post) (ab:=ab)
  (replace this:=(Eq.symm e)▸this;replace this:=List.length_append▸this)
  refine⟨_,_,?_,this⟩
  (refine B (List.nil_append _) ?_;refine B i8 ?_;refine B jy ?_;refine B List.length_append ?_;refine B rf ?_);rfl
theorem Qd:(∀x:af,Cq x)/\∀l:List af,∀x∈l,Cq x:=by
 apply af.all
 ·intro k p par ab i _ h
  refine jl h ?_;intro _ _ _ _ h;cases h
 ·intro k par cnt kids ih ab i aR _
  refine sd (LG kids aR) ?_;intro pre z post nh u;subst u;intro u;subst u;intro Y
  cases z with
  |node cX y9 Xi Za=>exact r1 (ih _ (List.mem_append_right _ List.mem_cons_self) (ab++[k]) nh Y ⟨_,_,_,_,rfl⟩) fun A nq ks j q h=>⟨_,_,_,_,_,h.UJ⟩
  |leaf m6 lQ mT=>
   refine B (show nh=0 from Nat.lt_one_iff.mp Y) ?_
   exact⟨_,_,_,_,_,oH.leaf⟩
 ·intro x ae;cases ae
 ·intro x r M O y aQ
  rcases List.mem_cons.mp aQ with rfl|aQ
  ·exact M
  ·exact O y aQ
end Mine
end
section
open PySem
namespace Mine
section
variable{tab bJ:cF} {N:Nat} {a6:Int} {x:af}
theorem wj:dP [] x.ic=(x.ai []).map fun q=>q.sp.v:=by
 have:=yQ (x:=x.ic) (ab:=[])
 (replace this:=(uK.1 x [])▸this;replace this:=List.map_map▸this)
 exact this
theorem vr:el x.ic=((x.ai []).filter bg.pg).map fun q=>q.sp.v:=by
 unfold el
 (refine B wj ?_;refine B List.filter_map ?_);rfl
theorem v7:(el x.ic).length=(cj (x.ai [])).length:=by(refine B vr ?_;refine B (List.length_map _) ?_;refine B yo ?_;rfl)
structure PN (tab bJ:cF) (x:af) (a:Nat) (A ap C:List bg) (nq:bg) (ks:List Int) (j:Nat):Prop where
 c:nq.c=.inr ks
 le:j<=ks.length
 len:(cj (A++ap)).length=a
 ins:ov (x.ai []) A ap C nq ks j x.num []
 call:∀{b m t u} {per:List H},per[t]? =some (.V tab)->per[u]? =some (.V bJ)->aH b (m+6) "place_of" [bB t u,.int a] per=some (.ret (.U (.aF [nq.sp.v,.int j])),per)
theorem ER (h:eb tab bJ N a6 x) {a:Nat} (bz:a<=(cj (x.ai [])).length):∃A ap C nq ks j,PN tab bJ x a A ap C nq ks j:=by
 have bC:=h.len
 have fi:=h.fx
 by_cases aL:(cj (x.ai [])).length=0
 ·have Ro:a=0:=by exact Lz bz aL
  subst Ro
  refine jl h.node ?_;intro k par cnt kids u;subst u
  have ag:kids.length<=(af.bD ([]++[k]) kids).length:=by
   have:=(GI (ab:=[]++[k]) kids).length_le
   unfold cA at this
   rwa [List.length_map,List.length_map] at this
  have aR:=yu (k:=k) (par:=par) (cnt:=cnt) (pre:=kids) (post:=[]) (ab:=[])
  replace aR:=(List.append_nil _)▸aR
  refine⟨_,_,_,_,_,_,rfl,by simp,aL,aR,fun{b m t u per} aG b2=> ?_⟩
  have:=O9 (b:=b) (m:=m) aG b2 h.iV (List.eq_nil_of_length_eq_zero (by refine bt aL ?_;exact v7 (x:=.node k par cnt kids))) (by(refine B vc ?_;refine B (List.length_map _) ?_);(rw [af.ai] at bC;replace bC:=List.length_cons▸bC);exact NZ fi ag bC)
  (replace this:=vc▸this;replace this:=(List.length_map _)▸this)
  exact this
 ·obtain⟨i,s,aR,hs⟩:∃i s,i+s=a/\i<(cj (x.ai [])).length/\((s=0/\a<(cj (x.ai [])).length)\/(s=1/\a=(cj (x.ai [])).length)):=by
   by_cases e:a=(cj (x.ai [])).length
   ·exact⟨a-1,1,by exact M9 aL e,by exact Mk aL e,.inr ⟨rfl,e⟩⟩
   ·exact⟨a,0,rfl,by exact BV bz e,.inl ⟨rfl,by exact BV bz e⟩⟩
  have aq:i<x.bh.length:=by(refine bt (List.length_map (f:=fun e:Int×da×Option Int=>(e.1,e.2.1))) ?_;refine B (pS.1 x []) ?_);exact hs.1
  refine r1 (Qd.1 x [] i aq h.node) ?_;intro A nq ks j q G
  have bH:=G.c;have b8:=G.k;have c9:=G.up;have fo:=G.pg;have hp:=G.gp
  refine hq G.c1 ?_;intro lA oA _ dO
  have dO:=dO.1
  have pw:nq∈x.ai []:=by refine B dO ?_;simp
  have j4:=yF.1 x [] nq pw ks bH
  have tK:=j4.length_le
  unfold cA at tK
  replace tK:=(List.length_map _)▸tK
  have bF:=(List.getElem?_eq_some_iff.mp b8).1
  have key:∀{b m t u} {per:List H},per[t]? =some (.V tab)->per[u]? =some (.V bJ)->aH b (m+6) "place_of" [bB t u,.int a] per=some (.ret (.U (.aF [nq.sp.v,.int ((j:Int)+(s:Nat))])),per):=fun{b m t u per} aG b2=>by
   have an:=v7 (x:=x)
   have a9:nq.sp.v=bS nq.k nq.hd (nq.ab.map au) (ep nq.hd) false:=by
    show bS _ _ _ _ nq.pg=_
    unfold bg.pg;refine B bH ?_;rfl
   have:=V9 (b:=b) (m:=m) (t:=t) (u:=u) (per:=per) (x:=x.ic) (a:=a) (r:=q.k) (nk:=nq.k) (i:=i) (j:=j) (rhd:=q.hd) (rinh:=ep q.hd) (nhd:=nq.hd) (ninh:=ep nq.hd) (ab:=nq.ab.map au) (nab:=nq.ab.map au)
    (rest:=((lA++oA).map fun q=>q.sp.v).filter fun v=>decide (uG v=nq.k)) (ks:=ks) aG b2 h.iV (by exact zc) (by refine B an ?_;exact JR hs) ?_ ?_ ?_ ?_ ?_ (by exact FO bC fi tK) (Rt ks (j4.nodup h.ex) b8)
   ·(refine B a9 ?_;refine B this ?_;refine B an ?_)
    congr 9
    rcases hs.2 with⟨rfl,e⟩|⟨rfl,e⟩
    ·refine B (if_neg (by exact Vi hs)) ?_;rfl
    ·refine B (if_pos (by exact HJ hs)) ?_;rfl
   ·(refine B vr ?_;refine B List.getElem?_map ?_;refine B hp ?_)
    show some (bS q.k q.hd (q.ab.map au) (ep q.hd) q.pg)=_
    (refine B c9 ?_;refine B fo ?_;refine B List.map_append ?_);rfl
   ·refine B an ?_
    rcases hs.2 with⟨rfl,e⟩|⟨rfl,e⟩
    ·refine B (if_neg (by exact Wr hs)) ?_;exact PT aR
    ·refine B (if_pos (by exact XE hs)) ?_;exact Ky aR hs
   ·have aE:=h.ex
    (replace aE:=dO▸aE;replace aE:=pA▸aE)
    refine eg (List.nodup_append.mp aE) ?_;intro _ _ hf
    (refine B wj ?_;refine B dO ?_;refine B List.map_append ?_;refine B (List.filter_append _ _) ?_;rw [List.filter_eq_nil_iff.mpr];refine B (List.nil_append _) ?_;refine B List.map_cons ?_;refine B (List.filter_cons_of_pos (by exact decide_eq_true rfl)) ?_;refine B a9 ?_;rfl)
    intro v ay
    refine ba (List.mem_map.mp ay) ?_;intro cI mz u;subst u
    have:=hf _ (List.mem_map_of_mem (f:=bg.k) mz) nq.k (List.mem_cons_self)
    exact fun z=>this (of_decide_eq_true z)
   ·unfold bg.hd;refine B bH ?_;rfl
   ·intro r aP
    refine ba (List.mem_map.mp (j4.subset aP)) ?_;intro cI mz u;subst u
    exact⟨_,h.ins cI mz,rfl⟩
  rcases hs.2 with⟨rfl,e⟩|⟨rfl,e⟩
  ·refine hq G.c1 ?_;intro ap C d8 fG
   exact⟨A,ap,C,nq,ks,j,bH,by exact F0 bF,by exact HZ aR d8,fG,key⟩
  ·refine hq G.aR ?_;intro ap C d8 fG
   exact⟨A,ap,C,nq,ks,j+1,bH,by exact zj bF,by exact Ik aR d8,fG,key⟩
end
end Mine
end
section
open PySem
namespace Mine
theorem C6 {b:Bool} {m:Nat} {per:List H} {p:da}:aH b (m+4) "copied" [.V p.d] per=some (.ret (.b5 (.V p.d)),per):=by obtain⟨n,w,r⟩:=p;cases r<;>kernel_rfl
noncomputable def j2 (N:Nat) (a6:Int) (x:af):Prop:=∀j:Int,1<=j->j<=N->j=a6\/j∈cA (x.ai [])
section
variable{tab bJ:cF} {N:Nat} {a6:Int} {x:af}
theorem ut {t u:Nat} {v:H} {per:List H} (h:t≠u):(per.set t v)[u]? =per[u]? :=List.getElem?_set_ne h
theorem eb.new (h:eb tab bJ N a6 x) (dm:N<250) {v:H}:eb (cU (.int ((N:Int)+1)) v tab) bJ (N+1) a6 x:=by
 have ag:=h.fY.add (v:=v)
 have bi:∀{j:Int},1<=j/\j<=N->bb (.int j) (cU (.int ((N:Int)+1)) v tab)=bb (.int j) tab:=fun{j} bF=>by
  (refine B gW ?_;refine B (if_neg (fun e=>by injection e with e;exact AF bF e)) ?_;rfl)
 refine⟨by refine B ag.1 ?_;exact ag.2,by exact zl dm,fun q aA=> ?_,h.ex,h.node,h.bJ,?_,h.out⟩
 ·refine B (bi (h.at (List.mem_map_of_mem aA))) ?_;exact h.ins q aA
 ·refine B (bi (h.fY.at (by rw [h.jw];rfl))) ?_;exact h.jw
theorem QT {q:bg} {ks Ao:List Int} (h:q.c=.inr ks):hP q.hd [(.str "Kids",.am (Ao.map au))]=dY q.par q.cnt (.inr Ao):=by
 unfold bg.hd;refine B h ?_;rfl
theorem x4 {q:bg} {ks:List Int} {L:List bg} (h:q.c=.inr ks):cj (q::L)=cj L:=by
 unfold cj;(refine B List.filterMap_cons ?_;refine B h ?_;rfl)
theorem DL {L A ap C:List bg} {nq:bg} (g:L=A++nq::(ap++C)) (aE:(cA L).Nodup) {q:bg} (aA:q∈A\/q∈ap\/q∈C):q∈L/\q.k≠nq.k:=by
 subst g
 replace aE:=pA▸aE
 refine eg (List.nodup_append.mp aE) ?_;intro _ zV zh
 have tG:=(List.nodup_cons.mp zV).1
 rcases aA with h|h|h
 ·exact⟨List.mem_append_left _ h,zh _ (List.mem_map_of_mem (f:=bg.k) h) _ List.mem_cons_self⟩
 ·exact⟨List.mem_append_right _ (List.mem_cons_of_mem _ (List.mem_append_left _ h)),fun e=>tG (by refine bt e ?_;exact List.mem_map_of_mem (List.mem_append_left _ h))⟩
 ·exact⟨List.mem_append_right _ (List.mem_cons_of_mem _ (List.mem_append_right _ h)),fun e=>tG (by refine bt e ?_;exact List.mem_map_of_mem (List.mem_append_right _ h))⟩
theorem Gr {A ap C:List bg} {nq pn q:bg} (h:q∈A++nq::(ap++pn::C)):(q∈A\/q∈ap\/q∈C)\/q=nq\/q=pn:=by
 rcases List.mem_append.mp h with h|h
 ·exact .inl (.inl h)
 ·rcases List.mem_cons.mp h with h|h
  ·exact .inr (.inl h)
  ·rcases List.mem_append.mp h with h|h
   ·exact .inl (.inr (.inl h))
   ·rcases List.mem_cons.mp h with h|h
    ·exact .inr (.inr h)
    ·exact .inl (.inr (.inr h))
theorem Hc {A ap C:List bg} {nq mu pn:bg} (e:mu.k=nq.k):(cA (A++mu::(ap++pn::C))).Perm (pn.k::cA (A++nq::(ap++C))):=by
 have:=List.perm_middle (a:=pn.k) (l₁:=A.map bg.k++nq.k::ap.map bg.k) (l₂:=C.map bg.k)
 unfold cA;simpa [e] using this
theorem Fs {A ap C:List bg} {nq mu pn:bg} (e:mu.k=nq.k) {j:Int}:j∈cA (A++mu::(ap++pn::C))↔j=pn.k\/j∈cA (A++nq::(ap++C)):=(Hc e).mem_iff.trans List.mem_cons
theorem Iv {A ap C:List bg} {nq mu pn:bg} (e:mu.k=nq.k) (aE:(cA (A++nq::(ap++C))).Nodup) (an:pn.k∉cA (A++nq::(ap++C))):(cA (A++mu::(ap++pn::C))).Nodup:=(Hc e).nodup_iff.mpr (List.nodup_cons.mpr ⟨an,aE⟩)
noncomputable def v5 (tab:cF) (N:Nat) (p:da):cF:=cU (.int ((N:Int)+1)) (.aF [.int 0,.V (dY none none (.inl p))]) tab
noncomputable def s5 (q:bg) (ks:List Int) (tab:cF):cF:=cU (.int q.k) (.aF [.int 0,.V (dY q.par q.cnt (.inr ks))]) tab
theorem eb.jF {df:af} {A ap C:List bg} {nq:bg} {ks:List Int} {p:da} {ab:List Int} (h:eb tab bJ N a6 x) (dm:N<250) (g:x.ai []=A++nq::(ap++C)) (g7:df.num=x.num) (jo:∃k par cnt kids,df=af.node k par cnt kids)
  (hf:df.ai []=A++{nq with c:=.inr ks}::(ap++⟨(N:Int)+1,none,none,.inl p,ab⟩::C)):eb (s5 nq ks (v5 tab N p)) bJ (N+1) a6 df:=by
 have M:=h.new dm (v:=.aF [.int 0,.V (dY none none (.inl p))])
 have pw:nq∈x.ai []:=by refine B g ?_;exact List.mem_append_right _ List.mem_cons_self
 have gP:∀{j},j∈cA (x.ai [])->¬j=(N:Int)+1:=fun z e=>by have:=(h.at z).2;exact(Pz e this).elim
 have ag:nq.k∈cA (x.ai []):=List.mem_map_of_mem pw
 refine⟨?_,by exact zl dm,fun q aA=> ?_,?_,jo,h.bJ,?_,?_⟩
 ·unfold fU s5 v5;rw [ws]
  ·exact M.fY
  ·refine B (M.ins nq pw) ?_;rfl
 ·replace aA:=hf▸aA
  unfold s5
  refine B gW ?_
  rcases Gr aA with aA|rfl|rfl
  ·have aY:=DL g h.ex aA
   exact(if_neg fun e=>aY.2 (al.int.inj e)).trans (M.ins q aY.1)
  ·exact if_pos rfl
  ·refine(if_neg fun e=>gP ag (al.int.inj e).symm).trans ?_
   unfold v5;refine B gW ?_;exact if_pos rfl
 ·refine B hf ?_;exact Iv (nq:=nq) (by rfl) (g▸h.ex) fun z=>gP (g▸z) rfl
 ·unfold s5;(refine B gW ?_;refine B g7 ?_);exact(if_neg fun e=>h.out (by injection e with e;refine B e ?_;exact ag)).trans M.jw
 ·refine B hf ?_;intro z
  rcases(Fs (nq:=nq) (by rfl)).mp z with z|z
  ·have:=h.fY.at (j:=a6) (by refine B h.jw ?_;rfl)
   have z:a6=(N:Int)+1:=z
   exact(AF this z).elim
  ·exact h.out (g▸z)
theorem Kl {df:af} {A ap C:List bg} {nq:bg} {ks:List Int} {p:da} {ab:List Int} {n:Int} (aE:(cA (x.ai [])).Nodup) (hs:cB (x.ai [])) (g:x.ai []=A++nq::(ap++C)) (hf:df.ai []=A++{nq with c:=.inr ks}::(ap++⟨n,none,none,.inl p,ab⟩::C)):wk (df.ai []):=fun q aA=>by
 replace aA:=hf▸aA
 rcases Gr aA with aA|rfl|rfl
 ·exact .inl (hs q (DL g aE aA).1).1
 ·exact .inl (hs nq (by refine B g ?_;exact List.mem_append_right _ List.mem_cons_self)).1
 ·exact .inr ⟨rfl,rfl⟩
theorem Hv {q:bg} {ks:List Int} (h:q.c=.inr ks):q.sp.v=bS q.k q.hd (q.ab.map au) (ep q.hd) false:=by
 show bS _ _ _ _ q.pg=_
 unfold bg.pg;refine B h ?_;rfl
theorem JL (h:eb tab bJ N a6 x) (hc:j2 N a6 x) (hs:cB (x.ai [])) (dm:N<250) {a:Nat} (bz:a<=(cj (x.ai [])).length) (p:da):∃c5 df,
  (∀{b m t u} {per:List H},t≠u->per[t]? =some (.V tab)->per[u]? =some (.V bJ)->aH b (m+10) "insert_page" [bB t u,.int a,.V p.d] per=some (.ret (.U (au ((N:Int)+1))),per.set t (.V c5)))/\
  eb c5 bJ (N+1) a6 df/\j2 (N+1) a6 df/\cB (df.ai [])/\cj (df.ai [])=(cj (x.ai [])).take a++((N:Int)+1,p)::(cj (x.ai [])).drop a:=by
 refine vE (ER h bz) ?_;intro _ _ _ _ _ _ PY
 have Vr:= @PY.call
 have M:=h.new dm (v:=.aF [.int 0,.V (dY none none (.inl p))])
 refine vE (ER M bz) ?_;intro A ap C nq ks j ny
 have bH:=ny.c;have b8:=ny.le;have c9:=ny.len;have fo:=ny.ins.1;have hp:=ny.ins.2;have mw:= @ny.call;clear ny
 refine et (hp ((N:Int)+1) p) ?_;intro df g7 jo hf
 have pw:nq∈x.ai []:=by refine B fo ?_;simp
 have jf:=(yF.1 x [] nq pw ks bH).length_le
 have bC:=h.len
 unfold cA at jf
 replace jf:=(List.length_map _)▸jf
 have O:=h.jF dm fo g7 jo hf
 have De:∀j,j∈cA (df.ai [])↔j=(N:Int)+1\/j∈cA (x.ai []):=fun j=>by(refine B hf ?_;refine B fo ?_);exact Fs (nq:=nq) (by rfl)
 refine qC (BA O (Kl h.ex hs fo hf)) ?_;intro c5 Xf d3 dS fH iX gH
 refine⟨c5,Xf,fun{b m t u per} iW aG b2=> ?_,dS,fun j uL qv=> ?_,fH,?_⟩
 ·refine Mi (m:=m+7) (N:=N) (cd:=p.d) aG h.fY (by exact Uz dm) ?_ (Vr aG b2) C6 ?_
  ·obtain⟨n,w,r⟩:=p;cases r<;>exact Nat.le_of_ble_eq_true rfl
  ·have iA:hP p.d nA=dY none none (.inl p):=by obtain⟨n,w,r⟩:=p;cases r<;>rfl
   (refine B iA ?_;refine bt h.fY.add.1 ?_)
   have rd:=(ut (v:=.V (cU (.int ((N:Int)+1)) (.aF [.int 0,.V (dY none none (.inl p))]) tab)) iW).trans b2
   have xo:=mw (b:=b) (m:=m+2) (jJ aG) rd
   replace xo:=(Hv bH)▸xo
   have aq:=q1 (q:=nq)
   have k6:tab.length=N:=h.fY.len
   refine O5 (m:=m+5) (ks:=ks.map au) (jJ aG) ?_ (by exact Sy aq) (by refine B (List.length_map _) ?_;exact VS dm bC jf) (by refine B (List.length_map _) ?_;exact b8) xo (by unfold bg.hd;refine B bH ?_;rfl) ?_
   ·refine B M.fY.len ?_;unfold a4;exact SN dm
   ·have ak:(ks.map au).take j++[au ((N:Int)+1)]++(ks.map au).drop j=(ks.take j++((N:Int)+1)::ks.drop j).map au:=by simp
    (refine B ak ?_;refine B (QT bH) ?_;refine B lS ?_)
    have:=d3 (b:=b) (m:=m+2) (jJ (w:=.V (cU (.int nq.k) (.aF [.int 0,.V (dY nq.par nq.cnt (.inr (ks.take j++((N:Int)+1)::ks.drop j)))]) (cU (.int ((N:Int)+1)) (.aF [.int 0,.V (dY none none (.inl p))]) tab))) aG) ((ut iW).trans b2)
    replace this:=lS▸this
    exact this
 ·refine B gH ?_
  by_cases e:j=(N:Int)+1
  ·exact .inr ((De j).mpr (.inl e))
  ·rcases hc j uL (by exact wq qv e) with z|z
   ·exact .inl z
   ·exact .inr ((De j).mpr (.inr z))
 ·have ak:cj (x.ai [])=(cj A++cj ap)++cj C:=by
   (refine B fo ?_;refine B jy ?_;refine B (x4 bH) ?_;refine B jy ?_;refine B (List.append_assoc _ _ _) ?_;rfl)
  replace c9:=jy▸c9
  (refine B iX ?_;refine B hf ?_;refine B jy ?_;refine B (x4 rfl) ?_;refine B jy ?_;refine B ak ?_;refine B (List.take_left' c9) ?_;refine B (List.drop_left' c9) ?_;refine B (List.append_assoc _ _ _) ?_);rfl
end
end Mine
end
section
open PySem
namespace Mine
noncomputable def bg.str (q:bg):Int×Option Int×Option Int×(da⊕List Int):=(q.k,q.par,q.cnt,q.c)
theorem B0:(∀x:af,∀ab ab',(x.ai ab).map bg.str=(x.ai ab').map bg.str)/\∀l:List af,∀ab ab',(af.bD ab l).map bg.str=(af.bD ab' l).map bg.str:=by
 apply af.all
 ·intros;rfl
 ·intro k par cnt kids ih ab ab'
  (rw [af.ai,af.ai];refine B List.map_cons ?_;refine B List.map_cons ?_;refine B (ih (ab++[k]) (ab'++[k])) ?_);rfl
 ·intros;rfl
 ·intro x r M O ab ab'
  (rw [af.bD,af.bD];refine B List.map_append ?_;refine B List.map_append ?_;refine B (M ab ab') ?_;refine B (O ab ab') ?_;rfl)
theorem VN {l:List af} {ab ab':List Int} {q:bg} (h:q∈af.bD ab l):∃cI∈af.bD ab' l,cI.str=q.str:=by
 have:q.str∈(af.bD ab' l).map bg.str:=by refine B (B0.2 l ab' ab) ?_;exact List.mem_map_of_mem h
 refine ba (List.mem_map.mp this) ?_;intro cI M O
 exact⟨cI,M,O⟩
theorem Nc {l:List af} {ab ab':List Int}:cA (af.bD ab l)=cA (af.bD ab' l):=by
 have:=congrArg (List.map Prod.fst) (B0.2 l ab ab')
 (replace this:=List.map_map▸this;replace this:=List.map_map▸this)
 exact this
theorem Ue {l:List af} {ab ab':List Int}:cj (af.bD ab l)=cj (af.bD ab' l):=by(refine bt (pS.2 l ab) ?_;refine bt (pS.2 l ab') ?_;rfl)
structure eI (tab:cF) (N:Nat) (l:List af):Prop where
 fY:fU tab N
 ins:g0 tab (af.bD [] l)
 ex:(cA (af.bD [] l)).Nodup
 Eo:∀j:Int,1<=j->j<=N->j∈cA (af.bD [] l)
 CK:∀q∈af.bD [] l,q.par=none/\q.cnt=none
theorem eI.at {tab:cF} {N:Nat} {l:List af} (h:eI tab N l) {j:Int} (bF:j∈cA (af.bD [] l)):1<=j/\j<=N:=by
 refine ba (List.mem_map.mp bF) ?_;intro q aA u;subst u
 exact h.fY.at (by refine B (h.ins q aA) ?_;rfl)
theorem eI.add {tab:cF} {N:Nat} {d g r:List af} {x:af} {v:H} (h:eI tab N (d++(g++r))) (ae:∃q,x.ai []=q::af.bD [q.k] g/\q.k=(N:Int)+1/\q.par=none/\q.cnt=none/\v=.aF [.int 0,.V q.hd]):
  eI (tab++[(.int ((N:Int)+1),v)]) (N+1) (d++x::r):=by
 refine EP ae ?_;clear ae;intro q ak ar bP cY u;subst u
 have ag:=h.fY.add (v:=.aF [.int 0,.V q.hd])
 have mc:af.bD [] (d++x::r)=af.bD [] d++(q::af.bD [q.k] g++af.bD [] r):=by(refine B i8 ?_;rw [af.bD];refine B ak ?_;rfl)
 have A9:af.bD [] (d++(g++r))=af.bD [] d++(af.bD [] g++af.bD [] r):=by(refine B i8 ?_;refine B i8 ?_;rfl)
 have mem:∀{cI},cI∈af.bD [] (d++x::r)->cI=q\/∃hQ∈af.bD [] (d++(g++r)),hQ.str=cI.str:=fun{cI} aA=>by
  replace aA:=mc▸aA
  refine B A9 ?_
  rcases List.mem_append.mp aA with aA|aA
  ·exact .inr ⟨cI,List.mem_append_left _ aA,rfl⟩
  ·rcases List.mem_cons.mp aA with rfl|aA
   ·exact .inl rfl
   ·rcases List.mem_append.mp aA with aA|aA
    ·refine ba (VN (ab':=[]) aA) ?_;intro hQ M O
     exact .inr ⟨hQ,List.mem_append_right _ (List.mem_append_left _ M),O⟩
    ·exact .inr ⟨cI,List.mem_append_right _ (List.mem_append_right _ aA),rfl⟩
 have eT:∀{cI hQ:bg},hQ.str=cI.str->hQ.k=cI.k/\hQ.hd=cI.hd/\hQ.par=cI.par/\hQ.cnt=cI.cnt:=fun{cI hQ} hs=>by
  obtain⟨k,par,cnt,c,ab⟩:=cI
  obtain⟨cX,y9,Xi,c',ab'⟩:=hQ
  cases hs
  exact⟨rfl,rfl,rfl,rfl⟩
 have an:(cA (af.bD [] (d++x::r))).Perm (((N:Int)+1)::cA (af.bD [] (d++(g++r)))):=by
  have dn:(af.bD [q.k] g).map bg.k=(af.bD [] g).map bg.k:=Nc
  (refine B mc ?_;refine B A9 ?_;refine bt ar ?_)
  unfold cA
  simp only [List.map_append,List.map_cons]
  refine B dn ?_
  exact List.perm_middle
 refine⟨ag.2,fun cI aA=> ?_,an.nodup_iff.mpr (List.nodup_cons.mpr ⟨fun z=>by have:=(h.at z).2;exact(EW this).elim,h.ex⟩),fun j M O=> ?_,fun cI aA=> ?_⟩
 ·(refine bt ag.1 ?_;refine B gW ?_)
  rcases mem aA with rfl|⟨hQ,M,O⟩
  ·(refine B ar ?_;refine B (if_pos rfl) ?_;rfl)
  ·refine eg (eT O) ?_;intro d3 dS _
   have:=(h.at (List.mem_map_of_mem M)).2
   (refine bt d3 ?_;refine bt dS ?_;refine B (if_neg (fun e=>by injection e with e;exact AM this e)) ?_)
   exact h.ins hQ M
 ·refine an.mem_iff.mpr ?_
  by_cases e:j=(N:Int)+1
  ·exact List.mem_cons.mpr (.inl e)
  ·exact List.mem_cons.mpr (.inr (h.Eo j M (by exact wq O e)))
 ·rcases mem aA with rfl|⟨hQ,M,O⟩
  ·exact⟨bP,cY⟩
  ·refine nX (eT O) ?_;intro _ _ fH iX
   (refine bt fH ?_;refine bt iX ?_);exact h.CK hQ M
theorem eI.leaf {tab:cF} {N:Nat} {d:List af} (h:eI tab N d) (p:da):eI (tab++[(.int ((N:Int)+1),.aF [.int 0,.V (dY none none (.inl p))])]) (N+1) (d++[.leaf ((N:Int)+1) p none]):=by
 have h':eI tab N (d++([]++[])):=by rw [List.append_nil,List.append_nil];exact h
 exact h'.add ⟨_,rfl,rfl,rfl,rfl,rfl⟩
theorem eI.node {tab:cF} {N:Nat} {d g r:List af} (h:eI tab N (d++(g++r))):eI (tab++[(.int ((N:Int)+1),.aF [.int 0,.V (dY none none (.inr (g.map af.num)))])]) (N+1) (d++.node ((N:Int)+1) none none g::r):=
 h.add ⟨_,rfl,rfl,rfl,rfl,rfl⟩
theorem eI.cj {d g r:List af} {k:Int} {par cnt:Option Int}:Mine.cj (af.bD [] (d++.node k par cnt g::r))=Mine.cj (af.bD [] (d++(g++r))):=by
 (refine B i8 ?_;refine B i8 ?_;refine B i8 ?_;rw [af.bD,af.ai];refine B jy ?_;refine B jy ?_;refine B (x4 rfl) ?_;refine B jy ?_;refine B jy ?_;refine B (Ue (l:=g) (ab:=[]++[k]) (ab':=[])) ?_;rfl)
noncomputable def gX (l:List α) (dy:Nat) (i:Nat):List α:=(l.take ((i+1)*l.length/dy)).drop (i*l.length/dy)
theorem HR {l:List α} {dy i:Nat} (h:0<dy):gX l dy i++l.drop ((i+1)*l.length/dy)=l.drop (i*l.length/dy):=by
 have aY:i*l.length/dy<=(i+1)*l.length/dy:=Nat.div_le_div_right (Nat.mul_le_mul_right _ (by exact uf))
 unfold gX
 refine B List.drop_take ?_
 have:(l.drop (i*l.length/dy)).drop ((i+1)*l.length/dy-i*l.length/dy)=l.drop ((i+1)*l.length/dy):=by refine B List.drop_drop ?_;congr 1;exact SG aY
 (refine bt this ?_;refine B (List.take_append_drop _ _) ?_;rfl)
end Mine
end
section
open PySem
namespace Mine
theorem XO:ds "grouped"=some (aI 42):=by kernel_rfl
section
variable{b:Bool} {C CQ:ct} {n:Nat} {J aW:Scope} {fs fs₁ fs₂ fs₃ hm fs':X} {R:bk} {o:Option (bE×X)} {p:Pos} {m:Nat} {t u:Nat} {per:List H} {tab bJ:List (al×H)}
theorem U7 {x:Nat} (h:x<1000):qH (x:Int)=true:=by
 unfold qH;exact decide_eq_true (by refine B (Int.natAbs_natCast _) ?_;exact UB h)
theorem CU {x y:Nat} {z:Int} (h:x<1000) (hz:z=((x*y:Nat):Int)):kh .Mult (.int (x:Int)) (.int (y:Int))=some (.U (.int z)):=by
 subst hz
 refine B (Int.natCast_mul _ _) ?_
 exact bq (cT (by(refine B (U7 h) ?_;refine B (Bool.true_or _) ?_;rfl)) rfl) rfl
theorem zK {x y:Nat} (h:0<y) (O:y<1000):kh .FloorDiv (.int (x:Int)) (.int (y:Int))=some (.U (.int ((x/y:Nat):Int))):=by
 have e:¬(((y:Int)=0:Bool)||(1073741824<=(y:Int).natAbs:Bool))=true:=by
  refine B (Int.natAbs_natCast _) ?_;simp;exact WS h O
 (refine B (Int.natCast_ediv _ _) ?_;refine bt (Int.fdiv_eq_ediv_of_nonneg _ (Int.natCast_nonneg _)) ?_)
 exact bq (eh e rfl) rfl
theorem FR {e:Expr} {i:Int} (h:R.a9 e fs=some (.U (.int i),fs₁)):mY R (some e) fs=some (some i,fs₁):=bd h rfl
theorem uy {q wQ:Pos} {a:Expr} {k:Nat} (aL:J.names.lookup ("range":Str)=some .globalImplicit) (h:d2 R a fs=some (.int (k:Int),fs₁)) (ag:k<1000000):hy R J (.Call (.Name ("range":Str) q) [a] [] wQ) fs=some ((List.range k).map fun(i:Nat)=>H.int i,fs₁):=by
 have ah:((-1048576:Int)<=(k:Int)&&(k:Int)<=1048576:Bool)=true:=by simp;exact PP ag
 exact cT aL (cT rfl (bd h (bq (cT ah rfl) rfl)))
noncomputable def Af:Expr×Scope:=(en (cc (aI 42) 1) [0],iH (en (cc (aI 42) 1) []))
theorem LN {l:List H} {w:Nat} (aq:0<l.length) (h7:l.length<900) (ea:2<=w) (Dw:w<100):aH b (m+1) "grouped" [.am l,.int w] per=some (.ret (.b5 (.am ((List.range ((l.length+w-1)/w)).map fun i=>.am (gX l ((l.length+w-1)/w) i)))),per):=by
 refine c7 XO ?_
 have B9:0<(l.length+w-1)/w:=Nat.div_pos (by exact Oy aq) (by exact DJ ea)
 have iJ:(l.length+w-1)/w<1000:=Nat.lt_of_le_of_lt (Nat.div_le_self _ _) (by exact HU h7 Dw)
 have bC:=il (l:=l) (by unfold a4;exact jR h7)
 have iA:((l.length:Int)+(w:Int)-1)=((l.length+w-1:Nat):Int):=by exact TV ea
 have iY:=zK (x:=l.length+w-1) (y:=w) (by exact DJ ea) (by exact K4 Dw)
 replace iY:=(Eq.symm iA)▸iY
 obtain⟨c1,e⟩:=u2 (R:=aJ b (aH b m) (aH false m) 38 Af.2) (per:=per) (elt:=Af.1) (x:="at") (L:=[("parts",.U (.am l)),("many",.U (.int ((l.length+w-1)/w:Nat)))])
  (f:=fun v=>match v with|.int i=>.am (gX l ((l.length+w-1)/w) i.toNat)|_=>.none) (items:=(List.range ((l.length+w-1)/w)).map fun(i:Nat)=>H.int i) (fs:=⟨[("parts",.U (.am l)),("many",.U (.int ((l.length+w-1)/w:Nat)))],per⟩)
  (fun v ay=>by
   refine ba (List.mem_map.mp ay) ?_;intro i aR u;subst u
   have aR:=List.mem_range.mp aR
   have cS:∀j,j<=(l.length+w-1)/w->j*l.length/((l.length+w-1)/w)<=l.length:=fun j bF=>Nat.div_le_of_le_mul (Nat.mul_le_mul_right _ bF)
   have hs:iU l (some ((i*l.length/((l.length+w-1)/w):Nat):Int)) (some (((i+1)*l.length/((l.length+w-1)/w):Nat):Int))=gX l ((l.length+w-1)/w) i:=by
    show(l.take (jL _ _)).drop (jL _ _)=_
    (refine B (vB (cS _ (by exact F0 aR))) ?_;refine B (vB (cS _ (by exact zj aR))) ?_);rfl
   refine dt (r:=.b5 (.am (gX l ((l.length+w-1)/w) i))) ?_ rfl
   refine bt hs ?_
   exact oF rfl (FR (dC (dC rfl (fe rfl rfl rfl bC) rfl rfl (CU (by exact Ht iJ aR) rfl)) rfl rfl rfl (zK B9 iJ))) (FR (dC (dC rfl (fe rfl rfl rfl bC) rfl rfl (CU (x:=i+1) (by exact NW iJ aR) rfl)) rfl rfl rfl (zK B9 iJ))) rfl (by unfold a4;exact jR h7)) (.inl rfl)
 replace e:=List.map_map▸e
 apply dq rfl
 ·refine aO (de (dC (dC (dC (fe rfl rfl rfl bC) rfl rfl rfl rfl) rfl rfl rfl rfl) rfl rfl rfl iY) rfl) ?_
  exact cw (dE (h8 (uy rfl (dt (r:=.U (.int ((l.length+w-1)/w:Nat))) rfl rfl) (by exact DD iJ)) (by(refine B (List.length_map _) ?_;refine B List.length_range ?_);unfold a4;exact mP iJ) rfl e) rfl)
 ·rfl
end
end Mine
end
section
open PySem
namespace Mine
noncomputable def pM:Nat->Nat->List H
 |_,0=>[]
 |N,k+1=>au ((N:Int)+1)::pM (N+1) k
noncomputable def o2 (tab:cF) (N:Nat):List H->cF
 |[]=>tab
 |v::r=>o2 (tab++[(.int ((N:Int)+1),.aF [.int 0,v])]) (N+1) r
section
variable{b:Bool} {C CQ:ct} {n:Nat} {J aW:Scope} {fs fs₁ fs₂ fs₃ hm fs':X} {R:bk} {o:Option (bE×X)} {p:Pos} {m:Nat} {t u:Nat}
theorem BW {elt:Expr} {x:Str} {L:List (Str×cg)} {f:H->H} {items:List H}:∀{per:List H} {tab:cF} {N:Nat} {fs:X},
  (∀v∈items,∀per tab N,per[t]? =some (.V tab)->fU tab N->N<900->d2 R elt ⟨bX x (.U v) L,per⟩=some (au ((N:Int)+1),⟨bX x (.U v) L,per.set t (.V (tab++[(.int ((N:Int)+1),.aF [.int 0,f v])]))⟩))->
  per[t]? =some (.V tab)->fU tab N->N+items.length<900->(fs=⟨L,per⟩\/∃w,fs=⟨bX x w L,per⟩)->∃l,gd R x [] elt items fs=some (pM N items.length,⟨l,per.set t (.V (o2 tab N (items.map f)))⟩):=by
 induction items with
 |nil=>
  intro per tab N fs _ aG _ _ aB
  have e:per.set t (.V (o2 tab N ([].map f)))=per:=tP aG
  refine B e ?_;exact sU aB
 |cons v r ih=>
  intro per tab N fs h aG ag aq aB
  replace aq:=List.length_cons▸aq
  refine bT (ih (fun y aQ=>h y (List.mem_cons_of_mem _ aQ)) (jJ aG (w:=.V (tab++[(.int ((N:Int)+1),.aF [.int 0,f v])]))) ag.add.2 (by exact Gb aq) (.inr ⟨.U v,rfl⟩)) ?_;intro l ar
  replace ar:=lS▸ar
  exact⟨l,wE ((congrArg (d2 R elt) (rk v aB)).trans (h v List.mem_cons_self per tab N aG ag (by exact W9 aq))) ar⟩
end
noncomputable def nc (N:Nat):List (List af)->List af
 |[]=>[]
 |g::r=>.node ((N:Int)+1) none none g::nc (N+1) r
noncomputable def lX (N:Nat):List da->List af
 |[]=>[]
 |p::r=>.leaf ((N:Int)+1) p none::lX (N+1) r
noncomputable def hh (l:List af):List H:=(l.map af.num).map au
noncomputable def D7 (g:List af):H:=.V (dY none none (.inr (g.map af.num)))
noncomputable def yU (p:da):H:=.V (dY none none (.inl p))
theorem Vj {eB:List (List af)}:∀{N:Nat},pM N eB.length=hh (nc N eB):=by
 induction eB with
 |nil=>intro N;rfl
 |cons g r ih=>intro N;show _::pM (N+1) r.length=_;refine B ih ?_;rfl
theorem Ld {ps:List da}:∀{N:Nat},pM N ps.length=hh (lX N ps):=by
 induction ps with
 |nil=>intro N;rfl
 |cons g r ih=>intro N;show _::pM (N+1) r.length=_;refine B ih ?_;rfl
theorem Lj {eB:List (List af)}:∀{N:Nat},(nc N eB).length=eB.length:=by
 induction eB with
 |nil=>intro N;rfl
 |cons g r ih=>intro N;exact congrArg (· +1) ih
theorem Uh {ps:List da}:∀{N:Nat},(lX N ps).length=ps.length:=by
 induction ps with
 |nil=>intro N;rfl
 |cons g r ih=>intro N;exact congrArg (· +1) ih
theorem eI.Ug (eB:List (List af)):∀{tab:cF} {N:Nat} {d:List af},eI tab N (d++eB.flatten)->eI (o2 tab N (eB.map D7)) (N+eB.length) (d++nc N eB)/\Mine.cj (af.bD [] (d++nc N eB))=Mine.cj (af.bD [] (d++eB.flatten)):=by
 induction eB with
 |nil=>intro tab N d h;exact⟨h,rfl⟩
 |cons g r ih=>
  intro tab N d h
  rw [List.flatten_cons] at h|-
  have M:=h.node
  have e:d++af.node ((N:Int)+1) none none g::r.flatten=(d++[.node ((N:Int)+1) none none g])++r.flatten:=by simp
  replace M:=e▸M
  refine cm (ih M) ?_;intro bH b8
  have ar:(d++[af.node ((N:Int)+1) none none g])++nc (N+1) r=d++nc N (g::r):=by simp [nc]
  rw [ar] at bH b8
  have bP:N+1+r.length=N+(g::r).length:=by refine B List.length_cons ?_;exact uw
  replace bH:=bP▸bH
  exact⟨bH,by(refine B b8 ?_;refine bt e ?_);exact eI.cj⟩
theorem eI.ma (ps:List da):∀{tab:cF} {N:Nat} {d:List af},eI tab N d->eI (o2 tab N (ps.map yU)) (N+ps.length) (d++lX N ps)/\(Mine.cj (af.bD [] (d++lX N ps))).map Prod.snd=(Mine.cj (af.bD [] d)).map Prod.snd++ps:=by
 induction ps with
 |nil=>intro tab N d h;(rw [lX];refine B (List.append_nil _) ?_;refine B (List.append_nil _) ?_);exact⟨h,rfl⟩
 |cons p r ih=>
  intro tab N d h
  refine cm (ih (h.leaf p)) ?_;intro bH b8
  have ar:(d++[af.leaf ((N:Int)+1) p none])++lX (N+1) r=d++lX N (p::r):=by simp [lX]
  rw [ar] at bH b8
  have bP:N+1+r.length=N+(p::r).length:=by refine B List.length_cons ?_;exact uw
  replace bH:=bP▸bH
  refine⟨bH,?_⟩
  (refine B b8 ?_;refine B i8 ?_;refine B jy ?_;refine B List.map_append ?_;refine B (List.append_assoc _ _ _) ?_);rfl
noncomputable def mC (l:List α) (dy:Nat):List (List α):=(List.range dy).map (gX l dy)
theorem U6 {l:List α} {dy:Nat} (h:0<dy):(mC l dy).flatten=l:=by
 have:∀k i,i+k=dy->((List.range' i k).map (gX l dy)).flatten=l.drop (i*l.length/dy):=by
  intro k
  induction k with
  |zero=>
   intro i aR
   have:i=dy:=by exact KO aR
   subst this
   (refine B (Nat.mul_div_cancel_left _ h) ?_;refine B List.drop_length ?_);rfl
  |succ k ih=>
   intro i aR
   (refine B List.range'_succ ?_;refine B List.map_cons ?_;refine B List.flatten_cons ?_;refine B (ih (i+1) (by exact P9 aR)) ?_)
   exact HR h
 have:=this dy 0 (by exact Bl)
 (replace this:=(Nat.zero_mul _)▸this;replace this:=(Nat.zero_div _)▸this;replace this:=List.drop_zero▸this;replace this:=(Eq.symm List.range_eq_range')▸this)
 exact this
theorem DC {f:α->ee} {l:List α} {dy i:Nat}:gX (l.map f) dy i=(gX l dy i).map f:=by
 unfold gX;(refine B (List.length_map _) ?_;refine B List.map_drop ?_;refine B List.map_take ?_;rfl)
end Mine
end
section
open PySem
namespace Mine
theorem KS:ds "build_pages"=some (aI 43):=by kernel_rfl
section
variable{b:Bool} {C CQ:ct} {n:Nat} {J aW:Scope} {fs fs₁ fs₂ fs₃ hm fs':X} {R:bk} {o:Option (bE×X)} {p:Pos} {m:Nat} {t u:Nat} {per:List H} {tab bJ:cF}
noncomputable def FN (t u:Nat) (pd:H) (w:Nat) (Wd:List H) (per:List H):X:=⟨[("shelf",.U (bB t u)),("page_dicts",.U pd),("width",.U (.int w)),("home",.U .none),("level",.aD (.am Wd))],per⟩
noncomputable def ul:Expr×Scope:=(en (cc (aI 43) 2) [0],iH (en (cc (aI 43) 2) []))
noncomputable def tb:Expr×Scope:=(en (ij (d5 (cc (aI 43) 3)) 0) [0],iH (en (ij (d5 (cc (aI 43) 3)) 0) []))
noncomputable def vZ:H->H
 |.V d=>.V (hP d nA)
 |v=>v
noncomputable def oS (v:H):H:=.V [(.str "Type",gG "Pages"),(.str "Kids",v)]
theorem Pe {p:da} {N:Nat} (aG:per[t]? =some (.V tab)) (ag:fU tab N) (dm:N<900):d2 (aJ b (aH b (m+5)) CQ 38 ul.2) ul.1 ⟨bX "one" (.U (.V p.d)) [("shelf",.U (bB t u))],per⟩=
  some (au ((N:Int)+1),⟨bX "one" (.U (.V p.d)) [("shelf",.U (bB t u))],per.set t (.V (tab++[(.int ((N:Int)+1),.aF [.int 0,vZ (.V p.d)])]))⟩):=by
 have iW:=rY (b:=b) (m:=m+4) (per:=per) (hd:=p.d) AV (by obtain⟨n,w,r⟩:=p;cases r<;>exact Nat.le_of_ble_eq_true rfl)
 exact dt (d0 rfl rfl rfl rfl (bM (dr rfl (bM (dr rfl rfl (C6 (m:=m+1))) rfl (bM (qn (v:=gG "Page") (w:=.none) rfl rfl (by decide+kernel)) rfl rfl)) iW) rfl rfl) (rR (m:=m+4) aG ag (by exact Cm dm))) rfl
theorem Ln {v:H} {N:Nat} (ay:iC v=true) (aG:per[t]? =some (.V tab)) (ag:fU tab N) (dm:N<900):d2 (aJ b (aH b (m+5)) CQ 37 tb.2) tb.1 ⟨bX "group" (.U v) [("shelf",.U (bB t u))],per⟩=
  some (au ((N:Int)+1),⟨bX "group" (.U v) [("shelf",.U (bB t u))],per.set t (.V (tab++[(.int ((N:Int)+1),.aF [.int 0,oS v])]))⟩):=
 dt (d0 rfl rfl rfl rfl (bM (qn (v:=gG "Pages") (w:=v) rfl rfl (by decide+kernel)) rfl rfl) (rR (m:=m+4) aG ag (by exact Cm dm))) rfl
theorem EG {x y:Nat} {z:Bool} (h:decide (y<x)=z):eK .Gt (.int (x:Int)) (.int (y:Int))=some z:=by
 refine tR ?_
 refine bt h ?_
 by_cases e:y<x
 ·(refine B (decide_eq_true e) ?_;refine B (decide_eq_true (by exact vu e)) ?_;rfl)
 ·(refine B (decide_eq_false e) ?_;refine B (decide_eq_false (by exact yy e)) ?_;rfl)
theorem Sx {pd:H} {w:Nat} (ea:w=2\/w=3\/w=4):∀(k:Nat) {l:List af} {N:Nat} {tab:cF} {per:List H} {fuel:Nat},l.length=k->eI tab N l->per[t]? =some (.V tab)->N+2*k<800->k<fuel->
  ∃dc f9 c5,gN (aJ b (aH b (m+5)) CQ 39 (bN (aI 43))) (lq (cc (aI 43) 3)) (d5 (cc (aI 43) 3)) fuel (FN t u pd w (hh l) per)=some (.next,FN t u pd w (hh dc) (per.set t (.V c5)))/\eI c5 f9 dc/\dc.length<=4/\cj (af.bD [] dc)=cj (af.bD [] l)/\f9+2*dc.length<=N+2*k:=by
 intro k
 induction k using Nat.strongRecOn with
 |_ k ih=>
  intro l N tab per fuel ag bA aG ah aB
  obtain⟨fuel,rfl⟩:∃f,fuel=f+1:=⟨fuel-1,by exact BN aB⟩
  have sB:(hh l).length=k:=by unfold hh;(refine B (List.length_map _) ?_;refine B (List.length_map _) ?_;refine B ag ?_;rfl)
  have bC:=il (l:=hh l) (by refine B sB ?_;unfold a4;exact U2 ah)
  by_cases vf:w<k
  ·have bi:=LN (b:=b) (m:=m+4) (l:=hh l) (w:=w) (per:=per) (by exact Ol sB vf) (by exact Ru ah sB) (by exact VO ea) (by exact Jz ea)
   rw [sB] at bi bC
   obtain⟨dy,aY⟩:∃dy,dy=(k+w-1)/w:=⟨_,rfl⟩
   replace bi:=(Eq.symm aY)▸bi
   have iJ:0<dy/\3*dy<=2*k/\dy<k:=by
    rcases ea with rfl|rfl|rfl<;>omega
   have KZ:(List.range dy).map (fun i=>H.am (gX (hh l) dy i))=(mC l dy).map fun g=>H.am (hh g):=by
    unfold mC
    refine B List.map_map ?_
    apply List.map_congr_left
    intro i _
    show H.am (gX ((l.map af.num).map au) dy i)=.am (((gX l dy i).map af.num).map au)
    (refine B DC ?_;refine B DC ?_;rfl)
   replace bi:=KZ▸bi
   have vo:(mC l dy).length=dy:=by unfold mC;(refine B (List.length_map _) ?_;refine B List.length_range ?_;rfl)
   obtain⟨c1,e⟩:=BW (t:=t) (R:=aJ b (aH b (m+5)) CQ 37 tb.2) (elt:=tb.1) (x:="group") (L:=[("shelf",.U (bB t u))]) (f:=oS) (items:=(mC l dy).map fun g=>H.am (hh g)) (per:=per) (tab:=tab) (N:=N) (fs:=⟨[("shelf",.U (bB t u))],per⟩)
    (fun v ay per tab N M O Y=>Ln (by obtain⟨g,_,rfl⟩:=List.mem_map.mp ay;rfl) M O Y) aG bA.fY (by(refine B (List.length_map _) ?_;refine B vo ?_);exact Sl ah iJ) (.inl rfl)
   rewrite [List.length_map,Vj,List.map_map] at e
   have mc:=U6 (l:=l) iJ.1
   refine cm (eI.Ug (mC l dy) (tab:=tab) (N:=N) (d:=[]) (by(refine B (List.nil_append _) ?_;refine B mc ?_);exact bA)) ?_;intro md lO
   rw [List.nil_append] at md lO
   (replace lO:=(List.nil_append _)▸lO;replace lO:=mc▸lO)
   replace md:=vo▸md
   refine t3 (ih dy iJ.2.2 (fuel:=fuel) (by(refine B Lj ?_;refine B vo ?_;rfl)) md (jJ aG (w:=.V (o2 tab N ((mC l dy).map D7)))) (by exact Wo ah iJ) (by exact Jt aB iJ)) ?_;intro dc f9 c5 bH b8 c9 fo hp
   replace bH:=lS▸bH
   refine⟨dc,f9,c5,?_,b8,c9,fo.trans lO,by exact I1 iJ hp⟩
   refine oq (cO (fe rfl rfl rfl bC) rfl rfl rfl (EG (decide_eq_true vf)) rfl) ?_ bH
   exact aO (fz (h8 (g4 rfl (dt (dr rfl rfl bi) rfl)) (by(refine B (List.length_map _) ?_;refine B vo ?_);unfold a4;exact KY ah iJ) rfl e) rfl) rfl
  ·replace bC:=sB▸bC
   refine⟨l,N,tab,?_,bA,by exact NV ea ag vf,rfl,by exact Li ag⟩
   refine B (tP aG) ?_
   exact w_end (cO (fe rfl rfl rfl bC) rfl rfl rfl (EG (decide_eq_false vf)) rfl)
end
end Mine
end
section
open PySem
namespace Mine
section
variable{b:Bool} {m:Nat} {t u:Nat} {per:List H} {tab bJ:cF}
noncomputable def ly (k:Int):cF:=[(.str "Type",gG "Catalog"),(.str "Pages",au k)]
theorem eI.Tm {N:Nat} {x:af} (h:eI tab N [x]) (ae:∃k par cnt kids,x=.node k par cnt kids) (dm:N<250):eb (tab++[(.int ((N:Int)+1),.aF [.int 0,.V (ly x.num)])]) [(.str "Root",au ((N:Int)+1))] (N+1) ((N:Int)+1) x/\j2 (N+1) ((N:Int)+1) x/\wk (x.ai []):=by
 have ag:=h.fY.add (v:=.aF [.int 0,.V (ly x.num)])
 have e:af.bD [] [x]=x.ai []:=List.append_nil _
 have fr:=fun j bF=>h.at (j:=j) bF
 have un:=h.ins
 have it:=h.ex
 have Cw:=h.Eo
 have GA:=h.CK
 rw [e] at fr un it Cw GA
 refine⟨⟨ag.2,by exact zl dm,fun q aA=> ?_,it,ae,rfl,?_,fun z=> ?_⟩,fun j M O=> ?_,fun q aA=>.inr (GA q aA)⟩
 ·have:=(fr _ (List.mem_map_of_mem aA)).2
  (refine bt ag.1 ?_;refine B gW ?_;refine B (if_neg (fun e=>by injection e with e;exact AM this e)) ?_)
  exact un q aA
 ·(refine bt ag.1 ?_;refine B gW ?_;refine B (if_pos rfl) ?_);rfl
 ·have:=(fr _ z).2;exact(EW this).elim
 ·by_cases e:j=(N:Int)+1
  ·exact .inl e
  ·exact .inr (Cw j M (by exact wq O e))
theorem DV {v w:H} (h:t≠u):((per.set t v).set u w)=(per.set u w).set t v:=List.set_comm v w h
theorem IJ {x y z:H} (h:t≠u):((per.set t x).set u y).set t z=(per.set u y).set t z:=by(refine B (DV h) ?_;refine B lS ?_;rfl)
theorem Ck {ps:List da} {w:Nat} (ea:w=2\/w=3\/w=4) (an:ps.length<=20) (iW:t≠u) (aG:per[t]? =some (.V [])) (b2:per[u]? =some (.V [])):
  ∃tab a6 N x iV,aH b (m+8) "build_pages" [bB t u,.am (ps.map fun p:da=>H.V p.d),.int w] per=some (.ret (.U iV),(per.set u (.V [(.str "Root",au a6)])).set t (.V tab))/\
   eb tab [(.str "Root",au a6)] N a6 x/\j2 N a6 x/\cB (x.ai [])/\(cj (x.ai [])).map Prod.snd=ps/\N<=3*ps.length+6:=by
 have NC:eI [] 0 []:=⟨rfl,fun q aA=>(List.not_mem_nil aA).elim,List.nodup_nil,fun j M O=>by exact(Jr M O).elim,fun q aA=>(List.not_mem_nil aA).elim⟩
 refine cm (eI.ma ps NC) ?_;intro md Da
 rw [List.nil_append] at md Da
 replace md:=(Nat.zero_add _)▸md
 obtain⟨c1,ak⟩:=BW (t:=t) (R:=aJ b (aH b (m+7)) (aH false (m+7)) 38 ul.2) (elt:=ul.1) (x:="one") (L:=[("shelf",.U (bB t u))]) (f:=vZ) (items:=ps.map fun p:da=>H.V p.d) (per:=per) (tab:=[]) (N:=0) (fs:=⟨[("shelf",.U (bB t u))],per⟩)
  (fun v ay per tab N M O Y=>by obtain⟨p,_,rfl⟩:=List.mem_map.mp ay;exact Pe (m:=m+2) M O Y) aG rfl (by refine B (List.length_map _) ?_;exact Ni an) (.inl rfl)
 have Q5:(ps.map fun p:da=>H.V p.d).map vZ=ps.map yU:=by
  refine B List.map_map ?_
  apply List.map_congr_left
  rintro ⟨n,w,r⟩ _
  cases r<;>rfl
 (replace ak:=Q5▸ak;replace ak:=(List.length_map _)▸ak;replace ak:=Ld▸ak)
 refine t3 (Sx (b:=b) (CQ:=aH false (m+7)) (m:=m+2) (t:=t) (u:=u) (pd:=.am (ps.map fun p:da=>H.V p.d)) ea ps.length (Uh (N:=0)) md (jJ aG (w:=.V (o2 [] 0 (ps.map yU)))) (fuel:=lx) (by exact Jw an) (by unfold lx;exact Sk an)) ?_;intro dc f9 c5 ar lO Yc PW vi
 replace ar:=lS▸ar
 have zC:=eI.node (d:=[]) (g:=dc) (r:=[]) (by(refine B (List.nil_append _) ?_;refine B (List.append_nil _) ?_);exact lO)
 have hG:=eI.cj (d:=[]) (g:=dc) (r:=[]) (k:=(f9:Int)+1) (par:=none) (cnt:=none)
 rw [List.nil_append] at zC hG
 (replace hG:=(List.nil_append _)▸hG;replace hG:=(List.append_nil _)▸hG)
 have e:af.bD [] [af.node ((f9:Int)+1) none none dc]=(af.node ((f9:Int)+1) none none dc).ai []:=List.append_nil _
 replace hG:=e▸hG
 refine eg (zC.Tm ⟨_,_,_,_,rfl⟩ (by exact U8 an vi)) ?_;intro qe XJ LI
 refine qC (BA qe LI) ?_;intro UF x d3 dS fH iX gH
 refine⟨UF,_,f9+1+1,x,au ((f9:Int)+1),?_,dS,fun j M O=> ?_,fH,?_,by exact Kx vi⟩
 ·refine c7 KS ?_
  have rd:∀{v},(per.set t v)[u]? =some (.V []):=(ut iW).trans b2
  have bV:=rR (b:=b) (m:=m+6) (u:=u) (v:=oS (.am (hh dc))) (jJ aG (w:=.V c5)) lO.fY (by exact Uf an vi)
  replace bV:=lS▸bV
  have cD:=rR (b:=b) (m:=m+6) (u:=u) (v:=.V (ly ((f9:Int)+1))) (jJ aG (w:=.V (c5++[(.int ((f9:Int)+1),.aF [.int 0,oS (.am (hh dc))])]))) zC.fY (by exact Nx an vi)
  replace cD:=lS▸cD
  have UT:=A2 (b:=b) (m:=m+4) aG b2
  have aP:=A2 (b:=b) (m:=m+4) (u:=u) (jJ aG (w:=.V (c5++[(.int ((f9:Int)+1),.aF [.int 0,oS (.am (hh dc))])]))) rd
  have SK:=rY (b:=b) (m:=m+6) (per:=per.set t (.V (c5++[(.int ((f9:Int)+1),.aF [.int 0,oS (.am (hh dc))])]))) (hd:=[]) (ch:=ly ((f9:Int)+1)) ⟨fun q aA=>by
   unfold ly at aA
   rcases List.mem_cons.mp aA with rfl|aA
   ·exact⟨_,rfl,rfl⟩
   ·rw [List.mem_singleton] at aA;subst aA;exact⟨_,rfl,rfl⟩,by unfold ly;simp [uB]⟩ (Nat.le_of_ble_eq_true rfl)
  have vW:=d3 (b:=b) (m:=m+1) (t:=t) (u:=u) (per:=(per.set t (.V (c5++[(.int ((f9:Int)+1),.aF [.int 0,oS (.am (hh dc))])]++[(.int ((f9+1:Nat)+1:Int),.aF [.int 0,.V (ly ((f9:Int)+1))])]))).set u (.V [(.str "Root",au ((f9+1:Nat)+1:Int))]))
   (by refine B (DV iW) ?_;exact jJ ((ut (Ne.symm iW)).trans aG)) (jJ rd)
  replace vW:=(IJ iW)▸vW
  apply dq rfl
  ·refine aO (co false (cO rfl rfl rfl rfl (oV (x:=(w:Int)) (y:=2) (decide_eq_false (by exact Ia ea))) rfl) rfl) ?_
   refine aO (fs₁:=⟨[("shelf",.U (bB t u)),("page_dicts",.U (.am (ps.map fun p:da=>H.V p.d))),("width",.U (.int w)),("home",.U .none)],per⟩) (de (mV true (cO (d0 rfl rfl rfl rfl rfl UT) rfl rfl rfl rfl rfl) rfl) rfl) ?_
   refine aO (fz (h8 (g4 rfl (dt (r:=.U (.am (ps.map fun p:da=>H.V p.d))) rfl rfl)) (by refine B (List.length_map _) ?_;unfold a4;exact T3 an) rfl ak) rfl) ?_
   refine aO (qR ar) ?_
   refine aO (de (d0 rfl rfl rfl rfl (bM (qn (v:=gG "Pages") (w:=.am (hh dc)) rfl rfl (by decide+kernel)) rfl rfl) bV) rfl) ?_
   refine aO (fz (dr rfl (bM (d0 rfl rfl rfl rfl rfl aP) rfl (bM (qn (v:=gG "Catalog") (w:=au ((f9:Int)+1)) rfl rfl (by decide+kernel)) rfl rfl)) SK) rfl) ?_
   refine aO (co true rfl (aO (gL (k:=.str "Root") (r:=.U (.per u)) (dt (d0 rfl rfl rfl rfl rfl cD) rfl) rfl rfl (w0 (l:=[]) rd rfl (Nat.zero_le _))) rfl)) ?_
   refine aO (mx (by decide+kernel) rfl vW) ?_
   exact cw (dE rfl rfl)
  ·rfl
 ·refine B gH ?_;exact XJ j M O
 ·(refine B iX ?_;refine B hG ?_;refine B PW ?_;refine B Da ?_);rfl
end
end Mine
end
section
open PySem
namespace Mine
theorem Ub:ds "page_faults"=some (aI 39):=by kernel_rfl
section
variable{b:Bool} {C CQ:ct} {n:Nat} {J aW:Scope} {fs fs₁ fs₂ fs₃ hm fs':X} {R:bk} {o:Option (bE×X)} {p:Pos} {m:Nat} {t u:Nat} {per:List H} {tab bJ:cF} {N:Nat} {a6:Int} {x:af}
theorem Bx {c:Int}:eK .NotEq (.int c) (.int c)=some false:=by
 show some (!(c==c))=_;simp
theorem eb.cnt (h:eb tab bJ N a6 x) (hs:cB (x.ai [])):x.oT:=Qf.1 x [] h.ex (fun _ _=>List.not_mem_nil) fun q aA an=>(hs q aA).2 an
theorem Cp:x.bh.length=(cj (x.ai [])).length:=by(refine bt (pS.1 x []) ?_;refine B (List.length_map _) ?_;rfl)
theorem Fc (h:eb tab bJ N a6 x) (hs:cB (x.ai [])) (aG:per[t]? =some (.V tab)) (b2:per[u]? =some (.V bJ)):aH b (m+5) "page_count" [bB t u] per=some (.ret (.U (.int (cj (x.ai [])).length)),per):=by
 have hc:=h.cnt hs
 refine jl h.node ?_;intro k par cnt kids u;subst u
 refine cm hc ?_;clear hc;intro u;subst u;intro _
 refine bt Cp ?_
 exact XM aG b2 h.iV (by cases par<;>rfl) (Int.natCast_nonneg _)
theorem Aw (h:eb tab bJ N a6 x) (hs:cB (x.ai [])) (aG:per[t]? =some (.V tab)) (b2:per[u]? =some (.V bJ)) {a:Nat} {k:Int} {q:da} (bz:(cj (x.ai []))[a]? =some (k,q)):∃par,aH b (m+6) "page_at" [bB t u,.int a] per=some (.ret (.U (mr k (dY par none (.inl q)))),per):=by
 have hc:=h.cnt hs
 have aq:=h.len
 have fi:=h.fx
 have lI:a<(cj (x.ai [])).length:=(List.getElem?_eq_some_iff.mp bz).1
 refine xp ((OD (b:=b) (CQ:=aH false (m+5)) (n:=19) (m:=m) (t:=t) (u:=u) (per:=per) aG (by refine B h.fY.len ?_;exact Sa fi) (a:=(a:Int))).1 x [] a lx h.ins hc (by refine B Cp ?_;exact lI) (by(refine B h.fY.len ?_;refine B List.length_nil ?_);exact TQ aq) (by unfold lx;exact SR aq fi)) ?_;intro cX cI par ab' dc ak ar
 have bP:=congrArg (fun l=>l[a]?) (pS.1 x [])
 (replace bP:=List.getElem?_map▸bP;replace bP:=ar▸bP;replace bP:=bz▸bP)
 cases bP
 refine⟨par,c7 RH ?_⟩
 have sP:=Fc (b:=b) (m:=m) h hs aG b2
 have Td:=wa (b:=b) (m:=m+2) aG b2 (v:=au a6) (by refine B h.bJ ?_;rfl) (.rP h.jw rfl)
 have aY:=Eg (b:=b) (m:=m+1) (u:=u) (ab:=[]) aG h.ins
 have aB:=Eb (b:=b) (m:=m+2) (u:=u) (k0:=cX) (ab:=ab'.map au) (pg:=true) aG (qL (par:=par) (cnt:=none) (p:=cI)).1 (Nat.le_trans (Nat.le_of_lt (q1 (q:=⟨cX,par,none,.inl cI,[]⟩))) (by unfold a4;exact GS))
 apply dq rfl
 ·refine aO (fs₁:=⟨[("shelf",.U (bB t u)),("at",.U (.int a)),("spot",.U (x.sv []))],per⟩) (de (dr rfl (bM rfl rfl (bM (f7 rfl (d0 rfl rfl rfl rfl rfl Td) (mR (kk:=.str "Pages") (l:=ly x.num) (x:=au x.num) rfl rfl rfl rfl rfl)) rfl rfl)) aY) rfl) ?_
  refine aO (de rfl rfl) ?_
  refine aO (co false (i4 (uU (z:=true) (c:=.int a) (c':=.U (.int (cj (x.ai [])).length)) rfl rfl rfl rfl (qz (Int.natCast_nonneg _)) (dr rfl rfl sP) rfl rfl (oV (decide_eq_true (by exact vu lI))))) rfl) ?_
  refine aO (qR ak) ?_
  exact cw (dE (x3 rfl (by decide+kernel) (by decide+kernel) (by decide+kernel) (by decide+kernel) rfl (bM rfl rfl (bM (dr rfl rfl aB) rfl rfl)) rfl) rfl)
 ·rfl
noncomputable def G4 (t u:Nat) (found:List H) (cts:cF) (per:List H):X:=⟨[("shelf",.U (bB t u)),("found",.U (.am found)),("counts",.aD (.V cts)),("faults",.aD (.am []))],per⟩
noncomputable def uq (t u:Nat) (found:List H) (cts:cF) (s k:H) (per:List H):X:=⟨[("shelf",.U (bB t u)),("found",.U (.am found)),("counts",.aD (.V cts)),("faults",.aD (.am [])),("spot",.U s),("number",.U k)],per⟩
theorem G7 {found:List H} {cts:cF} (aG:per[t]? =some (.V tab)):∀{L:List bg} {fs:X},(fs=G4 t u found cts per\/∃s k,fs=uq t u found cts s k per)->(∀q∈L,q.par=q.ab.getLast? /\q.ab.length<500/\(q.pg=false->∃c,q.cnt=some c/\bb (.int q.k) cts=some (.int c)))->
  ∃fs',f4 (aJ b (aH b (m+2)) CQ (n+20) (bN (aI 39))) (bN (aI 39)) "spot" (d5 (cc (aI 39) 3)) (L.map fun q=>q.sp.v) fs=some (.next,fs')/\(fs'=G4 t u found cts per\/∃s k,fs'=uq t u found cts s k per)
 |[],fs,aB,_=>⟨fs,rfl,aB⟩
 |q::L,fs,aB,h=>by
  refine eg (h q List.mem_cons_self) ?_;intro M O Y
  refine ba (G7 (L:=L) (fs:=uq t u found cts q.sp.v (.int q.k) per) aG (.inr ⟨_,_,rfl⟩) fun r aP=>h r (List.mem_cons_of_mem _ aP)) ?_;intro fs' ak ar
  refine⟨fs',?_,ar⟩
  have an:=EV (b:=b) (m:=m) (per:=per) (Gh (q:=q) (.inl M) O (by have:=q1 (q:=q);exact Dq this))
  have Ri:j5 q.sp q.par=true:=by unfold j5;exact decide_eq_true M
  replace an:=Ri▸an
  have lP:∃fs₁,eQ (bN (aI 39)) "spot" (.U q.sp.v) fs=some fs₁/\(aJ b (aH b (m+2)) CQ (n+20) (bN (aI 39))).dg (((d5 (cc (aI 39) 3))[0]?).getD default) fs₁=some (.next,uq t u found cts q.sp.v (.int q.k) per):=by
   rcases aB with rfl|⟨s,k,rfl⟩<;>exact⟨_,rfl,de rfl rfl⟩
  refine ba lP ?_;clear lP;intro fs₁ bV cD
  refine fL bV ?_ ak
  refine aO (r:=(d5 (cc (aI 39) 3)).drop 1) cD (aO (co false (i4 (t:=true) (j0 (dr rfl rfl an))) rfl) ?_)
  obtain⟨k,par,cnt,e,ab⟩:=q
  cases e with
  |inl p=>
   have aR:bb (.str "MediaBox") (ep (dY par cnt (.inl p)))=some (.am [.int 0,.int 0,.int p.w,.int 9]):=(yE (by simp [fR])).trans (by obtain⟨n,w,r⟩:=p;cases r<;>rfl)
   exact aO (co false (om rfl) rfl) (aO (co false (kU rfl (cO rfl rfl rfl rfl (Vh (kk:=.str "MediaBox") rfl (by show(!(bb (.str "MediaBox") (ep (dY par cnt (.inl p)))).isSome)=false;refine B aR ?_;rfl)) rfl)) rfl) rfl)
  |inr l=>
   refine ba (Y rfl) ?_;intro c ez ey
   have ez:cnt=some c:=ez
   subst ez
   exact aO (co false (kU rfl (cO (d0 rfl rfl rfl rfl rfl (la aG (v:=.int c) (by cases par<;>rfl) (.hI rfl))) (f0 rfl rfl rfl rfl (pj (kk:=.int k) rfl ey)) rfl rfl Bx rfl)) rfl) (aO (co false (om rfl) rfl) rfl)
end
end Mine
end
section
open PySem
namespace Mine
theorem CD:ds "told"=some (aI 15):=by kernel_rfl
theorem Mj:ds "Shelf.told"=some (cH 19 5):=by kernel_rfl
section
variable{b:Bool} {C CQ:ct} {n:Nat} {J aW:Scope} {fs fs₁ fs₂ fs₃ hm fs':X} {R:bk} {o:Option (bE×X)} {p:Pos} {m:Nat} {t u:Nat} {per:List H} {tab bJ:cF} {N:Nat} {a6:Int} {x:af}
theorem OE (h:eb tab bJ N a6 x) (hs:cB (x.ai [])) (aG:per[t]? =some (.V tab)) (b2:per[u]? =some (.V bJ)):aH b (m+6) "page_faults" [bB t u] per=some (.ret (.b5 (.am [])),per):=by
 have aq:=h.len
 have fi:=h.fx
 have ak:=tS (b:=b) (m:=m) aG b2 h.iV
 replace ak:=wj▸ak
 have ar:aH b (m+5) "counts_of" [.am ((x.ai []).map fun q=>q.sp.v)] per=some (.ret (.b5 (.V (m0 ((x.ai []).map bg.sp)))),per):=by
  have bx:∀y∈(x.ai []).map bg.sp,∀k∈y.ab,gg (((x.ai []).map bg.sp).foldl he []) k:=by
   intro y aQ k ag
   refine ba (List.mem_map.mp aQ) ?_;intro q aA u;subst u
   refine et (tm.1 x [] q aA) ?_;intro dW ak _ ar
   have ag:k∈q.ab:=ag
   (replace ag:=ak▸ag;replace ag:=(List.nil_append _)▸ag)
   refine ba (List.mem_map.mp (ar k ag)) ?_;intro cI mz u;subst u
   exact⟨_,vk h.ex cI mz⟩
  have ay:((x.ai []).map fun q=>q.sp.v)=((x.ai []).map bg.sp).map cQ.v:=by refine B List.map_map ?_;rfl
  have i9:((x.ai []).map bg.sp).length<900:=by refine B (List.length_map _) ?_;exact A1 aq fi
  have b1:∃s r,(x.ai []).map bg.sp=s::r:=by
   refine jl h.node ?_;intro k par cnt kids u;subst u
   exact⟨_,_,rfl⟩
  refine jd b1 ?_;clear b1;intro s r vj
  refine B ay ?_
  rw [vj] at bx i9|-
  exact G5 (m:=m+4) i9 bx
 obtain⟨fs',bP,cY⟩:=G7 (b:=b) (CQ:=aH false (m+5)) (n:=19) (m:=m+3) (u:=u) (found:=(x.ai []).map fun q=>q.sp.v) (cts:=m0 ((x.ai []).map bg.sp)) aG (L:=x.ai []) (.inl rfl) fun q aA=>by
  refine et (tm.1 x [] q aA) ?_;intro dW bH b8 _
  refine⟨(hs q aA).1,by(refine B bH ?_;refine B (List.nil_append _) ?_);exact Ga aq fi b8,fun an=>⟨_,(hs q aA).2 an,?_⟩⟩
  have:=xL (L:=x.ai []) (vk (d:=[]) h.ex q aA)
  replace this:=an▸this
  refine this.trans ?_
  simp
 refine c7 Ub ?_
 have mF:getL "faults" fs'.loc=some (.aD (.am []))/\fs'.per=per:=by
  rcases cY with rfl|⟨s,k,rfl⟩<;>exact⟨rfl,rfl⟩
 apply dq rfl
 ·refine aO (fz (dr rfl (bM rfl rfl rfl) ak) rfl) ?_
  refine aO (fz (dr rfl (bM rfl rfl rfl) ar) rfl) ?_
  refine aO (fz rfl rfl) ?_
  refine aO (gT (g4 rfl (dt (r:=.U (.am ((x.ai []).map fun q:bg=>q.sp.v))) rfl rfl)) bP) ?_
  exact cw (sj rfl (by decide+kernel) mF.1)
 ·exact mF.2
theorem rn {v:List H}:aH b (m+1) "told_objects" v per=aH b (m+1) "told" v per:=by kernel_rfl
theorem B6 {i:Int}:aH b (m+2) "told" [au i] per=some (.ret (.U (.aF [.str "ref",.int i,.int 0])),per):=by kernel_rfl
theorem Ed {s:Str}:aH b (m+2) "told" [gG s] per=some (.ret (.U (.aF [.str "name",.str s])),per):=by kernel_rfl
theorem Cz {i:Int}:aH b (m+2) "told" [.int i] per=some (.ret (.U (.aF [.str "int",.int i])),per):=by kernel_rfl
theorem LF {l:List H}:aH b (m+1) "kind_of" [.am l] per=some (.ret (.U (.str "array")),per):=by kernel_rfl
theorem NF {l:cF}:aH b (m+1) "kind_of" [.V l] per=some (.ret (.U (.str "dict")),per):=by kernel_rfl
theorem us {elt:Expr} {x:Str} {L:List (Str×cg)} {l:List (H×H)}:∀{fs:X},(∀e∈l,d2 R elt ⟨bX x (.U e.1) L,per⟩=some (e.2,⟨bX x (.U e.1) L,per⟩))->(fs=⟨L,per⟩\/∃w,fs=⟨bX x w L,per⟩)->∃c1,gd R x [] elt (l.map Prod.fst) fs=some (l.map Prod.snd,⟨c1,per⟩):=by
 induction l with
 |nil=>exact fun _ aB=>sU aB
 |cons v r ih=>exact fun h aB=>(ih (fun y aQ=>h y (List.mem_cons_of_mem _ aQ)) (.inr ⟨.U v.1,rfl⟩)).elim fun l e=>⟨l,wE ((congrArg (d2 R elt) (rk v.1 aB)).trans (h v List.mem_cons_self)) e⟩
theorem J8 {elt c:Expr} {x:Str} {L:List (Str×cg)} {l:List (H×H)}:∀{fs:X},(∀e∈l,R.dD c ⟨bX x (.U e.1) L,per⟩=some (true,⟨bX x (.U e.1) L,per⟩)/\d2 R elt ⟨bX x (.U e.1) L,per⟩=some (e.2,⟨bX x (.U e.1) L,per⟩))->(fs=⟨L,per⟩\/∃w,fs=⟨bX x w L,per⟩)->∃c1,gd R x [c] elt (l.map Prod.fst) fs=some (l.map Prod.snd,⟨c1,per⟩):=by
 induction l with
 |nil=>exact fun _ aB=>sU aB
 |cons v r ih=>exact fun h aB=>(ih (fun y aQ=>h y (List.mem_cons_of_mem _ aQ)) (.inr ⟨.U v.1,rfl⟩)).elim fun l e=>⟨l,bd ((congrArg (R.dD c) (rk v.1 aB)).trans (h v List.mem_cons_self).1) (bd (h v List.mem_cons_self).2 (bd e rfl))⟩
noncomputable def rQ (i:Nat):Expr×List Expr×Scope:=(en (ij (d5 (cc (aI 15) i)) 0) [1,1,0],[en (ij (d5 (cc (aI 15) i)) 0) [1,1,2]],iH (en (ij (d5 (cc (aI 15) i)) 0) [1,1]))
theorem T8 {l:List (H×H)} (h:∀e∈l,aH b (m+1) "told" [e.1] per=some (.ret (.U e.2),per)) (aE:∀e∈l,iC e.1=true) (aq:l.length<900):aH b (m+2) "told" [.am (l.map Prod.fst)] per=some (.ret (.U (.aF (.str "array"::l.map Prod.snd))),per):=by
 refine c7 CD ?_
 obtain⟨c1,e⟩:=us (R:=aJ b (aH b (m+1)) (aH false (m+1)) 35 (rQ 1).2.2) (per:=per) (elt:=(rQ 1).1) (x:="part") (L:=[]) (l:=l) (fs:=⟨[],per⟩)
  (fun e aX=>dt (dr rfl (bM rfl rfl rfl) (rn.trans (h e aX))) rfl) (.inl rfl)
 have M:gB "tuple" (.am (l.map Prod.snd))=some (.U (.aF (l.map Prod.snd))):=vR (by refine B (List.length_map _) ?_;unfold a4;exact jR aq)
 apply dq rfl
 ·refine aO (de (dr rfl rfl LF) rfl) ?_
  exact cw (co true rfl (cw (dE (dC rfl (fe rfl (h8 (g4 rfl (dt (r:=.U (.am (l.map Prod.fst))) rfl rfl)) (by refine B (List.length_map _) ?_;unfold a4;exact jR aq) rfl e) rfl M) rfl rfl (uu (x:=[.str "array"]) (y:=l.map Prod.snd) (by refine B (List.length_map _) ?_;unfold a4;simp;exact D5 aq))) rfl)))
 ·rfl
end
end Mine
end
section
open PySem
namespace Mine
noncomputable def gM:Nat->H->Bool
 |0,_=>false
 |_+1,.int _=>true
 |_+1,.str _=>true
 |n+1,.aF l=>l.all (gM n)
 |_,_=>false
theorem Cd {f:H->H->Option Bool} (l:List H) (h:∀x∈l,f x x=some true):lT f l l=some true:=by
 induction l with
 |nil=>rfl
 |cons x r ih=>
  exact i1 (h x List.mem_cons_self) (ih fun y aQ=>h y (List.mem_cons_of_mem _ aQ)) rfl
theorem yh (n:Nat):∀{v:H},gM n v=true->eP n v v=some true:=by
 induction n with
 |zero=>intro v h;cases h
 |succ n ih=>
  intro v h
  cases v with
  |int i=>show some (i==i)=_;(refine B (beq_self_eq_true _) ?_;rfl)
  |str s=>show some (s==s)=_;(refine B (beq_self_eq_true _) ?_;rfl)
  |aF l=>exact Cd l fun x ae=>ih (List.all_eq_true.mp h x ae)
  |_=>cases h
theorem eq_self {l:List H} (h:gM eG (.aF l)=true):eK .Eq (.aF l) (.aF l)=some true:=yh _ h
theorem V7 {l:List H} (h:gM eG (.aF l)=true):eK .NotEq (.aF l) (.aF l)=some false:=by
 show(eP eG (.aF l) (.aF l)).map (!·)=_
 refine B (yh _ h) ?_;rfl
noncomputable def l1 (i:Int):H:=.aF [.str "int",.int i]
noncomputable def hN (i:Int):H:=.aF [.str "ref",.int i,.int 0]
noncomputable def jS (s:Str):H:=.aF [.str "name",.str s]
noncomputable def Vy (w:Int):H:=.aF [.str "array",l1 0,l1 0,l1 w,l1 9]
section
variable{b:Bool} {C CQ:ct} {n:Nat} {J aW:Scope} {fs fs₁ fs₂ fs₃ hm fs':X} {R:bk} {o:Option (bE×X)} {p:Pos} {m:Nat} {t u:Nat} {per:List H} {tab bJ:cF} {N:Nat} {a6:Int} {x:af}
theorem z2 {d:cF} {l:List (Str×H)} (M:gB "sorted" (.V d)=some (.b5 (.am (l.map fun e=>.str e.1)))) (h:∀e∈l,∃v,bb (.str e.1) d=some v/\fP v=false/\iC v=true/\aH b (m+1) "told" [v] per=some (.ret (.U e.2),per)) (aq:l.length<900):
  aH b (m+2) "told" [.V d] per=some (.ret (.U (.aF (.str "dict"::l.map fun e=>.aF [.str e.1,e.2]))),per):=by
 refine c7 CD ?_
 obtain⟨c1,e⟩:=J8 (R:=aJ b (aH b (m+1)) (aH false (m+1)) 35 (rQ 2).2.2) (per:=per) (elt:=(rQ 2).1) (c:=(rQ 2).2.1.headD default) (x:="key") (L:=[("value",.U (.V d))]) (l:=l.map fun e=>(.str e.1,.aF [.str e.1,e.2])) (fs:=⟨[("value",.U (.V d))],per⟩)
  (fun e aX=>by
   obtain⟨⟨k,w⟩,hK,rfl⟩:=List.mem_map.mp aX
   refine gw (h _ hK) ?_;intro v bH b8 c9 fo
   exact⟨cO (f0 rfl rfl rfl rfl (pj (kk:=.str k) rfl bH)) rfl (t4 c9) rfl (x:=true) (by show some (!fP v)=_;refine B b8 ?_;rfl) rfl,
    dt (kK (bM rfl rfl (bM (dr rfl (bM (f0 rfl rfl rfl rfl (pj (kk:=.str k) rfl bH)) rfl rfl) (rn.trans fo)) rfl rfl)) (Nat.le_of_ble_eq_true rfl)) rfl⟩) (.inl rfl)
 (replace e:=List.map_map▸e;replace e:=List.map_map▸e)
 have O:gB "tuple" (.am (l.map (Prod.snd∘fun e:Str×H=>(H.str e.1,H.aF [.str e.1,e.2]))))=some (.U (.aF (l.map fun e=>.aF [.str e.1,e.2]))):=vR (by refine B (List.length_map _) ?_;unfold a4;exact jR aq)
 apply dq rfl
 ·refine aO (de (dr rfl rfl NF) rfl) ?_
  refine aO (co false rfl rfl) ?_
  exact cw (co true rfl (cw (dE (dC rfl (fe rfl (h8 (g4 rfl (dt (fe rfl (fs₁:=⟨[("value",.U (.V d)),("kind",.U (.str "dict"))],per⟩) (r:=.U (.V d)) rfl rfl M) rfl)) (by refine B (List.length_map _) ?_;unfold a4;exact jR aq) rfl e) rfl O) rfl rfl (uu (x:=[.str "dict"]) (y:=l.map fun e=>.aF [.str e.1,e.2]) (by refine B (List.length_map _) ?_;unfold a4;simp;exact D5 aq))) rfl)))
 ·rfl
noncomputable def gx (p:da) (v9:List H) (par:Option Int):H:=.aF (.str "dict"::.aF [.str "MediaBox",Vy p.w]::.aF [.str "N",l1 p.n]::((par.map fun j=>H.aF [.str "Parent",hN j]).toList++((if p.kc then [.aF [.str "Rotate",l1 90]] else [])++v9)))
theorem XT {p:da} {par:Option Int}:aH b (m+5) "told" [.V (dY par none (.inl p))] per=some (.ret (.U (gx p [.aF [.str "Type",jS "Page"]] par)),per):=by
 obtain⟨n,w,r⟩:=p
 cases r<;>cases par<;>kernel_rfl
theorem QM {p:da}:aH b (m+5) "told" [.V p.d] per=some (.ret (.U (gx p [] none)),per):=by
 obtain⟨n,w,r⟩:=p
 cases r<;>kernel_rfl
noncomputable def Cs (par:Option Int) (c:Int) (l:List Int):H:=.aF (.str "dict"::.aF [.str "Count",l1 c]::.aF [.str "Kids",.aF (.str "array"::l.map hN)]::((par.map fun j=>H.aF [.str "Parent",hN j]).toList++[.aF [.str "Type",jS "Pages"]]))
theorem Op {par:Option Int} {c:Int} {l:List Int} (aq:l.length<900):aH b (m+5) "told" [.V (dY par (some c) (.inr l))] per=some (.ret (.U (Cs par c l)),per):=by
 have ag:=T8 (b:=b) (m:=m+2) (per:=per) (l:=l.map fun i=>(au i,hN i)) (fun e aX=>by obtain⟨i,_,rfl⟩:=List.mem_map.mp aX;exact B6 (m:=m+1)) (fun e aX=>by obtain⟨i,_,rfl⟩:=List.mem_map.mp aX;rfl) (by refine B (List.length_map _) ?_;exact aq)
 (replace ag:=List.map_map▸ag;replace ag:=List.map_map▸ag)
 cases par with
 |none=>
  refine z2 (m:=m+3) (l:=[("Count",l1 c),("Kids",.aF (.str "array"::l.map hN)),("Type",jS "Pages")]) (by kernel_rfl) (fun e aX=> ?_) (Nat.le_of_ble_eq_true rfl)
  simp only [List.mem_cons,List.not_mem_nil,or_false] at aX
  rcases aX with rfl|rfl|rfl
  ·exact⟨_,rfl,rfl,rfl,Cz (m:=m+2)⟩
  ·exact⟨_,rfl,rfl,rfl,ag⟩
  ·exact⟨_,rfl,rfl,rfl,Ed (m:=m+2)⟩
 |some j=>
  refine z2 (m:=m+3) (l:=[("Count",l1 c),("Kids",.aF (.str "array"::l.map hN)),("Parent",hN j),("Type",jS "Pages")]) (by kernel_rfl) (fun e aX=> ?_) (Nat.le_of_ble_eq_true rfl)
  simp only [List.mem_cons,List.not_mem_nil,or_false] at aX
  rcases aX with rfl|rfl|rfl|rfl
  ·exact⟨_,rfl,rfl,rfl,Cz (m:=m+2)⟩
  ·exact⟨_,rfl,rfl,rfl,ag⟩
  ·exact⟨_,rfl,rfl,rfl,B6 (m:=m+2)⟩
  ·exact⟨_,rfl,rfl,rfl,Ed (m:=m+2)⟩
theorem Ww {k:Int}:aH b (m+5) "told" [.V (ly k)] per=some (.ret (.U (.aF [.str "dict",.aF [.str "Pages",hN k],.aF [.str "Type",jS "Catalog"]])),per):=by kernel_rfl
theorem xk {p:da} {s:Str} {k:Nat} {par:Option Int}:gM (k+8) (gx p [.aF [.str "Type",jS s]] par)=true/\gM (k+8) (gx p [] par)=true:=by
 obtain⟨n,w,r⟩:=p
 cases r<;>cases par<;>exact⟨rfl,rfl⟩
theorem Hm {k:Nat} {par:Option Int} {c:Int} {l:List Int}:gM (k+8) (Cs par c l)=true:=by
 have h:(l.map hN).all (gM (k+5))=true:=by
  refine B List.all_map ?_
  exact List.all_eq_true.mpr fun _ _=>rfl
 have O:gM (k+6) (.aF (.str "array"::l.map hN))=true:=by
  show(true&&(l.map hN).all (gM (k+5)))=true
  refine B h ?_;rfl
 cases par
 ·show(true&&(true&&((true&&(gM (k+6) (.aF (.str "array"::l.map hN))&&true))&&true)))=true
  refine B O ?_;rfl
 ·show(true&&(true&&((true&&(gM (k+6) (.aF (.str "array"::l.map hN))&&true))&&true)))=true
  refine B O ?_;rfl
end
end Mine
end
section
open PySem
namespace Mine
theorem PM {a:Int} (l:List Int) (h:∀b∈l,¬a<b):jK a l=l++[a]:=by
 induction l with
 |nil=>rfl
 |cons b r ih=>
  unfold jK
  (refine B (if_neg (h b List.mem_cons_self)) ?_;refine B (ih fun c hc=>h c (List.mem_cons_of_mem _ hc)) ?_);rfl
noncomputable def hR (N:Nat):List Int:=(List.range N).map fun(i:Nat)=>(i:Int)+1
theorem Q3 {N:Nat}:hR (N+1)=hR N++[(N:Int)+1]:=by unfold hR;(refine B List.range_succ ?_;refine B List.map_append ?_);rfl
theorem El {N:Nat} {j:Int} (h:j∈hR N):1<=j/\j<=N:=by
 refine ba (List.mem_map.mp h) ?_;intro i M u;subst u
 have:=List.mem_range.mp M
 exact XI this
theorem Kf (N:Nat):pY (hR N)=hR N:=by
 induction N with
 |zero=>rfl
 |succ N ih=>
  unfold pY at ih|-
  (refine B Q3 ?_;refine B List.foldl_append ?_;refine B ih ?_)
  exact PM _ fun b ah=>by have:=El ah;exact RI this
theorem T0 {l:cF}:∀{ns:List Int},l.map (·.1)=ns.map al.int->oE l=some ns:=by
 induction l with
 |nil=>intro ns h;cases ns<;>first|rfl|cases h
 |cons a r ih=>
  intro ns h
  cases ns with
  |nil=>cases h
  |cons i t=>exact i1 (congrArg Bd (List.cons.inj h).1) (ih (List.cons.inj h).2) rfl
theorem WK {α:Type} {P:α->H->Prop} (L:List α) (h:∀a∈L,∃w,P a w):∃l:List (α×H),l.map Prod.fst=L/\∀e∈l,P e.1 e.2:=by
 induction L with
 |nil=>exact⟨[],rfl,fun e aX=>(List.not_mem_nil aX).elim⟩
 |cons a r ih=>
  refine bT (h a List.mem_cons_self) ?_;intro w ea
  refine ba (ih fun b ah=>h b (List.mem_cons_of_mem _ ah)) ?_;intro l M O
  refine⟨(a,w)::l,by(refine B List.map_cons ?_;refine B M ?_;rfl),fun e aX=> ?_⟩
  rcases List.mem_cons.mp aX with rfl|aX
  ·exact ea
  ·exact O e aX
section
variable{b:Bool} {C CQ:ct} {n:Nat} {J aW:Scope} {fs fs₁ fs₂ fs₃ hm fs':X} {R:bk} {o:Option (bE×X)} {p:Pos} {m:Nat} {t u:Nat} {per:List H} {tab bJ:cF} {N:Nat} {a6:Int} {x:af}
theorem NY (aG:per[t]? =some (.V tab)) (ag:fU tab N) (aL:0<N) (dm:N<64):aH b (m+1) "Shelf.numbers" [bB t u] per=some (.ret (.b5 (.am ((hR N).map .int))),per):=by
 refine c7 VC ?_
 have M:gB "sorted" (.V tab)=some (.b5 (.am ((hR N).map .int))):=by
  have sI:tab.map (·.1)=(hR N).map al.int:=by refine B ag ?_;unfold hR;refine B List.map_map ?_;rfl
  (refine B (Ss (by rw [ag.len];exact dm) (T0 sI)) ?_;refine B (Kf _) ?_;rfl)
 apply dq rfl
 ·exact cw (dE (fe rfl rfl aG M) rfl)
 ·rfl
theorem MQ (h:eb tab bJ N a6 x) (hc:j2 N a6 x) (hs:cB (x.ai [])) {j:Int} (bF:j∈hR N):∃v w,bb (.int j) tab=some (.aF [.int 0,v])/\iC v=true/\(∀b m per,aH b (m+5) "told" [v] per=some (.ret (.U w),per))/\∀k,gM (k+8) w=true:=by
 refine cm (El bF) ?_;intro M O
 rcases hc j M O with rfl|aY
 ·exact⟨_,_,h.jw,rfl,fun _ _ _=>Ww,fun k=>rfl⟩
 ·refine ba (List.mem_map.mp aY) ?_;intro q aA u;subst u
  have bi:=h.ins q aA
  have eT:=hs q aA
  have j4:=yF.1 x [] q aA
  have aq:=h.len
  have fi:=h.fx
  obtain⟨k,par,cnt,e,ab⟩:=q
  cases e with
  |inl p=>exact⟨_,_,bi,rfl,fun _ _ _=>XT,fun k=>xk.1⟩
  |inr l=>
   obtain⟨c,hc⟩:∃c,cnt=some c:=⟨_,eT.2 rfl⟩
   have i9:=(j4 l rfl).length_le
   unfold cA at i9
   replace i9:=(List.length_map _)▸i9
   subst hc
   exact⟨_,_,bi,rfl,fun _ _ _=>Op (by exact FO aq fi i9),fun k=>Hm⟩
noncomputable def zb:Expr×Scope:=(en (cc (cH 19 5) 0) [1,0],iH (en (cc (cH 19 5) 0) [1]))
noncomputable def c4 (pn:H) (tab:cF) (a6:Int) (rest:List H):List H:=pn::.V tab::.V [(.str "Root",au a6)]::rest
theorem RL {pn:H} {rest:List H}:aH b (m+5) "told" [.per 2] (c4 pn tab a6 rest)=some (.ret (.U (.aF [.str "dict",.aF [.str "Root",hN a6]])),c4 pn tab a6 rest):=by kernel_rfl
theorem UC {pn:H} {rest:List H} (h:eb tab [(.str "Root",au a6)] N a6 x) (hc:j2 N a6 x) (hs:cB (x.ai [])) (dm:N<64):∃l,(∀b m,aH b (m+6) "Shelf.told" [bB 1 2] (c4 pn tab a6 rest)=some (.ret (.U (.aF l)),c4 pn tab a6 rest))/\gM eG (.aF l)=true:=by
 have aL:0<N:=by have:=h.fY.at (j:=a6) (by refine B h.jw ?_;rfl);exact L5 this
 obtain⟨l,h1,jM⟩:=WK (P:=fun j w=>∃v,bb (.int j) tab=some (.aF [.int 0,v])/\iC v=true/\(∀b m per,aH b (m+5) "told" [v] per=some (.ret (.U w),per))/\∀k,gM (k+8) w=true) (hR N) fun j bF=>by
  refine jd (MQ h hc hs bF) ?_;intro v w e
  exact⟨w,v,e⟩
 have i9:l.length=N:=by(refine bt (List.length_map (f:=Prod.fst)) ?_;refine B h1 ?_);unfold hR;(refine B (List.length_map _) ?_;refine B List.length_range ?_;rfl)
 have O:gB "tuple" (.am (l.map (Prod.snd∘fun e:Int×H=>(H.int e.1,H.aF [.int e.1,.int 0,e.2]))))=some (.U (.aF (l.map (Prod.snd∘fun e:Int×H=>(H.int e.1,H.aF [.int e.1,.int 0,e.2]))))):=vR (by refine B (List.length_map _) ?_;unfold a4;exact SS dm i9)
 refine⟨[.aF (l.map (Prod.snd∘fun e:Int×H=>(H.int e.1,H.aF [.int e.1,.int 0,e.2]))),.aF [.str "dict",.aF [.str "Root",hN a6]]],fun b m=>c7 Mj ?_,?_⟩
 ·have aE:=NY (b:=b) (m:=m+4) (u:=2) (per:=c4 pn tab a6 rest) (t:=1) rfl h.fY aL dm
  obtain⟨c1,e⟩:=us (R:=aJ b (aH b (m+5)) (aH false (m+5)) 37 zb.2) (per:=c4 pn tab a6 rest) (elt:=zb.1) (x:="number") (L:=[("self",.U (bB 1 2))]) (l:=l.map fun e=>(.int e.1,.aF [.int e.1,.int 0,e.2])) (fs:=⟨[("self",.U (bB 1 2))],c4 pn tab a6 rest⟩)
   (fun e aX=>by
    obtain⟨⟨j,w⟩,hK,rfl⟩:=List.mem_map.mp aX
    refine gw (jM _ hK) ?_;intro v bH b8 c9 _
    have Ay:∀{n g2 hE iG kn fs},fs=(⟨bX "number" (.U (.int j)) [("self",.U (bB 1 2))],c4 pn tab a6 rest⟩:X)->(aJ b (aH b (m+5)) (aH false (m+5)) (n+3) zb.2).a9 (.Subscript (.Attribute (.Name "self" g2) "table" hE) (.Name "number" iG) kn) fs=some (.U (.aF [.int 0,v]),fs):=fun{n g2 hE iG kn fs} e=>by
     subst e
     exact f0 rfl (r:=.U (.per 1)) (v:=.V tab) rfl rfl rfl (pj (kk:=.int j) rfl bH)
    exact dt (kK (bM rfl rfl (bM (f0 rfl (r:=.U (.aF [.int 0,v])) (k:=.int 0) (v:=.aF [.int 0,v]) (Ay rfl) rfl rfl rfl) rfl (bM (dr rfl (bM (f0 rfl (r:=.U (.aF [.int 0,v])) (k:=.int 1) (v:=.aF [.int 0,v]) (Ay rfl) rfl rfl rfl) rfl rfl) (rn.trans (c9 _ _ _))) rfl rfl))) (Nat.le_of_ble_eq_true rfl)) rfl) (.inl rfl)
  (replace e:=List.map_map▸e;replace e:=List.map_map▸e)
  have aR:l.map (Prod.fst∘fun e:Int×H=>(H.int e.1,H.aF [.int e.1,.int 0,e.2]))=(hR N).map .int:=by(refine bt h1 ?_;refine B List.map_map ?_);rfl
  replace e:=aR▸e
  apply dq rfl
  ·refine aO (de (fe rfl (h8 (g4 rfl (dt (d0 rfl rfl rfl rfl rfl aE) rfl)) (by refine B (List.length_map _) ?_;unfold hR;(refine B (List.length_map _) ?_;refine B List.length_range ?_);unfold a4;exact Ta dm) rfl e) rfl O) rfl) ?_
   exact cw (dE (kK (bM rfl rfl (bM (dr rfl rfl (rn.trans RL)) rfl rfl)) (Nat.le_of_ble_eq_true rfl)) rfl)
  ·rfl
 ·show((l.map _).all (gM 30)&&true)=true
  (refine B (Bool.and_true _) ?_;refine B List.all_map ?_)
  refine List.all_eq_true.mpr fun e aX=> ?_
  refine gw (jM e aX) ?_;intro _ _ _ _ an
  show(true&&(true&&(gM 29 e.2&&true)))=true
  refine B (an 21) ?_;rfl
end
end Mine
end
section
open PySem
namespace Mine
theorem PU:ds "_law_refused"=some (aI 54):=by kernel_rfl
theorem Ve:ds "_law_seen"=some (aI 53):=by kernel_rfl
section
variable{b:Bool} {C CQ:ct} {n:Nat} {J aW:Scope} {fs fs₁ fs₂ fs₃ hm fs':X} {R:bk} {o:Option (bE×X)} {p:Pos} {m:Nat} {t u:Nat} {per:List H} {tab bJ:cF} {N:Nat} {a6:Int} {x:af}
theorem Q4 {body h:List Stmt} {jb:Stmt} {c:Str} {q bn:Pos} {r:aV} (hc:(c=("TreeFault":Str)&&J.names.lookup c==some .globalImplicit&&J.names.all (fun p=>p.2 !=.free))=true) (ah:cR (aJ true C CQ n J) body fs=some (.dB,fs₁)) (bx:cR (aJ false CQ CQ n J) (jb::h) fs₁=some (.ret r,fs₂)):
  (aJ true C CQ (n+1) J).dg (.Try body [.ExceptHandler (some (.Name c q)) none (jb::h) bn] [] [] p) fs=some (.ret r,fs₂):=by
 simp only [Bool.and_eq_true] at hc
 exact bq rfl (bd rfl (cT (by simp only [Bool.and_eq_true];exact⟨hc.1.1,hc.1.2,hc.2,rfl⟩) (bd ah (bd bx (bq rfl rfl)))))
theorem E6 {pn:H} {rest:List H} (h:eb tab [(.str "Root",au a6)] N a6 x) (hc:j2 N a6 x) (hs:cB (x.ai [])) (dm:N<64) {a:Int} (bz:a<0\/((cj (x.ai [])).length:Int)<a):
  aH true (m+8) "_law_refused" [bB 1 2,.int a] (c4 pn tab a6 rest)=some (.ret (.U (.bool true)),c4 pn tab a6 rest):=by
 refine c7 PU ?_
 refine ba (UC (pn:=pn) (rest:=rest) h hc hs dm) ?_;intro l ak ar
 have ae:=QB (m:=m+6) (pd:=.V [(.str "N",.int 1)]) rfl (HY (m:=m) (t:=1) (u:=2) (per:=c4 pn tab a6 rest) rfl rfl h.iV (by refine B v7 ?_;exact bz))
 apply dq rfl
 ·refine aO (de (d0 rfl rfl rfl rfl rfl (ak _ (m+1))) rfl) ?_
  exact cw (Q4 rfl (pv (DX (by decide+kernel) (bM rfl rfl (bM rfl rfl (bM (BY rfl) rfl rfl))) ae)) (cw (dE (wT (d0 rfl rfl rfl rfl rfl (ak _ (m+1))) rfl rfl rfl (eq_self ar)) rfl)))
 ·rfl
end
end Mine
end
section
open PySem
namespace Mine
section
variable{b:Bool} {C CQ:ct} {n:Nat} {J aW:Scope} {fs fs₁ fs₂ fs₃ hm fs':X} {R:bk} {o:Option (bE×X)} {p:Pos} {m:Nat} {t u:Nat} {per:List H} {tab bJ:cF} {N:Nat} {a6:Int} {x:af}
noncomputable def S0 (t u:Nat) (found:List H) (per:List H):X:=⟨[("shelf",.U (bB t u)),("found",.aD (.am found))],per⟩
noncomputable def rh (t u:Nat) (found:List H) (pg:H) (per:List H):X:=⟨[("shelf",.U (bB t u)),("found",.aD (.am found)),("page",.U pg)],per⟩
noncomputable def Vq:Expr:=en (ij (d5 (cc (aI 53) 1)) 0) [1]
theorem Rz {found:List H} {k:Int} {p:da} {par:Option Int}:(aJ b (aH b (m+6)) CQ 37 (bN (aI 53))).a9 Vq (rh t u found (mr k (dY par none (.inl p))) per)=some (.U (gx p [.aF [.str "Type",jS "Page"]] none),rh t u found (mr k (dY par none (.inl p))) per):=by
 obtain⟨n,w,r⟩:=p
 cases r<;>cases par<;>kernel_rfl
theorem FQ:∀{l:List (Int×da×Option Int)} {found:List H} {fs:X},(fs=S0 t u found per\/∃pg,fs=rh t u found pg per)->found.length+l.length<900->
  ∃fs',f4 (aJ b (aH b (m+6)) CQ 39 (bN (aI 53))) (bN (aI 53)) "page" (d5 (cc (aI 53) 1)) (l.map fun e=>mr e.1 (dY e.2.2 none (.inl e.2.1))) fs=some (.next,fs')/\getL "found" fs'.loc=some (.aD (.am (found++l.map fun e=>gx e.2.1 [.aF [.str "Type",jS "Page"]] none)))/\fs'.per=per
 |[],found,fs,aB,_=>by
  refine⟨fs,rfl,?_⟩
  (refine B List.map_nil ?_;refine B (List.append_nil _) ?_)
  rcases aB with rfl|⟨pg,rfl⟩<;>exact⟨rfl,rfl⟩
 |(k,p,par)::l,found,fs,aB,aq=>by
  simp only [List.length_cons] at aq
  refine et (FQ (l:=l) (found:=found++[gx p [.aF [.str "Type",jS "Page"]] none]) (fs:=rh t u (found++[gx p [.aF [.str "Type",jS "Page"]] none]) (mr k (dY par none (.inl p))) per) (.inr ⟨_,rfl⟩) (by simp;exact Gb aq)) ?_;intro fs' ak ar bP
  rw [List.append_assoc] at ar
  refine⟨fs',?_,ar,bP⟩
  have lP:eQ (bN (aI 53)) "page" (.U (mr k (dY par none (.inl p)))) fs=some (rh t u found (mr k (dY par none (.inl p))) per):=by
   rcases aB with rfl|⟨pg,rfl⟩<;>rfl
  exact fL lP (aO (oz (f7 rfl rfl (ra (l:=found) rfl (bM Rz rfl rfl) rfl (by unfold a4;exact Cu aq)))) rfl) ak
noncomputable def uO (q:bg):Option (Int×da×Option Int):=match q.c with
 |.inl p=>some (q.k,p,q.par)
 |.inr _=>none
theorem Ek (h:eb tab bJ N a6 x) (aG:per[t]? =some (.V tab)) (b2:per[u]? =some (.V bJ)):aH b (m+8) "_law_seen" [bB t u] per=some (.ret (.b5 (.am (((cj (x.ai [])).map Prod.snd).map fun p=>gx p [.aF [.str "Type",jS "Page"]] none))),per):=by
 have aq:=h.len
 have fi:=h.fx
 have key:∀L:List bg,((L.filter bg.pg).map fun q=>q.sp.v).map zg=(L.filterMap uO).map (fun e=>mr e.1 (dY e.2.2 none (.inl e.2.1)))/\(cj L).map Prod.snd=(L.filterMap uO).map fun e=>e.2.1:=by
  intro L
  induction L with
  |nil=>exact⟨rfl,rfl⟩
  |cons q L ih=>
   obtain⟨k,par,cnt,e,ab⟩:=q
   cases e with
   |inl p=>exact⟨congrArg (List.cons _) ih.1,congrArg (List.cons _) ih.2⟩
   |inr l=>exact ih
 refine cm (key (x.ai [])) ?_;intro k1 k2
 have an:=P1 (b:=b) (m:=m) aG b2 h.iV (by
  refine B vr ?_
  intro v ay
  refine ba (List.mem_map.mp ay) ?_;intro q aA u;subst u
  refine cm (List.mem_filter.mp aA) ?_;intro X8 K9
  refine⟨_,_,_,_,rfl,?_,Nat.le_trans (Nat.le_of_lt (q1 (q:=q))) (by unfold a4;exact GS)⟩
  obtain⟨k,par,cnt,e,ab⟩:=q
  cases e with
  |inl p=>exact(qL (cnt:=cnt)).1
  |inr l=>cases K9)
 (replace an:=vr▸an;replace an:=k1▸an)
 refine et (FQ (b:=b) (CQ:=aH false (m+7)) (m:=m+1) (t:=t) (u:=u) (per:=per) (l:=(x.ai []).filterMap uO) (found:=[]) (.inl rfl) (by have:=List.length_filterMap_le uO (x.ai []);simp only [List.length_nil];exact N9 aq fi this)) ?_;intro fs' ak ar bP
 (refine B k2 ?_;refine B List.map_map ?_)
 refine c7 Ve ?_
 apply dq rfl
 ·refine aO (fz rfl rfl) ?_
  refine aO (gT (g4 rfl (dt (dr rfl rfl an) rfl)) ak) ?_
  exact cw (sj rfl (by decide+kernel) ar)
 ·exact bP
end
end Mine
end
section
open PySem
namespace Mine
theorem Ha:ds "_law_draw"=some (aI 50):=by kernel_rfl
theorem NJ:ds "_law_pen"=some (aI 49):=by kernel_rfl
noncomputable def cy (cells:List Int) (s:Nat) (d:Int):H:=.am [.am (cells.map .int),.int s,.int d]
theorem pk (x:Int) {y:Int} (h:0<y):0<=x.fmod y/\x.fmod y<y:=by
 refine B (Int.fmod_eq_emod_of_nonneg _ (by exact Wm h)) ?_
 exact⟨Int.emod_nonneg _ (by exact IW h),Int.emod_lt_of_pos _ h⟩
section
variable{b:Bool} {C CQ:ct} {n:Nat} {J aW:Scope} {fs fs₁ fs₂ fs₃ hm fs':X} {R:bk} {o:Option (bE×X)} {p:Pos} {m:Nat} {t u:Nat} {per:List H} {cells:List Int} {s k:Nat} {d:Int} {rest:List H}
theorem pm {x y:Int} (h:0<y):kh .Mod (.int x) (.int y)=some (.U (.int (x.fmod y))):=by
 exact bq (eh (by exact Qg h) rfl) rfl
theorem Bs {x y:Int} (h:0<y) (O:y<1000):kh .FloorDiv (.int x) (.int y)=some (.U (.int (x.fdiv y))):=by
 have e:¬((y=0:Bool)||(1073741824<=y.natAbs:Bool))=true:=by simp;exact S8 h O
 exact bq (eh e rfl) rfl
set_option exponentiation.threshold 2000 in
theorem Fu {x y:Int} (h:0<=y) (O:y<64) (ae:x.natAbs<2^64):kh .Pow (.int x) (.int y)=some (.U (.int (x^y.toNat))):=by
 have e:(((0<=y:Bool)&&(y<64:Bool))&&(x.natAbs<2^1024:Bool))=true:=by
  (refine B (decide_eq_true h) ?_;refine B (decide_eq_true O) ?_;refine B (decide_eq_true (Nat.lt_trans ae (Nat.pow_lt_pow_right (by decide) (by decide)))) ?_);rfl
 exact bq (cT e rfl) rfl
theorem D3 {x y:Int} (h:y.natAbs<1000000):kh .Mult (.int x) (.int y)=some (.U (.int (x*y))):=by
 have e:qH y=true:=by unfold qH;exact decide_eq_true (by exact Pq h)
 exact bq (cT (by(refine B e ?_;refine B (Bool.or_true _) ?_;rfl)) rfl) rfl
noncomputable def NG (k s:Nat) (per:List H):X:=⟨[("pen",.U (.per 0)),("many",.U (.int k)),("spot",.U (.int s))],per⟩
noncomputable def sO (k s:Nat) (c:Int) (per:List H):X:=⟨[("pen",.U (.per 0)),("many",.U (.int k)),("spot",.U (.int s)),("cell",.U (.int c))],per⟩
noncomputable abbrev vt (C CQ:ct) (b:Bool):bk:=aJ b C CQ 40 (bN (aI 50))
noncomputable def Au:List Stmt:=g3 (aI 50)
theorem WX (hc:cells.length<=40):∃c,∀r,cR (vt C CQ b) (cc (aI 50) 3::cc (aI 50) 4::r) (NG k s (cy cells (s+1) d::rest))=cR (vt C CQ b) r (sO k s c (cy cells (s+1) d::rest)):=by
 have aq:(cells.map H.int).length<=a4:=by refine B (List.length_map _) ?_;unfold a4;exact Ac hc
 cases cells with
 |nil=>exact⟨_,fun r=>aO (de rfl rfl) (aO (co false rfl rfl) rfl)⟩
 |cons ie fM=>
  have bC:=il aq
  replace bC:=(List.length_map _)▸bC
  have aE:((ie::fM).length:Int)>0:=by refine B List.length_cons ?_;exact T6
  refine cm (pk (s:Int) aE) ?_;intro bH b8
  refine bT (Int.eq_ofNat_of_zero_le bH) ?_;intro j bF
  have qv:j<(ie::fM).length:=by exact Xy b8 bF
  have bi:((ie::fM).map H.int)[j]? =some (.int (ie::fM)[j]):=by(refine B List.getElem?_map ?_;refine B (List.getElem?_eq_getElem qv) ?_);rfl
  refine⟨(ie::fM)[j],fun r=>aO (fs₁:=sO k s (20947*s+3571+(([ie]:List Int).sum).fmod 1000003) (cy (ie::fM) (s+1) d::rest)) (de (dC rfl (dC (fe rfl (fe rfl (oF (l:=(ie::fM).map .int) rfl rfl rfl rfl aq) rfl (r':=.U (.int ([ie]:List Int).sum)) ?_) rfl rfl) rfl rfl rfl rfl) rfl rfl rfl) rfl) (aO (co true (cO rfl rfl rfl rfl rfl rfl) (aO (de (f0 rfl rfl (dC (fe rfl rfl rfl rfl) (fe rfl rfl rfl bC) rfl rfl (pm aE)) rfl ?_) rfl) rfl)) rfl)⟩
  ·refine B (show iU ((ie::fM).map H.int) none (some 1)=[.int ie] from yk (j:=1) (by simp)) ?_;rfl
  ·refine B bF ?_;exact xI bi (by omega)
end
end Mine
end
section
open PySem
set_option exponentiation.threshold 2000
namespace Mine
section
variable{b:Bool} {C CQ:ct} {n:Nat} {J aW:Scope} {fs fs₁ fs₂ fs₃ hm fs':X} {R:bk} {o:Option (bE×X)} {p:Pos} {m:Nat} {t u:Nat} {per:List H} {cells:List Int} {s k:Nat} {d:Int} {rest:List H}
theorem CX {x y:Int} {z:Bool} (h:decide (y<=x)=z):eK .GtE (.int x) (.int y)=some z:=by
 show some (decide (y<=x))=_;(refine B h ?_;rfl)
theorem ofNat_lt {x:Int} {k:Nat} (h:0<=x/\x<(k:Int)):∃r:Nat,r<k/\x=r:=⟨x.toNat,by exact Nk h,by exact Rp h⟩
theorem WT {c:Int} (hc:cells.length<=40) (hs:s<900) (ag:0<k) (lB:k<900):∃(r:Nat) (gR:Int) (fs:X),r<k/\cR (vt C CQ b) (Au.drop 5) (sO k s c (cy cells (s+1) d::rest))=some (.ret (.U (.int r)),fs)/\fs.per=cy cells (s+1) gR::rest:=by
 have bC:=il (l:=cells.map H.int) (by refine B (List.length_map _) ?_;unfold a4;exact Ac hc)
 replace bC:=(List.length_map _)▸bC
 have j6:(0:Int)<k:=by exact GC ag
 by_cases h:s<cells.length/\(10:Int)^18<=(if c<0 then-c else c)
 ·refine ba (ofNat_lt (pk (2*((if c<0 then-c else c)-(10:Int)^18)+(if decide (c<0) then 1 else 0)) j6)) ?_;intro r M O
  refine⟨r,(2*((if c<0 then-c else c)-(10:Int)^18)+(if decide (c<0) then 1 else 0)).fdiv k,⟨[("pen",.U (.per 0)),("many",.U (.int k)),("spot",.U (.int s)),("cell",.U (.int c)),("great",.U (.int (2*((if c<0 then-c else c)-(10:Int)^18)+(if decide (c<0) then 1 else 0))))],_⟩,M,?_,rfl⟩
  refine bt O ?_
  refine cw (co true (kU (cO rfl (fe rfl rfl rfl bC) rfl rfl (oV (decide_eq_true (by exact WV h))) rfl) (cO rfl rfl rfl rfl (CX (decide_eq_true h.2)) rfl)) ?_)
  refine aO (de rfl rfl) ?_
  refine aO (gL (k:=.int 2) (r:=.U (.per 0)) (dt (dC rfl rfl rfl rfl (Bs j6 (by exact FJ lB))) rfl) rfl rfl rfl) ?_
  exact cw (dE (dC rfl rfl rfl rfl (pm j6)) rfl)
 ·have gH:(vt C CQ b).dg (cc (aI 50) 5) (sO k s c (cy cells (s+1) d::rest))=some (.next,sO k s c (cy cells (s+1) d::rest)):=by
   by_cases M:s<cells.length
   ·have O:¬(10:Int)^18<=(if c<0 then-c else c):=fun e=>h ⟨M,e⟩
    exact co false (kU (cO rfl (fe rfl rfl rfl bC) rfl rfl (oV (decide_eq_true (by exact vu M))) rfl) (cO rfl rfl rfl rfl (CX (decide_eq_false O)) rfl)) rfl
   ·exact co false (om (cO rfl (fe rfl rfl rfl bC) rfl rfl (oV (decide_eq_false (by exact yy M))) rfl)) rfl
  refine cm (pk c (y:=2147483587) (by exact Wg)) ?_;intro ez ey
  obtain⟨ao,eT⟩:∃ao,ao=((c.fmod 2147483587+20947*s+3571)^5).fmod 2147483629:=⟨_,rfl⟩
  refine cm (pk ((c.fmod 2147483587+20947*s+3571)^5) (y:=2147483629) (by exact F5)) ?_;intro d1 eO
  rw [<-eT] at d1 eO
  have Oi:ao*(2*s+7207)<=2147483629*10000:=Int.mul_le_mul (by exact RY eO) (by exact Jl hs) (by exact AA) (by exact Jh)
  have zV:0<=ao*(2*s+7207):=Int.mul_nonneg d1 (by exact AA)
  have zh:(20947*s:Int)*s<=20947000*1000:=Int.mul_le_mul (by exact L3 hs) (by exact HW hs) (by exact zc) (by exact NA)
  have tG:0<=(20947*s:Int)*s:=Int.mul_nonneg (by exact Sv) (by exact zc)
  refine ba (ofNat_lt (pk (Int.fdiv (((ao*(2*s+7207)+20947*s*s+31)^3).fmod 2147483579) 32) j6)) ?_;intro r M O
  refine⟨r,d,⟨[("pen",.U (.per 0)),("many",.U (.int k)),("spot",.U (.int s)),("cell",.U (.int c)),("stirred",.U (.int (((ao*(2*s+7207)+20947*s*s+31)^3).fmod 2147483579)))],_⟩,M,?_,rfl⟩
  refine bt O ?_
  refine aO (r:=(Au.drop 5).drop 1) gH ?_
  refine aO (de (v:=.int ao) (dC (fe rfl (dC (v:=.int (c.fmod 2147483587+20947*s+3571)) rfl rfl rfl rfl (Fu (y:=5) (by exact Js) (by exact KW) (by exact MR hs ez ey))) rfl rfl) rfl rfl rfl (by refine B eT ?_;exact pm (by exact F5))) rfl) ?_
  refine aO (de (dC (fe rfl (dC (dC (dC (dC rfl rfl rfl rfl (D3 (y:=2*s+7207) (by exact XS hs))) (dC rfl rfl rfl rfl (D3 (x:=20947*s) (y:=s) (by exact WE hs))) rfl rfl rfl) rfl rfl rfl rfl) rfl rfl rfl (Fu (y:=3) (by exact ID) (by exact Xm) (by exact Pd Oi zV zh tG))) rfl rfl) rfl rfl rfl (pm (by exact HM))) rfl) ?_
  exact cw (dE (dC (fe rfl rfl rfl rfl) rfl rfl rfl (pm j6)) rfl)
noncomputable def Bp:Expr×Scope:=(en (cc (aI 49) 0) [0,0],iH (en (cc (aI 49) 0) [0]))
theorem nn (b:Bool) (m:Nat) (d:Int) (rest:List H) (hc:cells.length<=40) (hs:s<900) (ag:0<k) (lB:k<900):∃(r az:Nat) (gR:Int),r<k/\az<=s+1/\aH b (m+1) "_law_draw" [.per 0,.int k] (cy cells s d::rest)=some (.ret (.U (.int r)),cy cells az gR::rest):=by
 have j6:(0:Int)<k:=by exact GC ag
 by_cases hd:0<d
 ·refine ba (ofNat_lt (pk d j6)) ?_;intro r M O
  refine⟨r,s,d.fdiv k,M,by exact uf,c7 Ha ?_⟩
  refine dq (fs:=⟨[("pen",.U (.per 0)),("many",.U (.int k)),("digit",.U (.int r))],cy cells s (d.fdiv k)::rest⟩) rfl ?_ rfl
  ·refine cw (co true (cO rfl rfl rfl rfl (tR (decide_eq_true hd)) rfl) ?_)
   refine aO (de (dC rfl rfl rfl rfl (pm j6)) rfl) ?_
   refine aO (gL (k:=.int 2) (r:=.U (.per 0)) (dt (dC rfl rfl rfl rfl (Bs j6 (by exact FJ lB))) rfl) rfl rfl rfl) ?_
   refine B O ?_
   exact cw (dE rfl rfl)
 ·refine bT (WX (b:=b) (C:=aH b m) (CQ:=aH false m) (k:=k) (s:=s) (d:=d) (rest:=rest) hc) ?_;intro c vI
  refine dG (WT (b:=b) (C:=aH b m) (CQ:=aH false m) (d:=d) (rest:=rest) (c:=c) hc hs ag lB) ?_;intro r gR fs M O Y
  refine⟨r,s+1,gR,M,Nat.le_refl _,c7 Ha ?_⟩
  apply dq rfl
  ·refine aO (co false (cO rfl rfl rfl rfl (tR (decide_eq_false hd)) rfl) rfl) ?_
   refine aO (de rfl rfl) ?_
   refine aO (gL (k:=.int 1) (r:=.U (.per 0)) rfl rfl rfl rfl) ?_
   exact(vI _).trans O
  ·exact Y
theorem S6 {ns:List Int} (h:ns.length<100):aH b (m+1) "_law_pen" [.am (ns.map .int)] per=some (.ret (.b5 (cy (ns.take 40) 0 0)),per):=by
 have hs:iU (ns.map H.int) none (some 40)=(ns.take 40).map H.int:=by
  show((ns.map H.int).take (jL 40 (ns.map H.int).length)).drop 0=_
  (refine B List.drop_zero ?_;refine B List.map_take ?_)
  unfold jL
  refine B (if_neg (by decide)) ?_
  show(ns.map H.int).take (min 40 (ns.map H.int).length)=_
  (refine bt List.take_eq_take_min ?_;rfl)
 obtain⟨c1,e⟩:=u2 (R:=aJ b (aH b m) (aH false m) 37 Bp.2) (per:=per) (elt:=Bp.1) (x:="cell") (L:=[]) (f:=fun v=>v) (items:=iU (ns.map H.int) none (some 40)) (fs:=⟨[],per⟩)
  (fun v ay=>by replace ay:=hs▸ay;obtain⟨i,_,rfl⟩:=List.mem_map.mp ay;rfl) (.inl rfl)
 replace e:=(List.map_id' _)▸e
 have aq:(ns.map H.int).length<=a4:=by refine B (List.length_map _) ?_;unfold a4;exact wX h
 unfold cy
 refine bt hs ?_
 refine c7 NJ ?_
 apply dq rfl
 ·exact cw (dE (yS (bM (h8 (g4 rfl (dt (oF rfl rfl rfl rfl aq) rfl)) (by(refine B hs ?_;refine B (List.length_map _) ?_;refine B List.length_take ?_);unfold a4;exact NP) rfl e) rfl (bM rfl rfl (bM rfl rfl rfl))) (Nat.le_of_ble_eq_true rfl)) rfl)
 ·rfl
end
end Mine
end
section
open PySem
namespace Mine
theorem Wp:ds "_law_page"=some (aI 52):=by kernel_rfl
section
variable{b:Bool} {C CQ:ct} {n:Nat} {J aW:Scope} {fs fs₁ fs₂ fs₃ hm fs':X} {R:bk} {o:Option (bE×X)} {p:Pos} {m:Nat} {t u:Nat} {per:List H} {cells:List Int} {s k:Nat} {d:Int} {rest:List H}
theorem FF (b:Bool) (m:Nat) (d:Int) (rest:List H) (a:Int) (hc:cells.length<=40) (hs:s<800):∃(q:da) (az:Nat) (gR:Int),q.n=a/\az<=s+2/\aH b (m+2) "_law_page" [.per 0,.int a] (cy cells s d::rest)=some (.ret (.b5 (.V q.d)),cy cells az gR::rest):=by
 refine dG (nn (cells:=cells) (s:=s) (k:=9) b m d rest hc (by exact Ku hs) (by exact UP) (by exact Mm)) ?_;intro eU d3 d1 bH b8 c9
 refine dG (nn (cells:=cells) (s:=d3) (k:=3) b m d1 rest hc (by exact QX hs b8) (by exact wx) (by exact yO)) ?_;intro j1 dS eO M O Y
 refine⟨⟨a,1+eU,decide (j1=0)⟩,dS,eO,rfl,by exact Rq b8 O,c7 Wp ?_⟩
 have lP:(aJ b (aH b (m+1)) (aH false (m+1)) 40 (bN (aI 52))).dg (cc (aI 52) 0) ⟨[("pen",.U (.per 0)),("at",.U (.int a))],cy cells s d::rest⟩=some (.next,⟨[("pen",.U (.per 0)),("at",.U (.int a)),("head",.aD (.V [(.str "N",.int a),(.str "MediaBox",.am [.int 0,.int 0,.int (1+eU),.int 9])]))],cy cells d3 d1::rest⟩):=
  fz (qn (v:=.int a) (w:=.am [.int 0,.int 0,.int (1+eU),.int 9]) rfl (dt (yS (bM rfl rfl (bM rfl rfl (bM (dC rfl (dr rfl rfl c9) rfl rfl rfl) rfl (bM rfl rfl rfl)))) (Nat.le_of_ble_eq_true rfl)) rfl) (by decide+kernel)) rfl
 by_cases aL:j1=0
 ·subst aL
  apply dq rfl
  ·refine aO lP (aO (co true (cO (dr rfl rfl Y) rfl rfl rfl rfl rfl) (aO (gL (v:=.int 90) (k:=.str "Rotate") (r:=.var "head") rfl rfl rfl (jx rfl rfl (Nat.le_of_ble_eq_true rfl))) rfl)) ?_)
   exact cw (dE rfl rfl)
  ·rfl
 ·refine B (decide_eq_false aL) ?_
  apply dq rfl
  ·refine aO lP (aO (co false (cO (dr rfl rfl Y) rfl rfl rfl (x:=false) (by show some (((j1:Nat):Int)==0)=_;simp;exact HI aL) rfl) rfl) ?_)
   exact cw (dE rfl rfl)
  ·rfl
noncomputable def FU:Expr×Scope:=(en (cc (aI 55) 2) [0],iH (en (cc (aI 55) 2) []))
theorem OX (hc:cells.length<=40) {items:List Int}:∀{s:Nat} {d:Int} {fs:X},s+2*items.length<800->(fs=⟨[("pen",.U (.per 0))],cy cells s d::rest⟩\/∃w,fs=⟨[("pen",.U (.per 0)),("at",w)],cy cells s d::rest⟩)->
  ∃(ps:List da) (az:Nat) (gR:Int) (c1:List (Str×cg)),ps.length=items.length/\az<=s+2*items.length/\gd (aJ b (aH b (m+2)) CQ 38 FU.2) "at" [] FU.1 (items.map .int) fs=some (ps.map fun p:da=>H.V p.d,⟨c1,cy cells az gR::rest⟩):=by
 induction items with
 |nil=>
  intro s d fs _ aB
  rcases aB with rfl|⟨w,rfl⟩<;>exact⟨[],s,d,_,rfl,Nat.le_refl _,rfl⟩
 |cons a items ih=>
  intro s d fs hs aB
  replace hs:=List.length_cons▸hs
  refine dG (FF (cells:=cells) (s:=s) b m d rest a hc (by exact OU hs)) ?_;intro q d3 d1 bH b8 c9
  refine sd (ih (s:=d3) (d:=d1) (fs:=⟨[("pen",.U (.per 0)),("at",.U (.int a))],cy cells d3 d1::rest⟩) (by exact Rb hs b8) (.inr ⟨_,rfl⟩)) ?_;intro ps az gR c1 M O Y
  have e:({fs with loc:=bX "at" (.U (.int a)) fs.loc}:X)=⟨[("pen",.U (.per 0)),("at",.U (.int a))],cy cells s d::rest⟩:=by
   rcases aB with rfl|⟨w,rfl⟩<;>rfl
  exact⟨q::ps,az,gR,c1,congrArg (· +1) M,by refine B List.length_cons ?_;exact MC b8 O,wE ((congrArg (d2 _ _) e).trans (dt (dr rfl rfl c9) rfl)) Y⟩
end
end Mine
end
section
open PySem
namespace Mine
section
variable{b:Bool} {C CQ:ct} {n:Nat} {J aW:Scope} {fs fs₁ fs₂ fs₃ hm fs':X} {R:bk} {o:Option (bE×X)} {p:Pos} {m:Nat} {t u:Nat} {per:List H} {cells:List Int} {s k:Nat} {d:Int} {rest:List H} {tab bJ:cF} {N:Nat} {a6:Int} {x:af}
theorem Gx {l:List H} (h:∀x∈l,gM 31 x=true):eK .NotEq (.am l) (.am l)=some false:=by
 have:eP eG (.am l) (.am l)=some true:=by
  show(if l.length=l.length then lT (eP 31) l l else some false)=_
  (refine B (if_pos rfl) ?_;refine B (Cd l fun x ae=>yh 31 (h x ae)) ?_;rfl)
 show(eP eG (.am l) (.am l)).map (!·)=_
 refine B this ?_;rfl
theorem IM {i:Int}:eK .NotEq (hx i) (hx i)=some false:=by
 show(eP eG (hx i) (hx i)).map (!·)=_
 refine B wO ?_;simp
noncomputable def di (ps:List da):List H:=ps.map fun p:da=>H.V p.d
noncomputable def ev (sv:H) (w:Nat) (plain:cg) (ext:List (Str×cg)) (per:List H):X:=⟨("script",.U sv)::("pen",.U (.per 0))::("shelf",.U (bB 1 2))::("other",.U (bB 3 4))::("width",.U (.int w))::("plain",plain)::ext,per⟩
noncomputable def h5 (fK head a Xb ref:H):List (Str×cg):=[("lap",.U fK),("head",.U head),("at",.U a),("kept",.U Xb),("reference",.U ref)]
noncomputable def hl:List Stmt:=d5 (cc (aI 55) 4)
noncomputable abbrev mo (CQ:ct) (m:Nat):bk:=aJ true (aH true (m+10)) CQ 39 (bN (aI 55))
noncomputable def tv:Expr×Scope×Expr×Scope:=(en (ij hl 6) [0,0],iH (en (ij hl 6) [0]),en (ij hl 6) [1,0],iH (en (ij hl 6) [1]))
theorem PD {sv:H} {w:Nat} {ps:List da} {ext:List (Str×cg)} {pn:H} (h:eb tab [(.str "Root",au a6)] N a6 x) (hs:cB (x.ai [])) (gv:(cj (x.ai [])).map Prod.snd=ps) (aX:∃a b c d e,ext=h5 a b c d e):
  (mo CQ m).dg ((hl[6]?).getD default) (ev sv w (.aD (.am (di ps))) ext (c4 pn tab a6 rest))=some (.next,ev sv w (.U (.am (di ps))) ext (c4 pn tab a6 rest)):=by
 refine r1 aX ?_;clear aX;intro bV cD cZ dX sc u;subst u
 have bC:ps.length<300:=by
  have M:=h.len
  have O:=h.fx
  have Y:(cj (x.ai [])).length<=(x.ai []).length:=List.length_filterMap_le _ _
  (refine bt gv ?_;refine B (List.length_map _) ?_);exact Ng M O Y
 have gs:(di ps).length=ps.length:=List.length_map _
 have aq:=il (l:=di ps) (by refine B gs ?_;unfold a4;exact x8 bC)
 replace aq:=gs▸aq
 obtain⟨c1,ak⟩:=us (R:=aJ true (aH true (m+10)) CQ 36 tv.2.1) (per:=c4 pn tab a6 rest) (elt:=tv.1) (x:="spot") (L:=[("shelf",.U (bB 1 2))]) (l:=ps.zipIdx.map fun e=>(.int e.2,.int e.1.n)) (fs:=⟨[("shelf",.U (bB 1 2))],c4 pn tab a6 rest⟩)
  (fun e aX=>by
   obtain⟨⟨p,i⟩,hK,rfl⟩:=List.mem_map.mp aX
   have aR:=List.mem_zipIdx_iff_getElem?.mp hK
   dsimp only at aR
   (replace aR:=(Eq.symm gv)▸aR;replace aR:=List.getElem?_map▸aR)
   cases aA:(cj (x.ai []))[i]? with
   |none=>replace aR:=aA▸aR;cases aR
   |some LM=>
    obtain⟨k,q⟩:=LM
    replace aR:=aA▸aR
    cases aR
    refine bT (Aw (b:=true) (m:=m+4) (t:=1) (u:=2) (per:=c4 pn tab a6 rest) h hs rfl rfl aA) ?_;intro par wA
    exact dt (r:=.U (.int q.n)) (f0 rfl (k:=.str "N") (v:=.V (dY par none (.inl q))) (wN (dr rfl rfl wA) rfl rfl rfl) rfl rfl rfl) rfl) (.inl rfl)
 have gr:(ps.zipIdx.map fun e=>((H.int e.2,H.int e.1.n):H×H)).map Prod.fst=(List.range ps.length).map fun(i:Nat)=>H.int i:=by
  (refine B List.map_map ?_;refine B List.range_eq_range' ?_;refine bt (List.zipIdx_map_snd 0 ps) ?_;refine B List.map_map ?_);rfl
 have gK:(ps.zipIdx.map fun e=>((H.int e.2,H.int e.1.n):H×H)).map Prod.snd=ps.map fun p=>H.int p.n:=by
  have:=List.zipIdx_map_fst 0 ps
  refine B List.map_map ?_
  refine Eq.trans ?_ (congrArg (List.map fun p:da=>H.int p.n) this)
  refine B List.map_map ?_;rfl
 (replace ak:=gr▸ak;replace ak:=gK▸ak)
 obtain⟨YD,ar⟩:=us (R:=aJ true (aH true (m+10)) CQ 36 tv.2.2.2) (per:=c4 pn tab a6 rest) (elt:=tv.2.2.1) (x:="one") (L:=[]) (l:=ps.map fun p=>(.V p.d,.int p.n)) (fs:=⟨[],c4 pn tab a6 rest⟩)
  (fun e aX=>by
   refine ba (List.mem_map.mp aX) ?_;intro p hK u;subst u
   exact dt (r:=.U (.int p.n)) (f0 rfl (k:=.str "N") (v:=.V p.d) rfl rfl rfl rfl) rfl) (.inl rfl)
 (replace ar:=List.map_map▸ar;replace ar:=List.map_map▸ar)
 refine co false (cO (h8 (uy rfl (dt (fe rfl rfl rfl aq) rfl) (by exact VD bC)) (by(refine B (List.length_map _) ?_;refine B List.length_range ?_);unfold a4;exact x8 bC) rfl ak) (h8 (g4 rfl (dt (r:=.var "plain") (fs₂:=ev sv w (.U (.am (di ps))) (h5 bV cD cZ dX sc) (c4 pn tab a6 rest)) rfl rfl)) (by refine B gs ?_;unfold a4;exact x8 bC) rfl ar) rfl rfl (Gx fun v ay=> ?_) rfl) rfl
 refine ba (List.mem_map.mp ay) ?_;intro p _ u;subst u
 rfl
end
end Mine
end
section
open PySem
namespace Mine
section
variable{b:Bool} {C CQ:ct} {n:Nat} {J aW:Scope} {fs fs₁ fs₂ fs₃ hm fs':X} {R:bk} {o:Option (bE×X)} {p:Pos} {m:Nat} {t u:Nat} {per:List H} {cells:List Int} {s k:Nat} {d:Int} {rest:List H} {tab bJ:cF} {N:Nat} {a6:Int} {x:af}
noncomputable def Dv (fK:H):List (Str×cg):=[("lap",.U fK)]
theorem Sn {sv:H} {w:Nat} {ps:List da} {ext:List (Str×cg)} {fK:Int} (h:eb tab [(.str "Root",au a6)] N a6 x) (hc:j2 N a6 x) (hs:cB (x.ai [])) (gv:(cj (x.ai [])).map Prod.snd=ps) (dm:N<250) (fa:cells.length<=40) (pN:s<700) (gs:ps.length<100)
  (aX:ext=Dv (.int fK)\/∃b c d e,ext=h5 (.int fK) b c d e):
  ∃c5 df fO az gR a b c e,cR (mo CQ m) hl (ev sv w (.U (.am (di ps))) ext (c4 (cy cells s d) tab a6 rest))=some (.next,ev sv w (.U (.am (di fO))) (h5 (.int fK) a b c e) (c4 (cy cells az gR) c5 a6 rest))/\
   eb c5 [(.str "Root",au a6)] (N+1) a6 df/\j2 (N+1) a6 df/\cB (df.ai [])/\(cj (df.ai [])).map Prod.snd=fO/\fO.length=ps.length+1/\az<=s+3:=by
 refine dG (FF (cells:=cells) (s:=s) true (m+8) d (.V tab::.V [(.str "Root",au a6)]::rest) (10+fK) fa (by exact La pN)) ?_;intro q d3 d1 bH b8 c9
 refine dG (nn (cells:=cells) (s:=d3) (k:=ps.length+1) true (m+9) d1 (.V tab::.V [(.str "Root",au a6)]::rest) fa (by exact Ti pN b8) (by exact PH) (by exact M8 gs)) ?_;intro a dS eO d8 fG hu
 have vp:(cj (x.ai [])).length=ps.length:=by(refine bt gv ?_;refine B (List.length_map _) ?_;rfl)
 refine qC (JL h hc hs dm (a:=a) (by exact xK d8 vp) q) ?_;intro c5 df Em oN w2 rV EU
 have un:=Em (b:=true) (m:=m) (t:=1) (u:=2) (per:=c4 (cy cells dS eO) tab a6 rest) (by decide) rfl rfl
 have za:(cj (df.ai [])).map Prod.snd=ps.take a++q::ps.drop a:=by(refine B EU ?_;refine B List.map_append ?_;refine B List.map_take ?_;refine B List.map_cons ?_;refine B List.map_drop ?_;refine B gv ?_;rfl)
 have u6:(ps.take a++q::ps.drop a).length=ps.length+1:=by(refine B List.length_append ?_;refine B List.length_take ?_;refine B List.length_cons ?_;refine B List.length_drop ?_);exact R3
 have LR:(cj (df.ai [])).length=ps.length+1:=by(refine bt u6 ?_;refine bt za ?_;refine B (List.length_map _) ?_;rfl)
 have an:(di ps).length=ps.length:=List.length_map _
 have aq:=il (l:=di ps) (by refine B an ?_;unfold a4;exact wX gs)
 replace aq:=an▸aq
 have FM:(di ps).length<=a4:=by refine B an ?_;unfold a4;exact wX gs
 have ak:=yk (l:=di ps) (j:=a) (by exact xK d8 an)
 have ar:=CW (l:=di ps) (j:=a) (by exact xK d8 an)
 have bP:((di ps).take a++[.V q.d])++(di ps).drop a=di (ps.take a++q::ps.drop a):=by unfold di;simp
 have oW:=il (l:=di (ps.take a++q::ps.drop a)) (by unfold di;(refine B (List.length_map _) ?_;refine B u6 ?_);unfold a4;exact TT gs)
 have sm:(di (ps.take a++q::ps.drop a)).length=ps.length+1:=(List.length_map _).trans u6
 replace oW:=sm▸oW
 have fr:(cj (df.ai []))[a]? =some ((N:Int)+1,q):=by
  have aG:((cj (x.ai [])).take a).length=a:=by refine B List.length_take ?_;exact RP d8 vp
  (refine B EU ?_;refine B (List.getElem?_append_right (by exact RF aG)) ?_;refine B aG ?_;refine B (Nat.sub_self _) ?_);rfl
 refine bT (Aw (b:=true) (m:=m+4) (t:=1) (u:=2) (per:=c4 (cy cells dS eO) c5 a6 rest) oN rV rfl rfl fr) ?_;intro par wA
 have Vo:=OE (b:=true) (m:=m+4) (t:=1) (u:=2) (per:=c4 (cy cells dS eO) c5 a6 rest) oN rV rfl rfl
 have sP:=Fc (b:=true) (m:=m+5) (t:=1) (u:=2) (per:=c4 (cy cells dS eO) c5 a6 rest) oN rV rfl rfl
 replace sP:=LR▸sP
 have DF:∀{per},aH true (m+10) "told_objects" [.V q.d] per=some (.ret (.U (gx q [] none)),per):=rn.trans (QM (m:=m+5))
 have ag:((ps.length+1:Nat):Int)=(ps.length:Int)+1:=Int.natCast_succ _
 replace hu:=ag▸hu
 refine⟨c5,df,_,dS,eO,.V q.d,.int a,gx q [] none,au ((N:Int)+1),?_,oN,w2,rV,za,u6,by exact Tv b8 fG⟩
 have lP:(mo CQ m).dg ((hl[0]?).getD default) (ev sv w (.U (.am (di ps))) ext (c4 (cy cells s d) tab a6 rest))=some (.next,ev sv w (.U (.am (di ps))) (match ext with|[l]=>[l,("head",.U (.V q.d)),("at",.U (.int a))]|l::_::_::r=>l::("head",.U (.V q.d))::("at",.U (.int a))::r|l=>l) (c4 (cy cells dS eO) tab a6 rest)):=by
  rcases aX with rfl|⟨aM,a3,b0,ew,rfl⟩<;>
  exact l3 (vs:=[.V q.d,.int a]) rfl (kK (bM (dr rfl rfl c9) rfl (bM (dr rfl (bM rfl rfl (bM (dC (fe rfl rfl rfl aq) rfl rfl rfl rfl) rfl rfl)) hu) rfl rfl)) (Nat.le_of_ble_eq_true rfl)) (Nat.le_of_ble_eq_true rfl) rfl
 have VJ:∀fs,(fs=ev sv w (.U (.am (di ps))) [("lap",.U (.int fK)),("head",.U (.V q.d)),("at",.U (.int a))] (c4 (cy cells dS eO) tab a6 rest)\/∃y z,fs=ev sv w (.U (.am (di ps))) (h5 (.int fK) (.V q.d) (.int a) y z) (c4 (cy cells dS eO) tab a6 rest))->
   cR (mo CQ m) (hl.drop 1) fs=cR (mo CQ m) (hl.drop 3) (ev sv w (.U (.am (di ps))) (h5 (.int fK) (.V q.d) (.int a) (gx q [] none) (au ((N:Int)+1))) (c4 (cy cells dS eO) c5 a6 rest)):=fun fs aB=>by
  rcases aB with rfl|⟨y,z,rfl⟩<;>
  exact aO (de (dr rfl rfl DF) rfl) (aO (de (dr rfl rfl un) rfl) rfl)
 have fH:(mo CQ m).dg ((hl[3]?).getD default) (ev sv w (.U (.am (di ps))) (h5 (.int fK) (.V q.d) (.int a) (gx q [] none) (au ((N:Int)+1))) (c4 (cy cells dS eO) c5 a6 rest))=
   some (.next,ev sv w (.aD (.am (di (ps.take a++q::ps.drop a)))) (h5 (.int fK) (.V q.d) (.int a) (gx q [] none) (au ((N:Int)+1))) (c4 (cy cells dS eO) c5 a6 rest)):=by
  (refine bt bP ?_;refine bt ak ?_;refine bt ar ?_)
  refine fz (dC (dC (oF rfl rfl rfl rfl FM) rfl rfl rfl (uE ?_)) (oF rfl rfl rfl rfl FM) rfl rfl (uE ?_)) rfl
  ·(refine B ak ?_;refine B List.length_take ?_);unfold a4;simp only [List.length_cons,List.length_nil];exact Mh gs an
  ·(refine B ak ?_;refine B ar ?_;refine B List.length_append ?_;refine B List.length_take ?_;refine B List.length_drop ?_);unfold a4;simp only [List.length_cons,List.length_nil];exact KR gs an
 have iX:(mo CQ m).dg ((hl[4]?).getD default) (ev sv w (.aD (.am (di (ps.take a++q::ps.drop a)))) (h5 (.int fK) (.V q.d) (.int a) (gx q [] none) (au ((N:Int)+1))) (c4 (cy cells dS eO) c5 a6 rest))=
   some (.next,ev sv w (.aD (.am (di (ps.take a++q::ps.drop a)))) (h5 (.int fK) (.V q.d) (.int a) (gx q [] none) (au ((N:Int)+1))) (c4 (cy cells dS eO) c5 a6 rest)):=
  co false (r2 (cO (dr rfl rfl DF) rfl rfl rfl (V7 (xk (s:="") (k:=24)).2) rfl) (cO (d0 (l:=[("number",.int ((N:Int)+1)),("generation",.int 0)]) rfl (wN (dr rfl rfl wA) rfl rfl rfl) rfl rfl rfl (mD (m:=m+9))) (d0 rfl rfl rfl rfl rfl (mD (m:=m+9))) rfl rfl IM rfl)) rfl
 have gH:(mo CQ m).dg ((hl[5]?).getD default) (ev sv w (.aD (.am (di (ps.take a++q::ps.drop a)))) (h5 (.int fK) (.V q.d) (.int a) (gx q [] none) (au ((N:Int)+1))) (c4 (cy cells dS eO) c5 a6 rest))=
   some (.next,ev sv w (.aD (.am (di (ps.take a++q::ps.drop a)))) (h5 (.int fK) (.V q.d) (.int a) (gx q [] none) (au ((N:Int)+1))) (c4 (cy cells dS eO) c5 a6 rest)):=
  co false (r2 (cO (dr rfl rfl Vo) rfl rfl rfl rfl rfl) (cO (dr rfl rfl sP) (fe rfl rfl rfl oW) rfl rfl Bx rfl)) rfl
 have uN:=PD (CQ:=CQ) (m:=m) (sv:=sv) (w:=w) (rest:=rest) (pn:=cy cells dS eO) oN rV za (ext:=h5 (.int fK) (.V q.d) (.int a) (gx q [] none) (au ((N:Int)+1))) ⟨_,_,_,_,_,rfl⟩
 refine aO (r:=hl.drop 1) lP ?_
 refine(VJ _ ?_).trans (aO (r:=hl.drop 4) fH (aO (r:=hl.drop 5) iX (aO (r:=hl.drop 6) gH (aO (r:=[]) uN rfl))))
 rcases aX with rfl|⟨aM,a3,b0,ew,rfl⟩
 ·exact .inl rfl
 ·exact .inr ⟨_,_,rfl⟩
end
end Mine
end
section
open PySem
namespace Mine
theorem Wl:ds "law"=some (aI 55):=by kernel_rfl
section
variable{b:Bool} {C CQ:ct} {n:Nat} {m:Nat} {per:List H} {cells:List Int} {s k:Nat} {d:Int} {rest:List H} {tab bJ:cF} {N:Nat} {a6:Int} {x:af}
theorem Cn {sv:H} {w:Nat} (fa:cells.length<=40):∀{items:List Int} {ps:List da} {ext:List (Str×cg)} {tab:cF} {N:Nat} {x:af} {s:Nat} {d:Int},eb tab [(.str "Root",au a6)] N a6 x->j2 N a6 x->cB (x.ai [])->(cj (x.ai [])).map Prod.snd=ps->N+items.length<200->s+3*items.length<600->ps.length+items.length<90->
  (ext=[]\/∃a b c d e,ext=h5 a b c d e)->
  ∃c5 df fO az gR nH,f4 (mo CQ m) (bN (aI 55)) "lap" hl (items.map .int) (ev sv w (.U (.am (di ps))) ext (c4 (cy cells s d) tab a6 rest))=some (.next,ev sv w (.U (.am (di fO))) nH (c4 (cy cells az gR) c5 a6 rest))/\
   eb c5 [(.str "Root",au a6)] (N+items.length) a6 df/\j2 (N+items.length) a6 df/\cB (df.ai [])/\(cj (df.ai [])).map Prod.snd=fO/\fO.length=ps.length+items.length/\az<=s+3*items.length
 |[],ps,ext,tab,N,x,s,d,h,hc,hs,gv,_,_,_,_=>⟨tab,x,ps,s,d,ext,rfl,h,hc,hs,gv,rfl,Nat.le_refl _⟩
 |fK::items,ps,ext,tab,N,x,s,d,h,hc,hs,gv,M,O,Y,aX=>by
  simp only [List.length_cons] at M O Y
  have ao:∃nH,eQ (bN (aI 55)) "lap" (.U (.int fK)) (ev sv w (.U (.am (di ps))) ext (c4 (cy cells s d) tab a6 rest))=some (ev sv w (.U (.am (di ps))) nH (c4 (cy cells s d) tab a6 rest))/\(nH=Dv (.int fK)\/∃b c d e,nH=h5 (.int fK) b c d e):=by
   rcases aX with rfl|⟨sh,rS,E8,xB,X7,rfl⟩
   ·exact⟨_,rfl,.inl rfl⟩
   ·exact⟨_,rfl,.inr ⟨_,_,_,_,rfl⟩⟩
  refine ba ao ?_;clear ao;intro ext1 ak ar
  obtain⟨Y9,aM,Y8,d3,d1,sh,rS,E8,xB,qV,bH,b8,c9,fo,hp,mw⟩:=Sn (CQ:=CQ) (m:=m) (s:=s) (d:=d) (rest:=rest) (sv:=sv) (w:=w) h hc hs gv (by exact Xu M) fa (by exact J7 O) (by exact LD Y) ar
  obtain⟨c5,df,fO,az,gR,nH,Kq,d8,fG,hu,kG,pW,sE⟩:=Cn fa (items:=items) (s:=d3) (d:=d1) bH b8 c9 fo (by exact Pb M) (by exact Ms O mw) (by exact Wa Y hp) (.inr ⟨_,_,_,_,_,rfl⟩)
  have e:N+1+items.length=N+(fK::items).length:=by refine B List.length_cons ?_;exact uw
  rw [e] at d8 fG
  exact⟨c5,df,fO,az,gR,nH,fL ak qV Kq,d8,fG,hu,kG,by(refine B pW ?_;refine B hp ?_;refine B List.length_cons ?_);exact uw,by refine B List.length_cons ?_;exact Ok mw sE⟩
theorem G3 {k:Nat}:(List.range k).map (fun(i:Nat)=>H.int i)=((List.range k).map fun(i:Nat)=>(i:Int)).map .int:=by refine B List.map_map ?_;rfl
theorem Nf (ns:List Int) (eA:ns.length<=63):∃per,aH true (m+11) "law" [.am (ns.map .int)] []=some (.ret (.U (.bool true)),per):=by
 have fa:(ns.take 40).length<=40:=by refine B List.length_take ?_;exact Rs
 refine dG (nn (cells:=ns.take 40) (s:=0) (k:=3) true (m+9) 0 [.V [],.V [],.V [],.V []] fa (by exact Hx) (by exact wx) (by exact yO)) ?_;intro eU d3 d1 bV cD cZ
 refine dG (nn (cells:=ns.take 40) (s:=d3) (k:=5) true (m+9) d1 [.V [],.V [],.V [],.V []] fa (by exact Ly cD) (by exact Ql) (by exact SA)) ?_;intro j1 dS eO cS dA l4
 have qy:((List.range j1).map fun(i:Nat)=>(i:Int)).length=j1:=by(refine B (List.length_map _) ?_;refine B List.length_range ?_;rfl)
 refine sd (OX (b:=true) (CQ:=aH false (m+10)) (m:=m+8) (rest:=[.V [],.V [],.V [],.V []]) fa (items:=(List.range j1).map fun(i:Nat)=>(i:Int)) (s:=dS) (d:=eO) (by refine B qy ?_;exact Pf cD cS dA) (.inl rfl)) ?_;intro ps fH iE c1 ez ey hW
 rw [qy] at ez ey
 replace hW:=(Eq.symm G3)▸hW
 have ea:((2+eU:Nat):Int)=2+(eU:Int):=Int.natCast_add _ _
 obtain⟨tab,a6,N,x,iV,ak,ar,bP,cY,dn,fb⟩:=Ck (b:=true) (m:=m+2) (t:=1) (u:=2) (per:=[cy (ns.take 40) fH iE,.V [],.V [],.V [],.V []]) (ps:=ps) (w:=2+eU) (by exact EF bV) (by exact MI cS ez) (by decide) rfl rfl
 refine dG (nn (cells:=ns.take 40) (s:=fH) (k:=7) true (m+9) iE [.V tab,.V [(.str "Root",au a6)],.V [],.V []] fa (by exact L4 cD cS dA ey) (by exact Q2) (by exact WZ)) ?_;intro tQ iX n5 d8 fG hu
 have vK:((List.range tQ).map fun(i:Nat)=>(i:Int)).length=tQ:=by(refine B (List.length_map _) ?_;refine B List.length_range ?_;rfl)
 obtain⟨c5,df,fO,gH,gU,ext,qV,bH,b8,c9,fo,hp,mw⟩:=Cn (CQ:=aH false (m+10)) (m:=m) (sv:=.am (ns.map .int)) (w:=2+eU) (rest:=[.V [],.V []]) fa (items:=(List.range tQ).map fun(i:Nat)=>(i:Int)) (s:=iX) (d:=n5) ar bP cY dn (by refine B vK ?_;exact T7 cS ez fb d8) (by refine B vK ?_;exact K1 cD cS dA ey d8 fG) (by refine B vK ?_;exact W6 cS ez d8) (.inl rfl)
 rw [vK] at bH b8 hp mw
 replace qV:=(Eq.symm G3)▸qV
 obtain⟨lc,ky,Yd,a3,YJ,M,O,Y,aC,bR,dL⟩:=Ck (b:=true) (m:=m+2) (t:=3) (u:=4) (per:=c4 (cy (ns.take 40) gH gU) c5 a6 [.V [],.V []]) (ps:=fO) (w:=2+eU) (by exact EF bV) (by exact OC cS ez d8 hp) (by decide) rfl rfl
 have zd:=Ek (b:=true) (m:=m+2) (t:=1) (u:=2) (per:=c4 (cy (ns.take 40) gH gU) c5 a6 [.V lc,.V [(.str "Root",au ky)]]) bH rfl rfl
 have xW:=Ek (b:=true) (m:=m+2) (t:=3) (u:=4) (per:=c4 (cy (ns.take 40) gH gU) c5 a6 [.V lc,.V [(.str "Root",au ky)]]) O rfl rfl
 replace zd:=fo▸zd
 replace xW:=bR▸xW
 refine dG (nn (cells:=ns.take 40) (s:=gH) (k:=3) true (m+9) gU [.V c5,.V [(.str "Root",au a6)],.V lc,.V [(.str "Root",au ky)]] fa (by exact Nb cD cS dA ey d8 fG mw) (by exact wx) (by exact yO)) ?_;intro uF uN kD Em oN w2
 refine dG (nn (cells:=ns.take 40) (s:=uN) (k:=2) true (m+9) kD [.V c5,.V [(.str "Root",au a6)],.V lc,.V [(.str "Root",au ky)]] fa (by exact OO cD cS dA ey d8 fG mw oN) (by exact Le) (by exact N7)) ?_;intro GO Bm oB Gg YR Vz
 have vp:(cj (df.ai [])).length=fO.length:=by(refine bt fo ?_;refine B (List.length_map _) ?_;rfl)
 have Qn:=E6 (m:=m+2) (pn:=cy (ns.take 40) uN kD) (rest:=[.V lc,.V [(.str "Root",au ky)]]) bH b8 c9 (by exact Fq cS ez fb d8) (a:= -1-uF) (.inl (by exact Pl))
 have Ny:=E6 (m:=m+2) (pn:=cy (ns.take 40) Bm oB) (rest:=[.V lc,.V [(.str "Root",au ky)]]) bH b8 c9 (by exact Fq cS ez fb d8) (a:=fO.length+1+GO) (.inr (by exact Hn vp))
 have gs:=il (l:=di fO) (by unfold di;refine B (List.length_map _) ?_;unfold a4;exact Wc cS ez d8 hp)
 replace gs:=(show(di fO).length=fO.length from List.length_map _)▸gs
 have US:=S6 (b:=true) (m:=m+9) (per:=[]) (ns:=ns) (by exact MA eA)
 refine⟨c4 (cy (ns.take 40) Bm oB) c5 a6 [.V lc,.V [(.str "Root",au ky)]],c7 Wl ?_⟩
 have nR:(aJ true (aH true (m+10)) (aH false (m+10)) 40 (bN (aI 55))).dg (cc (aI 55) 1) ⟨[("script",.U (.am (ns.map .int))),("pen",.U (.per 0))],[cy (ns.take 40) 0 0]⟩=
   some (.next,⟨[("script",.U (.am (ns.map .int))),("pen",.U (.per 0)),("shelf",.U (bB 1 2)),("other",.U (bB 3 4)),("width",.U (.int (2+eU:Nat)))],[cy (ns.take 40) d3 d1,.V [],.V [],.V [],.V []]⟩):=by
  refine B ea ?_
  exact l3 (vs:=[bB 1 2,bB 3 4,.int (2+eU)]) rfl (kK (bM rfl rfl (bM rfl rfl (bM (dC rfl (dr rfl rfl cZ) rfl rfl rfl) rfl rfl))) (Nat.le_of_ble_eq_true rfl)) (Nat.le_of_ble_eq_true rfl) rfl
 have n1:(aJ true (aH true (m+10)) (aH false (m+10)) 40 (bN (aI 55))).dg (cc (aI 55) 2) ⟨[("script",.U (.am (ns.map .int))),("pen",.U (.per 0)),("shelf",.U (bB 1 2)),("other",.U (bB 3 4)),("width",.U (.int (2+eU:Nat)))],[cy (ns.take 40) d3 d1,.V [],.V [],.V [],.V []]⟩=
   some (.next,ev (.am (ns.map .int)) (2+eU) (.aD (.am (di ps))) [] [cy (ns.take 40) fH iE,.V [],.V [],.V [],.V []]):=
  fz (h8 (uy rfl (dt (dr rfl rfl l4) rfl) (by exact Mw cS)) (by(refine B (List.length_map _) ?_;refine B List.length_range ?_);unfold a4;exact It cS) rfl hW) rfl
 have n7:(aJ true (aH true (m+10)) (aH false (m+10)) 40 (bN (aI 55))).dg (cc (aI 55) 3) (ev (.am (ns.map .int)) (2+eU) (.aD (.am (di ps))) [] [cy (ns.take 40) fH iE,.V [],.V [],.V [],.V []])=
   some (.next,ev (.am (ns.map .int)) (2+eU) (.U (.am (di ps))) [] (c4 (cy (ns.take 40) fH iE) tab a6 [.V [],.V []])):=
  by apply mx (fs₁:=ev (.am (ns.map .int)) (2+eU) (.U (.am (di ps))) [] [cy (ns.take 40) fH iE,.V [],.V [],.V [],.V []]) (hc:=ak)<;>first|rfl|decide+kernel
 have s6:(aJ true (aH true (m+10)) (aH false (m+10)) 40 (bN (aI 55))).dg (cc (aI 55) 4) (ev (.am (ns.map .int)) (2+eU) (.U (.am (di ps))) [] (c4 (cy (ns.take 40) fH iE) tab a6 [.V [],.V []]))=
   some (.next,ev (.am (ns.map .int)) (2+eU) (.U (.am (di fO))) ext (c4 (cy (ns.take 40) gH gU) c5 a6 [.V [],.V []])):=
  gT (uy rfl (dt (dr rfl rfl hu) rfl) (by exact Rl d8)) qV
 have R0:(aJ true (aH true (m+10)) (aH false (m+10)) 40 (bN (aI 55))).dg (cc (aI 55) 5) (ev (.am (ns.map .int)) (2+eU) (.U (.am (di fO))) ext (c4 (cy (ns.take 40) gH gU) c5 a6 [.V [],.V []]))=
   some (.next,ev (.am (ns.map .int)) (2+eU) (.U (.am (di fO))) ext (c4 (cy (ns.take 40) gH gU) c5 a6 [.V lc,.V [(.str "Root",au ky)]])):=
  by apply mx (fs₁:=ev (.am (ns.map .int)) (2+eU) (.U (.am (di fO))) ext (c4 (cy (ns.take 40) gH gU) c5 a6 [.V [],.V []])) (hc:=M)<;>first|rfl|decide+kernel
 have W0:(aJ true (aH true (m+10)) (aH false (m+10)) 40 (bN (aI 55))).dg (cc (aI 55) 6) (ev (.am (ns.map .int)) (2+eU) (.U (.am (di fO))) ext (c4 (cy (ns.take 40) gH gU) c5 a6 [.V lc,.V [(.str "Root",au ky)]]))=
   some (.next,ev (.am (ns.map .int)) (2+eU) (.U (.am (di fO))) ext (c4 (cy (ns.take 40) gH gU) c5 a6 [.V lc,.V [(.str "Root",au ky)]])):=
  co false (cO (dr rfl rfl zd) (dr rfl rfl xW) rfl rfl (Gx fun v ay=>by obtain⟨p,_,rfl⟩:=List.mem_map.mp ay;exact(xk (k:=23)).1) rfl) rfl
 apply dq rfl
 ·refine aO (fz (dr rfl rfl US) rfl) ?_
  refine aO nR (aO n1 (aO n7 (aO s6 (aO R0 (aO W0 ?_)))))
  exact cw (dE (C2 (dr rfl (bM rfl rfl (bM (dC rfl (dr rfl rfl w2) rfl rfl rfl) rfl rfl)) Qn) (dr rfl (bM rfl rfl (bM (dC (dC (fe rfl rfl rfl gs) rfl rfl rfl rfl) (dr rfl rfl Vz) rfl rfl rfl) rfl rfl)) Ny)) rfl)
 ·rfl
end
end Mine
end
open PySem
theorem PySem.Challenge.cw_og0185_01_holds : PySem.Challenge.rw_og0185_01.Holds :=
  Mine.Om (Mine.XA fun ns h=>Mine.Nf (m:=9) ns h)
