import PyProof.Rows.All
import KE.KDictOf
import KE.KRevIter
import KE.KSuperObj
import KE.KSuper
import Wide.FinOn
import OpenK.AllK
import Wide.All
import Lean
import PySem.Challenge.RW_sm0010_01
set_option Elab.async false
set_option maxRecDepth 100000
set_option maxHeartbeats 0
set_option linter.all false
set_option genSizeOf false
set_option tactic.hygienic false
set_option genInjectivity false
set_option backward.match.sparseCases false
set_option bootstrap.genMatcherCode false
namespace Mine
section
open PySem PySem.W PyProof.Rows
theorem br {a b n:Nat} (h:b<=n) (e:Nat.ble a b=true):a<=n:=Nat.le_trans (Nat.le_of_ble_eq_true e) h
theorem aN {P:Prop} (h:false=true):P:=nomatch h
theorem vC {P:Prop} (h:true=false):P:=nomatch h
theorem fx {α:Type} {a:α} {P:Prop} (h:a∈([]:List α)):P:=nomatch h
theorem qm {α:Type} {a:α} {l:List α} {P:Prop} (h:[]=a::l):P:=nomatch h
theorem hO {k:Nat} {P:Prop} (h:0=k+1):P:=nomatch h
theorem sS {k:Nat} {P:Prop} (h:k+1=0):P:=nomatch h
theorem qp {α:Type} {a:α} {P:Prop} (h:some a=none):P:=nomatch h
theorem cH {α:Type} {a:α} {P:Prop} (h:none=some a):P:=nomatch h
theorem cn {a b:Nat} (e:Nat.ble a b=true):a<=b:=Nat.le_of_ble_eq_true e
noncomputable abbrev pw:Program:=PySem.Challenge.pw_sm0010_01
noncomputable def B:List Stmt:=behindTheImports pw
noncomputable def ah (l:List Stmt) (k:Nat):Stmt:=l.getD k (.Pass ⟨0,0,0,0⟩)
noncomputable def aA:Stmt->List Stmt
 | .ClassDef _ _ _ b _ _ _ _ _ _ _=>b
 | _=>[]
noncomputable abbrev sv (s:String) (t:Nat):Value:=.str (Str.ofString s) t
noncomputable abbrev ae (l:List Value):Obj:=⟨.type "tuple",none,.seq l.toArray 0,#[]⟩
noncomputable abbrev al (c:Value) (l:List Value):Obj:=⟨c,none,.fields l.toArray,#[]⟩
noncomputable abbrev en (P:Params) (s:String) (t:Nat) (v:Value):DictEntry:=⟨PyData.keyHash P (Str.ofString s),.str (Str.ofString s) t,v⟩
noncomputable def dR (s:Stmt) (qual:String) (g:Addr) (clo:List (Str×Addr)) (dV kV doc pm:Value) (an:Option Addr) (cd ct:Value) (bl:Addr):FuncData:=match s with
 | .FunctionDef n a b _ _ _ sc _ _ _=>{ name:=n,qualname:=Str.ofString qual,params:=a,body:=.stmts b,scope:=sc,globals:=g,closure:=clo,defaults:=dV,kwdefaults:=kV,doc:=doc,pyModule:=pm,annotations:=an,code:=cd,closureTuple:=ct,builtins:=bl }
 | _=>default
noncomputable abbrev fO (s:Stmt) (q:String) (m:Value) (r:Nat):Obj:=⟨.type "function",none,.func (dR s q 3 [] .none .none .none m none (.ref r) .none 0),#[]⟩
noncomputable abbrev gO (s:Stmt) (q:String):Obj:=⟨.none,none,.func (dR s q 0 [] .none .none .none .none none .none .none 0),#[]⟩
noncomputable abbrev cO (n q:String) (k:Nat) (a b c d e:Int) (r:Nat) (z:Bool) (vs:List Value) (i:Nat):Obj:=al (.type "code") ([sv n k,sv q (k+1),sv "/claim/cut.py" (k+2),.int a 0,.int b 0,.int c 0,.int d 0,.int e 0,.ref r,.bool z,.int 181 0,.ref (r+1)]++vs++[.int (Int.ofNat i) 0,.int a 0,sv "/claim/cut.py" (i+1)])
noncomputable abbrev cF (n q:String) (k:Nat) (a b c d e:Int) (r:Nat) (z:Bool) (i:Nat):Obj:=cO n q k a b c d e r z [.none,.ref (r+2),.ref (r+3),.ref (r+4)] i
noncomputable abbrev cS (n:String) (k:Nat) (a b c d e:Int) (r:Nat) (z:Bool) (i:Nat):Obj:=cF n n k a b c d e r z i
noncomputable def xV {α:Type}:List α->List α
 | []=>[]
 | [_]=>[]
 | _::b::r=>b::xV r
noncomputable def we {α:Type}:List α->List α
 | []=>[]
 | [a]=>[a]
 | a::_::r=>a::we r
noncomputable def z0:Nat->List Obj->BT
 | 0,_=>.nil
 | _+1,[]=>.nil
 | n+1,o::r=>.node o (z0 n (we r)) (z0 n (xV r))
noncomputable def A5 (P:Params) (o2 o3 o12:Obj):List Obj:=[
 boot_o_0 P,
 boot_o_1 P,
 o2,
 o3,
 boot_o_4 P,
 boot_o_5 P,
 boot_o_6 P,
 boot_o_7 P,
 boot_o_8 P,
 boot_o_9 P,
 boot_o_10 P,
 ae [],
 o12,
 cO "<module>" "<module>" 182 1 0 0 0 0 11 false [.none,.none,.none,.none] 185,
 ⟨.type "frame",none,.plain,#[some (.ref 13),some (.ref 3),some (.ref 3),none,some (sv "__main__" 164),none,some (.ref 0)]⟩,
 ae [],
 al .none [],
 ae [sv "k" 190],
 ae [],
 gO (ah B 0) "_wall",
 cS "_wall" 187 1 1 0 0 3 15 true 191,
 fO (ah B 0) "_wall" (sv "__main__" 164) 20,
 ae [.type "Exception"],
 al (.type "builtin_function_or_method") [.builtin "type.__prepare__",.type "type"],
 ⟨.type "dict",none,.dict ([en P "__module__" 207 (sv "basicplus.values" 194),en P "__qualname__" 209 (sv "BasicError" 208),en P "__firstlineno__" 211 (.int 7 210),en P "__init__" 222 (.ref 38),en P "__static_attributes__" 225 (.ref 39),en P "__classcell__" 226 (.ref 25)]:List DictEntry).toArray 6,#[]⟩,
 ⟨.type "cell",none,.cell (some (.ref 41)),#[]⟩,
 ae [],
 al .none [.int 9 0,.int 4 0,.ref 37],
 cO "BasicError" "BasicError" 202 7 0 0 0 0 26 false [.none,.none,.none,.none] 205,
 ⟨.type "frame",none,.plain,#[some (.ref 28),some (.ref 3),some (.ref 24),none,some (sv "basicplus.values" 194),none,some (.ref 0)]⟩,
 ae [sv "" 212],
 ae [.ref 25],
 ae [sv "__class__" 216],
 al .none [],
 ae [sv "self" 217,sv "code" 218,sv "told" 219],
 ae [],
 ⟨.none,none,.func (dR (ah (aA (ah B 4)) 0) "BasicError.__init__" 0 [] .none .none .none .none none .none .none 0),#[]⟩,
 cF "__init__" "BasicError.__init__" 213 9 3 0 0 3 32 true 220,
 ⟨.type "function",none,.func (dR (ah (aA (ah B 4)) 0) "BasicError.__init__" 3 [(Str.ofString "__class__",25)] (.ref 30) .none .none (sv "basicplus.values" 194) none (.ref 37) (.ref 31) 0),#[]⟩,
 ae [sv "code" 223,sv "told" 224],
 ⟨.type "dict",none,.dict ([en P "__module__" 207 (sv "basicplus.values" 194),en P "__firstlineno__" 211 (.int 7 210),en P "__init__" 222 (.ref 38),en P "__static_attributes__" 225 (.ref 39),en P "__weakref__" 228 (.ref 42),en P "__doc__" 229 .none]:List DictEntry).toArray 4,#[]⟩,
 ⟨.type "type",none,.cls { name:=Str.ofString "BasicError",bases:=[.type "Exception"],mro:=[.ref 41,.type "Exception",.type "BaseException",.type "object"],ns:=40,qualname:=Str.ofString "BasicError",hasDict:=true,slotNames:=[],subclasses:=[],abstract:=false,collection:=none,hasDel:=false },#[some (.ref 22),none,some (sv "BasicError" 200),some (sv "BasicError" 208),some (.builtin "Exception.__new__"),some (.bool true)]⟩,
 al (.type "getset_descriptor") [sv "__weakref__" 227,.ref 41,.builtin "ExceptionGroup.__weakref__",.none],
 al (.type "super") [.ref 41,.ref 41,.ref 41],
 al (.type "builtin_function_or_method") [.builtin "object.__init_subclass__",.ref 41],
 ae [],
 al .none [],
 ae [sv "rows" 237],
 ae [],
 gO (ah B 5) "error_codes",
 cS "error_codes" 234 13 0 0 0 3 45 true 238,
 fO (ah B 5) "error_codes" (sv "basicplus.values" 194) 50,
 ae [],
 al .none [],
 ae [sv "code" 244,sv "known" 245,sv "number" 246,sv "sign" 247],
 ae [],
 gO (ah B 6) "number_of_error",
 cS "number_of_error" 241 16 1 0 0 3 52 true 248,
 fO (ah B 6) "number_of_error" (sv "basicplus.values" 194) 57,
 ae [],
 al .none [],
 ae [sv "number" 254,sv "known" 255],
 ae [],
 gO (ah B 7) "code_of_error",
 cS "code_of_error" 251 24 1 0 0 3 59 true 256,
 fO (ah B 7) "code_of_error" (sv "basicplus.values" 194) 64,
 ae [],
 al .none [],
 ae [sv "value" 262],
 ae [],
 gO (ah B 8) "kind_of",
 cS "kind_of" 259 27 1 0 0 3 66 true 263,
 fO (ah B 8) "kind_of" (sv "basicplus.values" 194) 71,
 ae [],
 al .none [],
 ae [sv "name" 269,sv "kinds" 270,sv "last" 271],
 ae [],
 gO (ah B 9) "kind_of_name",
 cS "kind_of_name" 266 31 2 0 0 3 73 true 272,
 fO (ah B 9) "kind_of_name" (sv "basicplus.values" 194) 78,
 ae [],
 al .none [],
 ae [sv "kind" 278],
 ae [],
 gO (ah B 10) "first_value",
 cS "first_value" 275 38 1 0 0 3 80 true 279,
 fO (ah B 10) "first_value" (sv "basicplus.values" 194) 85,
 ae [],
 al .none [],
 ae [sv "number" 285,sv "many" 286,sv "bound" 287],
 ae [],
 gO (ah B 11) "figures_of",
 cS "figures_of" 282 42 1 0 0 3 87 true 288,
 fO (ah B 11) "figures_of" (sv "basicplus.values" 194) 92,
 ae [],
 al .none [],
 ae [sv "number" 294,sv "places" 295,sv "unit" 296,sv "found" 297,sv "rest" 298],
 ae [],
 gO (ah B 12) "rounded_by",
 cS "rounded_by" 291 48 2 0 0 3 94 true 299,
 fO (ah B 12) "rounded_by" (sv "basicplus.values" 194) 99,
 ae [],
 al .none [],
 ae [sv "coefficient" 305,sv "exponent" 306,sv "digits" 307,sv "size" 308,sv "more" 309,sv "first" 310],
 ae [],
 gO (ah B 13) "made",
 cS "made" 302 58 3 0 0 3 101 true 311,
 fO (ah B 13) "made" (sv "basicplus.values" 194) 106,
 ae [],
 al .none [],
 ae [sv "value" 317,sv "coefficient" 318,sv "exponent" 319,sv "size" 320],
 ae [],
 gO (ah B 14) "whole_near",
 cS "whole_near" 314 73 1 0 0 3 108 true 321,
 fO (ah B 14) "whole_near" (sv "basicplus.values" 194) 113,
 ae [],
 al .none [],
 ae [sv "number" 327,sv "bits" 328],
 ae [],
 gO (ah B 15) "fits",
 cS "fits" 324 79 2 0 0 3 115 true 329,
 fO (ah B 15) "fits" (sv "basicplus.values" 194) 120,
 ae [],
 al .none [],
 ae [sv "value" 335,sv "bits" 336,sv "number" 337],
 ae [],
 gO (ah B 16) "whole_of",
 cS "whole_of" 332 81 2 0 0 3 122 true 338,
 fO (ah B 16) "whole_of" (sv "basicplus.values" 194) 127,
 ae [],
 al .none [],
 ae [sv "value" 344,sv "digits" 345],
 ae [],
 gO (ah B 17) "decimal_of",
 cS "decimal_of" 341 88 2 0 0 3 129 true 346,
 fO (ah B 17) "decimal_of" (sv "basicplus.values" 194) 134,
 ae [],
 al .none [],
 ae [sv "value" 352],
 ae [],
 gO (ah B 18) "text_of",
 cS "text_of" 349 92 1 0 0 3 136 true 353,
 fO (ah B 18) "text_of" (sv "basicplus.values" 194) 141,
 ae [],
 al .none [],
 ae [sv "text" 359],
 ae [],
 gO (ah B 19) "checked_text",
 cS "checked_text" 356 96 1 0 0 3 143 true 360,
 fO (ah B 19) "checked_text" (sv "basicplus.values" 194) 148,
 ae [],
 al .none [],
 ae [sv "value" 366,sv "kind" 367,sv "bits" 368,sv "digits" 369],
 ae [],
 gO (ah B 20) "suited",
 cS "suited" 363 100 4 0 0 3 150 true 370,
 fO (ah B 20) "suited" (sv "basicplus.values" 194) 155,
 ae [],
 al .none [],
 ae [sv "is_so" 376],
 ae [],
 gO (ah B 21) "truth",
 cS "truth" 373 104 1 0 0 3 157 true 377,
 fO (ah B 21) "truth" (sv "basicplus.values" 194) 162,
 ae [],
 al (.type "builtin_function_or_method") [.builtin "type.__prepare__",.type "type"],
 ⟨.type "dict",none,.dict ([en P "__module__" 389 (sv "basicplus.control" 380),en P "__qualname__" 391 (sv "Control" 390),en P "__firstlineno__" 393 (.int 107 392),en P "__init__" 401 (.ref 177),en P "__static_attributes__" 405 (.ref 178)]:List DictEntry).toArray 5,#[]⟩,
 ae [],
 al .none [.int 109 0,.int 4 0,.ref 176],
 cO "Control" "Control" 384 107 0 0 0 0 167 false [.none,.none,.none,.none] 387,
 ⟨.type "frame",none,.plain,#[some (.ref 169),some (.ref 3),some (.ref 166),none,some (sv "basicplus.control" 380),none,some (.ref 0)]⟩,
 ae [],
 al .none [],
 ae [sv "self" 397,sv "most" 398],
 ae [],
 ⟨.none,none,.func (dR (ah (aA (ah B 23)) 0) "Control.__init__" 0 [] .none .none .none .none none .none .none 0),#[]⟩,
 cF "__init__" "Control.__init__" 394 109 2 0 0 3 171 true 399,
 ⟨.type "function",none,.func (dR (ah (aA (ah B 23)) 0) "Control.__init__" 3 [] .none .none .none (sv "basicplus.control" 380) none (.ref 176) .none 0),#[]⟩,
 ae [sv "failed_at" 402,sv "most" 403,sv "pile" 404],
 ⟨.type "dict",none,.dict ([en P "__module__" 389 (sv "basicplus.control" 380),en P "__firstlineno__" 393 (.int 107 392),en P "__init__" 401 (.ref 177),en P "__static_attributes__" 405 (.ref 178),en P "__dict__" 407 (.ref 181),en P "__weakref__" 409 (.ref 182),en P "__doc__" 410 .none]:List DictEntry).toArray 4,#[]⟩,
 ⟨.type "type",none,.cls { name:=Str.ofString "Control",bases:=[.type "object"],mro:=[.ref 180,.type "object"],ns:=179,qualname:=Str.ofString "Control",hasDict:=true,slotNames:=[],subclasses:=[],abstract:=false,collection:=none,hasDel:=false },#[none,none,some (sv "Control" 382),some (sv "Control" 390),some (.builtin "object.__new__"),some (.bool true)]⟩,
 al (.type "getset_descriptor") [sv "__dict__" 406,.ref 180,.builtin "function.__dict__",.builtin "function.__dict__#set"],
 al (.type "getset_descriptor") [sv "__weakref__" 408,.ref 180,.builtin "ExceptionGroup.__weakref__",.none],
 al (.type "super") [.ref 180,.ref 180,.ref 180],
 al (.type "builtin_function_or_method") [.builtin "object.__init_subclass__",.ref 180],
 ae [],
 al .none [],
 ae [sv "world" 416],
 ae [],
 gO (ah B 24) "error_number",
 cS "error_number" 413 113 1 0 0 3 185 true 417,
 fO (ah B 24) "error_number" (sv "basicplus.control" 380) 190,
 ae [],
 al .none [],
 ae [sv "world" 425,sv "name" 426,sv "channel" 427,sv "at" 428,sv "many" 429],
 ae [],
 gO (ah B 26) "field_text",
 cS "field_text" 422 116 2 0 0 3 192 true 430,
 fO (ah B 26) "field_text" (sv "basicplus.files" 420) 197,
 ae [],
 al .none [],
 ae [sv "world" 436,sv "name" 437],
 ae [],
 gO (ah B 27) "no_field",
 cS "no_field" 433 121 2 0 0 3 199 true 438,
 fO (ah B 27) "no_field" (sv "basicplus.files" 420) 204,
 ae [],
 al .none [],
 ae [sv "world" 444,sv "names" 445,sv "depth" 446,sv "name" 447],
 ae [],
 gO (ah B 28) "hide_fields",
 cS "hide_fields" 441 124 3 0 0 3 206 true 448,
 fO (ah B 28) "hide_fields" (sv "basicplus.files" 420) 211,
 ae [],
 al .none [],
 ae [sv "world" 454,sv "names" 455,sv "depth" 456,sv "name" 457],
 ae [],
 gO (ah B 29) "lay_fields",
 cS "lay_fields" 451 128 3 0 0 3 213 true 458,
 fO (ah B 29) "lay_fields" (sv "basicplus.files" 420) 218,
 ae [],
 al (.type "builtin_function_or_method") [.builtin "type.__prepare__",.type "type"],
 ⟨.type "dict",none,.dict ([en P "__module__" 470 (sv "basicplus.world" 461),en P "__qualname__" 472 (sv "World" 471),en P "__firstlineno__" 474 (.int 135 473),en P "__init__" 491 (.ref 234),en P "__static_attributes__" 520 (.ref 235)]:List DictEntry).toArray 5,#[]⟩,
 ae [],
 al .none [.int 137 0,.int 4 0,.ref 233],
 cO "World" "World" 465 135 0 0 0 0 223 false [.none,.none,.none,.none] 468,
 ⟨.type "frame",none,.plain,#[some (.ref 225),some (.ref 3),some (.ref 222),none,some (sv "basicplus.world" 461),none,some (.ref 0)]⟩,
 ae [.int 16 475,.int 9 476,.int 2000 477,.int 20 478,.int 2000 479],
 ae [],
 al .none [],
 ae [sv "self" 483,sv "bits" 484,sv "digits" 485,sv "most_steps" 486,sv "most_depth" 487,sv "room" 488],
 ae [],
 ⟨.none,none,.func (dR (ah (aA (ah B 31)) 0) "World.__init__" 0 [] .none .none .none .none none .none .none 0),#[]⟩,
 cF "__init__" "World.__init__" 480 137 6 0 0 3 228 true 489,
 ⟨.type "function",none,.func (dR (ah (aA (ah B 31)) 0) "World.__init__" 3 [] (.ref 227) .none .none (sv "basicplus.world" 461) none (.ref 233) .none 0),#[]⟩,
 ae [sv "arrays" 492,sv "base" 493,sv "bits" 494,sv "common" 495,sv "data" 496,sv "depth" 497,sv "digits" 498,sv "error_code" 499,sv "error_line" 500,sv "fields" 501,sv "files" 502,sv "fns" 503,sv "handler" 504,sv "inputs" 505,sv "is_handling" 506,sv "is_traced" 507,sv "kinds" 508,sv "most_depth" 509,sv "most_steps" 510,sv "names" 511,sv "open" 512,sv "out" 513,sv "room" 514,sv "row" 515,sv "seed" 516,sv "spot" 517,sv "steps" 518,sv "traces" 519],
 ⟨.type "dict",none,.dict ([en P "__module__" 470 (sv "basicplus.world" 461),en P "__firstlineno__" 474 (.int 135 473),en P "__init__" 491 (.ref 234),en P "__static_attributes__" 520 (.ref 235),en P "__dict__" 522 (.ref 238),en P "__weakref__" 524 (.ref 239),en P "__doc__" 525 .none]:List DictEntry).toArray 4,#[]⟩,
 ⟨.type "type",none,.cls { name:=Str.ofString "World",bases:=[.type "object"],mro:=[.ref 237,.type "object"],ns:=236,qualname:=Str.ofString "World",hasDict:=true,slotNames:=[],subclasses:=[],abstract:=false,collection:=none,hasDel:=false },#[none,none,some (sv "World" 463),some (sv "World" 471),some (.builtin "object.__new__"),some (.bool true)]⟩,
 al (.type "getset_descriptor") [sv "__dict__" 521,.ref 237,.builtin "function.__dict__",.builtin "function.__dict__#set"],
 al (.type "getset_descriptor") [sv "__weakref__" 523,.ref 237,.builtin "ExceptionGroup.__weakref__",.none],
 al (.type "super") [.ref 237,.ref 237,.ref 237],
 al (.type "builtin_function_or_method") [.builtin "object.__init_subclass__",.ref 237],
 ae [],
 al .none [],
 ae [sv "world" 531,sv "name" 532],
 ae [],
 gO (ah B 32) "kind_here",
 cS "kind_here" 528 166 2 0 0 3 242 true 533,
 fO (ah B 32) "kind_here" (sv "basicplus.world" 461) 247,
 ae [],
 al .none [],
 ae [sv "world" 539,sv "name" 540],
 ae [],
 gO (ah B 33) "get_name",
 cS "get_name" 536 168 2 0 0 3 249 true 541,
 fO (ah B 33) "get_name" (sv "basicplus.world" 461) 254,
 ae [],
 al .none [],
 ae [sv "world" 547,sv "name" 548,sv "value" 549],
 ae [],
 gO (ah B 34) "set_name",
 cS "set_name" 544 170 3 0 0 3 256 true 550,
 fO (ah B 34) "set_name" (sv "basicplus.world" 461) 261,
 ae [],
 al .none [],
 ae [sv "world" 558,sv "word" 559,sv "told" 560],
 ae [],
 gO (ah B 36) "variable_value",
 cS "variable_value" 555 173 2 0 0 3 263 true 561,
 fO (ah B 36) "variable_value" (sv "basicplus.asked" 553) 268,
 ae [],
 al .none [],
 gO (ah B 37) "fn_called",
 cO "fn_called" "fn_called" 564 180 5 0 0 3 270 true [.none,.none,.none,.ref 272] 567,
 fO (ah B 37) "fn_called" (sv "basicplus.asked" 553) 273,
 ae [.int 1 572,.int 0 573],
 ae [],
 al .none [],
 ae [sv "a" 580],
 ae [],
 gO (ah B 41) "d_negated",
 cS "d_negated" 577 208 1 0 0 3 276 true 581,
 fO (ah B 41) "d_negated" (sv "basicplus.decimals" 570) 281,
 ae [],
 al .none [],
 ae [sv "a" 587,sv "b" 588,sv "least" 589],
 ae [],
 gO (ah B 42) "alike",
 cS "alike" 584 210 2 0 0 3 283 true 590,
 fO (ah B 42) "alike" (sv "basicplus.decimals" 570) 288,
 ae [],
 al .none [],
 ae [sv "a" 596,sv "b" 597,sv "digits" 598,sv "one" 599,sv "other" 600,sv "exponent" 601],
 ae [],
 gO (ah B 43) "d_add",
 cS "d_add" 593 213 3 0 0 3 290 true 602,
 fO (ah B 43) "d_add" (sv "basicplus.decimals" 570) 295,
 ae [],
 al .none [],
 ae [sv "a" 608,sv "b" 609,sv "digits" 610],
 ae [],
 gO (ah B 44) "d_sub",
 cS "d_sub" 605 216 3 0 0 3 297 true 611,
 fO (ah B 44) "d_sub" (sv "basicplus.decimals" 570) 302,
 ae [],
 al .none [],
 ae [sv "a" 617,sv "b" 618,sv "digits" 619],
 ae [],
 gO (ah B 45) "d_mul",
 cS "d_mul" 614 218 3 0 0 3 304 true 620,
 fO (ah B 45) "d_mul" (sv "basicplus.decimals" 570) 309,
 ae [],
 al .none [],
 ae [sv "whole" 626,sv "rest" 627,sv "exponent" 628],
 ae [],
 gO (ah B 46) "with_rest",
 cS "with_rest" 623 220 3 0 0 3 311 true 629,
 fO (ah B 46) "with_rest" (sv "basicplus.decimals" 570) 316,
 ae [],
 al .none [],
 ae [sv "a" 635,sv "b" 636,sv "digits" 637,sv "size" 638,sv "below" 639,sv "places" 640,sv "whole" 641,sv "exponent" 642],
 ae [],
 gO (ah B 47) "d_div",
 cS "d_div" 632 222 3 0 0 3 318 true 643,
 fO (ah B 47) "d_div" (sv "basicplus.decimals" 570) 323,
 ae [],
 al .none [],
 ae [sv "a" 649,sv "b" 650,sv "one" 651,sv "other" 652,sv "exponent" 653],
 ae [],
 gO (ah B 48) "d_compare",
 cS "d_compare" 646 230 2 0 0 3 325 true 654,
 fO (ah B 48) "d_compare" (sv "basicplus.decimals" 570) 330,
 ae [],
 al .none [],
 ae [sv "a" 660,sv "n" 661,sv "digits" 662,sv "work" 663,sv "found" 664,sv "left" 665],
 ae [],
 gO (ah B 49) "d_power",
 cS "d_power" 657 233 3 0 0 3 332 true 666,
 fO (ah B 49) "d_power" (sv "basicplus.decimals" 570) 337,
 ae [],
 al .none [],
 ae [sv "a" 672,sv "work" 673],
 ae [],
 gO (ah B 50) "square_or_end",
 cS "square_or_end" 669 247 2 0 0 3 339 true 674,
 fO (ah B 50) "square_or_end" (sv "basicplus.decimals" 570) 344,
 ae [],
 al .none [],
 ae [sv "value" 682],
 ae [],
 gO (ah B 52) "is_whole",
 cS "is_whole" 679 250 1 0 0 3 346 true 683,
 fO (ah B 52) "is_whole" (sv "basicplus.arith" 677) 351,
 ae [],
 al .none [],
 ae [sv "number" 689,sv "bits" 690,sv "digits" 691],
 ae [],
 gO (ah B 53) "settled",
 cS "settled" 686 254 3 0 0 3 353 true 692,
 fO (ah B 53) "settled" (sv "basicplus.arith" 677) 358,
 ae [],
 al .none [],
 ae [sv "op" 698,sv "a" 699,sv "b" 700,sv "bits" 701,sv "digits" 702],
 ae [],
 gO (ah B 54) "whole_reckoned",
 cS "whole_reckoned" 695 256 5 0 0 3 360 true 703,
 fO (ah B 54) "whole_reckoned" (sv "basicplus.arith" 677) 365,
 ae [],
 al .none [],
 ae [sv "a" 709,sv "b" 710,sv "found" 711],
 ae [],
 gO (ah B 55) "cut_quotient",
 cS "cut_quotient" 706 260 2 0 0 3 367 true 712,
 fO (ah B 55) "cut_quotient" (sv "basicplus.arith" 677) 372,
 ae [],
 al .none [],
 ae [sv "a" 718,sv "b" 719],
 ae [],
 gO (ah B 56) "cut_rest",
 cS "cut_rest" 715 265 2 0 0 3 374 true 720,
 fO (ah B 56) "cut_rest" (sv "basicplus.arith" 677) 379,
 ae [],
 al .none [],
 ae [sv "value" 726],
 ae [],
 gO (ah B 57) "exponent_of",
 cS "exponent_of" 723 267 1 0 0 3 381 true 727,
 fO (ah B 57) "exponent_of" (sv "basicplus.arith" 677) 386,
 ae [],
 al .none [],
 ae [sv "a" 733,sv "n" 734,sv "bits" 735,sv "digits" 736],
 ae [],
 gO (ah B 58) "whole_power",
 cS "whole_power" 730 273 4 0 0 3 388 true 737,
 fO (ah B 58) "whole_power" (sv "basicplus.arith" 677) 393,
 ae [],
 al .none [],
 ae [sv "a" 743,sv "b" 744,sv "bits" 745,sv "digits" 746,sv "n" 747],
 ae [],
 gO (ah B 59) "raised",
 cS "raised" 740 279 4 0 0 3 395 true 748,
 fO (ah B 59) "raised" (sv "basicplus.arith" 677) 400,
 ae [],
 al .none [],
 ae [sv "op" 754,sv "a" 755,sv "b" 756,sv "bits" 757,sv "digits" 758,sv "is_first" 759,sv "is_second" 760,sv "work" 761,sv "one" 762,sv "other" 763],
 ae [],
 gO (ah B 60) "reckoned",
 cS "reckoned" 751 284 5 0 0 3 402 true 764,
 fO (ah B 60) "reckoned" (sv "basicplus.arith" 677) 407,
 ae [],
 al .none [],
 ae [sv "a" 770,sv "bits" 771,sv "digits" 772],
 ae [],
 gO (ah B 61) "negated",
 cS "negated" 767 299 3 0 0 3 409 true 773,
 fO (ah B 61) "negated" (sv "basicplus.arith" 677) 414,
 ae [],
 al .none [],
 ae [sv "a" 779,sv "b" 780],
 ae [],
 gO (ah B 62) "order_of",
 cS "order_of" 776 301 2 0 0 3 416 true 781,
 fO (ah B 62) "order_of" (sv "basicplus.arith" 677) 421,
 ae [],
 al .none [],
 ae [sv "a" 787,sv "bits" 788],
 ae [],
 gO (ah B 63) "inverted",
 cS "inverted" 784 307 2 0 0 3 423 true 789,
 fO (ah B 63) "inverted" (sv "basicplus.arith" 677) 428,
 ae [],
 al .none [],
 ae [sv "op" 795,sv "a" 796,sv "b" 797,sv "bits" 798,sv "one" 799,sv "other" 800],
 ae [],
 gO (ah B 64) "logic",
 cS "logic" 792 309 4 0 0 3 430 true 801,
 fO (ah B 64) "logic" (sv "basicplus.arith" 677) 435,
 ae [],
 al (.type "builtin_function_or_method") [.builtin "type.__prepare__",.type "type"],
 ⟨.type "dict",none,.dict ([en P "__module__" 815 (sv "basicplus.arrays" 804),en P "__qualname__" 817 (sv "Grid" 816),en P "__firstlineno__" 819 (.int 320 818),en P "__init__" 829 (.ref 450),en P "__static_attributes__" 835 (.ref 451)]:List DictEntry).toArray 5,#[]⟩,
 ae [],
 al .none [.int 322 0,.int 4 0,.ref 449],
 cO "Grid" "Grid" 810 320 0 0 0 0 440 false [.none,.none,.none,.none] 813,
 ⟨.type "frame",none,.plain,#[some (.ref 442),some (.ref 3),some (.ref 439),none,some (sv "basicplus.arrays" 804),none,some (.ref 0)]⟩,
 ae [],
 al .none [],
 ae [sv "self" 823,sv "kind" 824,sv "highs" 825,sv "base" 826],
 ae [],
 ⟨.none,none,.func (dR (ah (aA (ah B 67)) 0) "Grid.__init__" 0 [] .none .none .none .none none .none .none 0),#[]⟩,
 cF "__init__" "Grid.__init__" 820 322 4 0 0 3 444 true 827,
 ⟨.type "function",none,.func (dR (ah (aA (ah B 67)) 0) "Grid.__init__" 3 [] .none .none .none (sv "basicplus.arrays" 804) none (.ref 449) .none 0),#[]⟩,
 ae [sv "base" 830,sv "highs" 831,sv "items" 832,sv "kind" 833,sv "room" 834],
 ⟨.type "dict",none,.dict ([en P "__module__" 815 (sv "basicplus.arrays" 804),en P "__firstlineno__" 819 (.int 320 818),en P "__init__" 829 (.ref 450),en P "__static_attributes__" 835 (.ref 451),en P "__dict__" 837 (.ref 454),en P "__weakref__" 839 (.ref 455),en P "__doc__" 840 .none]:List DictEntry).toArray 4,#[]⟩,
 ⟨.type "type",none,.cls { name:=Str.ofString "Grid",bases:=[.type "object"],mro:=[.ref 453,.type "object"],ns:=452,qualname:=Str.ofString "Grid",hasDict:=true,slotNames:=[],subclasses:=[],abstract:=false,collection:=none,hasDel:=false },#[none,none,some (sv "Grid" 808),some (sv "Grid" 816),some (.builtin "object.__new__"),some (.bool true)]⟩,
 al (.type "getset_descriptor") [sv "__dict__" 836,.ref 453,.builtin "function.__dict__",.builtin "function.__dict__#set"],
 al (.type "getset_descriptor") [sv "__weakref__" 838,.ref 453,.builtin "ExceptionGroup.__weakref__",.none],
 al (.type "super") [.ref 453,.ref 453,.ref 453],
 al (.type "builtin_function_or_method") [.builtin "object.__init_subclass__",.ref 453],
 ae [],
 al .none [],
 ae [sv "highs" 846,sv "base" 847,sv "found" 848,sv "high" 849],
 ae [],
 gO (ah B 68) "count_of",
 cS "count_of" 843 328 2 0 0 3 458 true 850,
 fO (ah B 68) "count_of" (sv "basicplus.arrays" 804) 463,
 ae [],
 al .none [],
 ae [sv "world" 856,sv "word" 857],
 ae [],
 gO (ah B 69) "kind_in",
 cS "kind_in" 853 333 2 0 0 3 465 true 858,
 fO (ah B 69) "kind_in" (sv "basicplus.arrays" 804) 470,
 ae [],
 al .none [],
 ae [sv "world" 864,sv "highs" 865,sv "high" 866],
 ae [],
 gO (ah B 70) "check_highs",
 cS "check_highs" 861 335 2 0 0 3 472 true 867,
 fO (ah B 70) "check_highs" (sv "basicplus.arrays" 804) 477,
 ae [],
 al .none [],
 ae [sv "world" 873,sv "word" 874,sv "highs" 875],
 ae [],
 gO (ah B 71) "dim",
 cS "dim" 870 343 3 0 0 3 479 true 876,
 fO (ah B 71) "dim" (sv "basicplus.arrays" 804) 484,
 ae [],
 al .none [],
 ae [sv "world" 882,sv "word" 883,sv "many" 884],
 ae [],
 gO (ah B 72) "grid_of",
 cS "grid_of" 879 348 3 0 0 3 486 true 885,
 fO (ah B 72) "grid_of" (sv "basicplus.arrays" 804) 491,
 ae [],
 al .none [],
 ae [sv "grid" 891,sv "subs" 892,sv "found" 893,sv "sub" 894,sv "high" 895],
 ae [],
 gO (ah B 73) "place_of",
 cS "place_of" 888 352 2 0 0 3 493 true 896,
 fO (ah B 73) "place_of" (sv "basicplus.arrays" 804) 498,
 ae [],
 al .none [],
 ae [sv "world" 902,sv "word" 903,sv "subs" 904,sv "grid" 905],
 ae [],
 gO (ah B 74) "get_item",
 cS "get_item" 899 361 3 0 0 3 500 true 906,
 fO (ah B 74) "get_item" (sv "basicplus.arrays" 804) 505,
 ae [],
 al .none [],
 ae [sv "tree" 914],
 ae [],
 gO (ah B 76) "parts_of_tree",
 cS "parts_of_tree" 911 365 1 0 0 3 507 true 915,
 fO (ah B 76) "parts_of_tree" (sv "basicplus.exprread" 909) 512,
 ae [sv "AND" 920,sv "OR" 921,sv "XOR" 922,sv "EQV" 923,sv "IMP" 924],
 ae [sv "=" 926,sv "<>" 927,sv "<" 928,sv ">" 929,sv "<=" 930,sv ">=" 931],
 ae [],
 al .none [],
 ae [sv "one" 936,sv "other" 937],
 ae [],
 gO (ah B 80) "order_of_texts",
 cS "order_of_texts" 933 374 2 0 0 3 516 true 938,
 fO (ah B 80) "order_of_texts" (sv "basicplus.worth" 918) 521,
 ae [],
 al .none [],
 ae [sv "op" 944,sv "order" 945],
 ae [],
 gO (ah B 81) "compared",
 cS "compared" 941 376 2 0 0 3 523 true 946,
 fO (ah B 81) "compared" (sv "basicplus.worth" 918) 528,
 ae [],
 al .none [],
 ae [sv "op" 952,sv "one" 953,sv "other" 954],
 ae [],
 gO (ah B 82) "worth_of_texts",
 cS "worth_of_texts" 949 382 3 0 0 3 530 true 955,
 fO (ah B 82) "worth_of_texts" (sv "basicplus.worth" 918) 535,
 ae [],
 al .none [],
 gO (ah B 83) "worth_of_two",
 cO "worth_of_two" "worth_of_two" 958 388 5 0 0 3 537 true [.none,.none,.none,.ref 539] 961,
 fO (ah B 83) "worth_of_two" (sv "basicplus.worth" 918) 540,
 ae [],
 al .none [],
 ae [sv "op" 967,sv "value" 968,sv "bits" 969,sv "digits" 970],
 ae [],
 gO (ah B 84) "worth_of_one",
 cS "worth_of_one" 964 399 4 0 0 3 542 true 971,
 fO (ah B 84) "worth_of_one" (sv "basicplus.worth" 918) 547,
 ae [],
 al .none [],
 ae [sv "tree" 977,sv "bits" 978,sv "digits" 979,sv "kind" 980,sv "value" 981],
 ae [],
 gO (ah B 85) "worth_of_leaf",
 cS "worth_of_leaf" 974 403 3 0 0 3 549 true 982,
 fO (ah B 85) "worth_of_leaf" (sv "basicplus.worth" 918) 554,
 ae [],
 al .none [],
 ae [sv "tree" 988,sv "parts" 989,sv "hooks" 990,sv "kind" 991],
 ae [],
 gO (ah B 86) "worth_of_tree",
 cS "worth_of_tree" 985 408 3 0 0 3 556 true 992,
 fO (ah B 86) "worth_of_tree" (sv "basicplus.worth" 918) 561,
 ae [],
 al .none [],
 gO (ah B 87) "worth",
 cO "worth" "worth" 995 421 2 0 0 3 563 true [.none,.none,.none,.ref 565] 998,
 fO (ah B 87) "worth" (sv "basicplus.worth" 918) 566,
 ae [],
 al .none [],
 gO (ah B 89) "worths",
 cO "worths" "worths" 1002 435 2 0 0 3 568 true [.none,.none,.none,.ref 570] 1005,
 fO (ah B 89) "worths" (sv "basicplus.worth" 918) 571,
 ae [],
 al (.type "builtin_function_or_method") [.builtin "type.__prepare__",.type "type"],
 ⟨.type "dict",none,.dict ([en P "__module__" 1019 (sv "basicplus.workrun" 1008),en P "__qualname__" 1021 (sv "WorkRun" 1020),en P "__firstlineno__" 1023 (.int 439 1022),en P "__init__" 1033 (.ref 586),en P "worth" 1041 (.ref 593),en P "whole" 1049 (.ref 600),en P "value_of_name" 1057 (.ref 607),en P "item_of" 1063 (.ref 612),en P "call" 1072 (.ref 619),en P "fn" 1081 (.ref 626),en P "rows_worth" 1090 (.ref 633),en P "answered" 1099 (.ref 640),en P "assign" 1108 (.ref 647),en P "store" 1117 (.ref 654),en P "put" 1127 (.ref 661),en P "next_data" 1135 (.ref 668),en P "number_told" 1143 (.ref 675),en P "plus" 1152 (.ref 682),en P "__static_attributes__" 1160 (.ref 683)]:List DictEntry).toArray 19,#[]⟩,
 ae [],
 al .none [.int 441 0,.int 4 0,.ref 585,.int 450 0,.int 4 0,.ref 592,.int 453 0,.int 4 0,.ref 599,.int 456 0,.int 4 0,.ref 606,.int 460 0,.int 4 0,.ref 611,.int 465 0,.int 4 0,.ref 618,.int 468 0,.int 4 0,.ref 625,.int 473 0,.int 4 0,.ref 632,.int 476 0,.int 4 0,.ref 639,.int 482 0,.int 4 0,.ref 646,.int 485 0,.int 4 0,.ref 653,.int 488 0,.int 4 0,.ref 660,.int 491 0,.int 4 0,.ref 667,.int 494 0,.int 4 0,.ref 674,.int 497 0,.int 4 0,.ref 681],
 cO "WorkRun" "WorkRun" 1014 439 0 0 0 0 576 false [.none,.none,.none,.none] 1017,
 ⟨.type "frame",none,.plain,#[some (.ref 578),some (.ref 3),some (.ref 575),none,some (sv "basicplus.workrun" 1008),none,some (.ref 0)]⟩,
 ae [],
 al .none [],
 ae [sv "self" 1027,sv "world" 1028,sv "flat" 1029,sv "answers" 1030],
 ae [],
 ⟨.none,none,.func (dR (ah (aA (ah B 92)) 0) "WorkRun.__init__" 0 [] .none .none .none .none none .none .none 0),#[]⟩,
 cF "__init__" "WorkRun.__init__" 1024 441 4 0 0 3 580 true 1031,
 ⟨.type "function",none,.func (dR (ah (aA (ah B 92)) 0) "WorkRun.__init__" 3 [] .none .none .none (sv "basicplus.workrun" 1008) none (.ref 585) .none 0),#[]⟩,
 ae [],
 al .none [],
 ae [sv "self" 1037,sv "tree" 1038],
 ae [],
 ⟨.none,none,.func (dR (ah (aA (ah B 92)) 1) "WorkRun.worth" 0 [] .none .none .none .none none .none .none 0),#[]⟩,
 cF "worth" "WorkRun.worth" 1034 450 2 0 0 3 587 true 1039,
 ⟨.type "function",none,.func (dR (ah (aA (ah B 92)) 1) "WorkRun.worth" 3 [] .none .none .none (sv "basicplus.workrun" 1008) none (.ref 592) .none 0),#[]⟩,
 ae [],
 al .none [],
 ae [sv "self" 1045,sv "tree" 1046],
 ae [],
 ⟨.none,none,.func (dR (ah (aA (ah B 92)) 2) "WorkRun.whole" 0 [] .none .none .none .none none .none .none 0),#[]⟩,
 cF "whole" "WorkRun.whole" 1042 453 2 0 0 3 594 true 1047,
 ⟨.type "function",none,.func (dR (ah (aA (ah B 92)) 2) "WorkRun.whole" 3 [] .none .none .none (sv "basicplus.workrun" 1008) none (.ref 599) .none 0),#[]⟩,
 ae [],
 al .none [],
 ae [sv "self" 1053,sv "word" 1054],
 ae [],
 ⟨.none,none,.func (dR (ah (aA (ah B 92)) 3) "WorkRun.value_of_name" 0 [] .none .none .none .none none .none .none 0),#[]⟩,
 cF "value_of_name" "WorkRun.value_of_name" 1050 456 2 0 0 3 601 true 1055,
 ⟨.type "function",none,.func (dR (ah (aA (ah B 92)) 3) "WorkRun.value_of_name" 3 [] .none .none .none (sv "basicplus.workrun" 1008) none (.ref 606) .none 0),#[]⟩,
 ae [],
 al .none [],
 ⟨.none,none,.func (dR (ah (aA (ah B 92)) 4) "WorkRun.item_of" 0 [] .none .none .none .none none .none .none 0),#[]⟩,
 cO "item_of" "WorkRun.item_of" 1058 460 3 0 0 3 608 true [.none,.none,.none,.ref 610] 1061,
 ⟨.type "function",none,.func (dR (ah (aA (ah B 92)) 4) "WorkRun.item_of" 3 [] .none .none .none (sv "basicplus.workrun" 1008) none (.ref 611) .none 0),#[]⟩,
 ae [],
 al .none [],
 ae [sv "self" 1067,sv "word" 1068,sv "args" 1069],
 ae [],
 ⟨.none,none,.func (dR (ah (aA (ah B 92)) 5) "WorkRun.call" 0 [] .none .none .none .none none .none .none 0),#[]⟩,
 cF "call" "WorkRun.call" 1064 465 3 0 0 3 613 true 1070,
 ⟨.type "function",none,.func (dR (ah (aA (ah B 92)) 5) "WorkRun.call" 3 [] .none .none .none (sv "basicplus.workrun" 1008) none (.ref 618) .none 0),#[]⟩,
 ae [],
 al .none [],
 ae [sv "self" 1076,sv "word" 1077,sv "args" 1078],
 ae [],
 ⟨.none,none,.func (dR (ah (aA (ah B 92)) 6) "WorkRun.fn" 0 [] .none .none .none .none none .none .none 0),#[]⟩,
 cF "fn" "WorkRun.fn" 1073 468 3 0 0 3 620 true 1079,
 ⟨.type "function",none,.func (dR (ah (aA (ah B 92)) 6) "WorkRun.fn" 3 [] .none .none .none (sv "basicplus.workrun" 1008) none (.ref 625) .none 0),#[]⟩,
 ae [],
 al .none [],
 ae [sv "self" 1085,sv "word" 1086,sv "row" 1087],
 ae [],
 ⟨.none,none,.func (dR (ah (aA (ah B 92)) 7) "WorkRun.rows_worth" 0 [] .none .none .none .none none .none .none 0),#[]⟩,
 cF "rows_worth" "WorkRun.rows_worth" 1082 473 3 0 0 3 627 true 1088,
 ⟨.type "function",none,.func (dR (ah (aA (ah B 92)) 7) "WorkRun.rows_worth" 3 [] .none .none .none (sv "basicplus.workrun" 1008) none (.ref 632) .none 0),#[]⟩,
 ae [],
 al .none [],
 ae [sv "self" 1094,sv "word" 1095,sv "args" 1096],
 ae [],
 ⟨.none,none,.func (dR (ah (aA (ah B 92)) 8) "WorkRun.answered" 0 [] .none .none .none .none none .none .none 0),#[]⟩,
 cF "answered" "WorkRun.answered" 1091 476 3 0 0 3 634 true 1097,
 ⟨.type "function",none,.func (dR (ah (aA (ah B 92)) 8) "WorkRun.answered" 3 [] .none .none .none (sv "basicplus.workrun" 1008) none (.ref 639) .none 0),#[]⟩,
 ae [],
 al .none [],
 ae [sv "self" 1103,sv "target" 1104,sv "value" 1105],
 ae [],
 ⟨.none,none,.func (dR (ah (aA (ah B 92)) 9) "WorkRun.assign" 0 [] .none .none .none .none none .none .none 0),#[]⟩,
 cF "assign" "WorkRun.assign" 1100 482 3 0 0 3 641 true 1106,
 ⟨.type "function",none,.func (dR (ah (aA (ah B 92)) 9) "WorkRun.assign" 3 [] .none .none .none (sv "basicplus.workrun" 1008) none (.ref 646) .none 0),#[]⟩,
 ae [],
 al .none [],
 ae [sv "self" 1112,sv "word" 1113,sv "value" 1114],
 ae [],
 ⟨.none,none,.func (dR (ah (aA (ah B 92)) 10) "WorkRun.store" 0 [] .none .none .none .none none .none .none 0),#[]⟩,
 cF "store" "WorkRun.store" 1109 485 3 0 0 3 648 true 1115,
 ⟨.type "function",none,.func (dR (ah (aA (ah B 92)) 10) "WorkRun.store" 3 [] .none .none .none (sv "basicplus.workrun" 1008) none (.ref 653) .none 0),#[]⟩,
 ae [],
 al .none [],
 ae [sv "self" 1121,sv "word" 1122,sv "subs" 1123,sv "value" 1124],
 ae [],
 ⟨.none,none,.func (dR (ah (aA (ah B 92)) 11) "WorkRun.put" 0 [] .none .none .none .none none .none .none 0),#[]⟩,
 cF "put" "WorkRun.put" 1118 488 4 0 0 3 655 true 1125,
 ⟨.type "function",none,.func (dR (ah (aA (ah B 92)) 11) "WorkRun.put" 3 [] .none .none .none (sv "basicplus.workrun" 1008) none (.ref 660) .none 0),#[]⟩,
 ae [],
 al .none [],
 ae [sv "self" 1131,sv "kind" 1132],
 ae [],
 ⟨.none,none,.func (dR (ah (aA (ah B 92)) 12) "WorkRun.next_data" 0 [] .none .none .none .none none .none .none 0),#[]⟩,
 cF "next_data" "WorkRun.next_data" 1128 491 2 0 0 3 662 true 1133,
 ⟨.type "function",none,.func (dR (ah (aA (ah B 92)) 12) "WorkRun.next_data" 3 [] .none .none .none (sv "basicplus.workrun" 1008) none (.ref 667) .none 0),#[]⟩,
 ae [],
 al .none [],
 ae [sv "self" 1139,sv "text" 1140],
 ae [],
 ⟨.none,none,.func (dR (ah (aA (ah B 92)) 13) "WorkRun.number_told" 0 [] .none .none .none .none none .none .none 0),#[]⟩,
 cF "number_told" "WorkRun.number_told" 1136 494 2 0 0 3 669 true 1141,
 ⟨.type "function",none,.func (dR (ah (aA (ah B 92)) 13) "WorkRun.number_told" 3 [] .none .none .none (sv "basicplus.workrun" 1008) none (.ref 674) .none 0),#[]⟩,
 ae [],
 al .none [],
 ae [sv "self" 1147,sv "value" 1148,sv "more" 1149],
 ae [],
 ⟨.none,none,.func (dR (ah (aA (ah B 92)) 14) "WorkRun.plus" 0 [] .none .none .none .none none .none .none 0),#[]⟩,
 cF "plus" "WorkRun.plus" 1144 497 3 0 0 3 676 true 1150,
 ⟨.type "function",none,.func (dR (ah (aA (ah B 92)) 14) "WorkRun.plus" 3 [] .none .none .none (sv "basicplus.workrun" 1008) none (.ref 681) .none 0),#[]⟩,
 ae [sv "answers" 1153,sv "asked" 1154,sv "bits" 1155,sv "control" 1156,sv "digits" 1157,sv "flat" 1158,sv "world" 1159],
 ⟨.type "dict",none,.dict ([en P "__module__" 1019 (sv "basicplus.workrun" 1008),en P "__firstlineno__" 1023 (.int 439 1022),en P "__init__" 1033 (.ref 586),en P "worth" 1041 (.ref 593),en P "whole" 1049 (.ref 600),en P "value_of_name" 1057 (.ref 607),en P "item_of" 1063 (.ref 612),en P "call" 1072 (.ref 619),en P "fn" 1081 (.ref 626),en P "rows_worth" 1090 (.ref 633),en P "answered" 1099 (.ref 640),en P "assign" 1108 (.ref 647),en P "store" 1117 (.ref 654),en P "put" 1127 (.ref 661),en P "next_data" 1135 (.ref 668),en P "number_told" 1143 (.ref 675),en P "plus" 1152 (.ref 682),en P "__static_attributes__" 1160 (.ref 683),en P "__dict__" 1162 (.ref 686),en P "__weakref__" 1164 (.ref 687),en P "__doc__" 1165 .none]:List DictEntry).toArray 4,#[]⟩,
 ⟨.type "type",none,.cls { name:=Str.ofString "WorkRun",bases:=[.type "object"],mro:=[.ref 685,.type "object"],ns:=684,qualname:=Str.ofString "WorkRun",hasDict:=true,slotNames:=[],subclasses:=[],abstract:=false,collection:=none,hasDel:=false },#[none,none,some (sv "WorkRun" 1012),some (sv "WorkRun" 1020),some (.builtin "object.__new__"),some (.bool true)]⟩,
 al (.type "getset_descriptor") [sv "__dict__" 1161,.ref 685,.builtin "function.__dict__",.builtin "function.__dict__#set"],
 al (.type "getset_descriptor") [sv "__weakref__" 1163,.ref 685,.builtin "ExceptionGroup.__weakref__",.none],
 al (.type "super") [.ref 685,.ref 685,.ref 685],
 al (.type "builtin_function_or_method") [.builtin "object.__init_subclass__",.ref 685],
 ae [],
 al .none [],
 ae [sv "pot" 1173,sv "many" 1174,sv "_law_usual" 1175,sv "place" 1176],
 ae [],
 gO (ah B 94) "_law_draw",
 cS "_law_draw" 1170 500 2 0 0 3 690 true 1177,
 fO (ah B 94) "_law_draw" (sv "law_sm0010_01" 1168) 695,
 ae [],
 al .none [],
 ae [sv "pot" 1183,sv "_law_names" 1184,sv "which" 1185],
 ae [],
 gO (ah B 95) "_law_leaf",
 cS "_law_leaf" 1180 505 1 0 0 3 697 true 1186,
 fO (ah B 95) "_law_leaf" (sv "law_sm0010_01" 1168) 702,
 ae [],
 al .none [],
 ae [sv "pot" 1192,sv "first" 1193,sv "_law_signs" 1194,sv "sign" 1195],
 ae [],
 gO (ah B 96) "_law_two",
 cS "_law_two" 1189 511 2 0 0 3 704 true 1196,
 fO (ah B 96) "_law_two" (sv "law_sm0010_01" 1168) 709,
 ae [],
 al .none [],
 gO (ah B 97) "_law_argument",
 cO "_law_argument" "_law_argument" 1199 515 2 0 0 3 711 true [.none,.none,.none,.ref 713] 1202,
 fO (ah B 97) "_law_argument" (sv "law_sm0010_01" 1168) 714,
 ae [],
 al .none [],
 ae [sv "word" 1208,sv "tree" 1209],
 ae [],
 gO (ah B 98) "_law_kept",
 cS "_law_kept" 1205 521 2 0 0 3 716 true 1210,
 fO (ah B 98) "_law_kept" (sv "law_sm0010_01" 1168) 721,
 ae [],
 al .none [],
 gO (ah B 99) "_law_put",
 cO "_law_put" "_law_put" 1213 525 2 0 0 3 723 true [.none,.none,.none,.ref 725] 1216,
 fO (ah B 99) "_law_put" (sv "law_sm0010_01" 1168) 726,
 ae [],
 al .none [],
 ae [sv "tree" 1222,sv "name" 1223],
 ae [],
 gO (ah B 100) "_law_has",
 cS "_law_has" 1219 531 2 0 0 3 728 true 1224,
 fO (ah B 100) "_law_has" (sv "law_sm0010_01" 1168) 733,
 ae [],
 al .none [],
 ae [sv "tree" 1230,sv "fns" 1231,sv "idle" 1232,sv "params" 1233,sv "body" 1234,sv "row" 1235,sv "whole" 1236,sv "given" 1237,sv "name" 1238,sv "part" 1239],
 ae [],
 gO (ah B 101) "_law_within",
 cS "_law_within" 1227 535 3 0 0 3 735 true 1240,
 fO (ah B 101) "_law_within" (sv "law_sm0010_01" 1168) 740,
 ae [],
 al .none [],
 ae [sv "world" 1246,sv "call" 1247,sv "run" 1248,sv "values" 1249,sv "refusal" 1250],
 ae [],
 gO (ah B 102) "_law_called",
 cS "_law_called" 1243 547 2 0 0 3 742 true 1251,
 fO (ah B 102) "_law_called" (sv "law_sm0010_01" 1168) 747,
 ae [],
 al .none [],
 ae [sv "world" 1257,sv "call" 1258,sv "before" 1259,sv "idle" 1260,sv "tree" 1261,sv "is_told" 1262,sv "value" 1263,sv "found" 1264,sv "refusal" 1265],
 ae [],
 gO (ah B 103) "_law_put_in_right",
 cS "_law_put_in_right" 1254 554 2 0 0 3 749 true 1266,
 fO (ah B 103) "_law_put_in_right" (sv "law_sm0010_01" 1168) 754,
 ae [],
 al .none [],
 gO (ah B 104) "_law_renamed_right",
 cO "_law_renamed_right" "_law_renamed_right" 1269 565 4 0 0 3 756 true [.none,.none,.none,.ref 758] 1272,
 fO (ah B 104) "_law_renamed_right" (sv "law_sm0010_01" 1168) 759,
 ae [],
 al .none [],
 gO (ah B 105) "law",
 cO "law" "law" 1275 577 1 0 0 3 761 true [.none,.none,.none,.ref 763] 1278,
 fO (ah B 105) "law" (sv "law_sm0010_01" 1168) 764]
noncomputable def yt (P:Params):List DictEntry:=[
 en P "_wall" 193 (.ref 21),
 en P "MOST_TEXT" 197 (.int 255 196),
 en P "MOST_EXPONENT" 199 (.int 99 198),
 en P "BasicError" 233 (.ref 41),
 en P "error_codes" 240 (.ref 51),
 en P "number_of_error" 250 (.ref 58),
 en P "code_of_error" 258 (.ref 65),
 en P "kind_of" 265 (.ref 72),
 en P "kind_of_name" 274 (.ref 79),
 en P "first_value" 281 (.ref 86),
 en P "figures_of" 290 (.ref 93),
 en P "rounded_by" 301 (.ref 100),
 en P "made" 313 (.ref 107),
 en P "whole_near" 323 (.ref 114),
 en P "fits" 331 (.ref 121),
 en P "whole_of" 340 (.ref 128),
 en P "decimal_of" 348 (.ref 135),
 en P "text_of" 355 (.ref 142),
 en P "checked_text" 362 (.ref 149),
 en P "suited" 372 (.ref 156),
 en P "truth" 379 (.ref 163),
 en P "Control" 412 (.ref 180),
 en P "error_number" 419 (.ref 191),
 en P "field_text" 432 (.ref 198),
 en P "no_field" 440 (.ref 205),
 en P "hide_fields" 450 (.ref 212),
 en P "lay_fields" 460 (.ref 219),
 en P "World" 527 (.ref 237),
 en P "kind_here" 535 (.ref 248),
 en P "get_name" 543 (.ref 255),
 en P "set_name" 552 (.ref 262),
 en P "variable_value" 563 (.ref 269),
 en P "fn_called" 569 (.ref 274),
 en P "ONE" 574 (.ref 275),
 en P "MOST_POWER" 576 (.int 9999 575),
 en P "d_negated" 583 (.ref 282),
 en P "alike" 592 (.ref 289),
 en P "d_add" 604 (.ref 296),
 en P "d_sub" 613 (.ref 303),
 en P "d_mul" 622 (.ref 310),
 en P "with_rest" 631 (.ref 317),
 en P "d_div" 645 (.ref 324),
 en P "d_compare" 656 (.ref 331),
 en P "d_power" 668 (.ref 338),
 en P "square_or_end" 676 (.ref 345),
 en P "is_whole" 685 (.ref 352),
 en P "settled" 694 (.ref 359),
 en P "whole_reckoned" 705 (.ref 366),
 en P "cut_quotient" 714 (.ref 373),
 en P "cut_rest" 722 (.ref 380),
 en P "exponent_of" 729 (.ref 387),
 en P "whole_power" 739 (.ref 394),
 en P "raised" 750 (.ref 401),
 en P "reckoned" 766 (.ref 408),
 en P "negated" 775 (.ref 415),
 en P "order_of" 783 (.ref 422),
 en P "inverted" 791 (.ref 429),
 en P "logic" 803 (.ref 436),
 en P "USUAL_HIGH" 807 (.int 10 806),
 en P "Grid" 842 (.ref 453),
 en P "count_of" 852 (.ref 464),
 en P "kind_in" 860 (.ref 471),
 en P "check_highs" 869 (.ref 478),
 en P "dim" 878 (.ref 485),
 en P "grid_of" 887 (.ref 492),
 en P "place_of" 898 (.ref 499),
 en P "get_item" 908 (.ref 506),
 en P "parts_of_tree" 917 (.ref 513),
 en P "LOGIC" 925 (.ref 514),
 en P "COMPARISONS" 932 (.ref 515),
 en P "order_of_texts" 940 (.ref 522),
 en P "compared" 948 (.ref 529),
 en P "worth_of_texts" 957 (.ref 536),
 en P "worth_of_two" 963 (.ref 541),
 en P "worth_of_one" 973 (.ref 548),
 en P "worth_of_leaf" 984 (.ref 555),
 en P "worth_of_tree" 994 (.ref 562),
 en P "worth" 1000 (.ref 567),
 en P "worth_worth" 1001 (.ref 567),
 en P "worths" 1007 (.ref 572),
 en P "MOST_PILE" 1011 (.int 20 1010),
 en P "WorkRun" 1167 (.ref 685),
 en P "_law_draw" 1179 (.ref 696),
 en P "_law_leaf" 1188 (.ref 703),
 en P "_law_two" 1198 (.ref 710),
 en P "_law_argument" 1204 (.ref 715),
 en P "_law_kept" 1212 (.ref 722),
 en P "_law_put" 1218 (.ref 727),
 en P "_law_has" 1226 (.ref 734),
 en P "_law_within" 1242 (.ref 741),
 en P "_law_called" 1253 (.ref 748),
 en P "_law_put_in_right" 1268 (.ref 755),
 en P "_law_renamed_right" 1274 (.ref 760),
 en P "law" 1280 (.ref 765)]
noncomputable def zI (P:Params) (nm:Value) (k:Nat):List DictEntry:=en P "__name__" 165 nm::en P "__doc__" 166 .none::en P "__package__" 167 .none::en P "__loader__" 168 (.builtin "__main__.__loader__#opaque")::en P "__spec__" 169 .none::en P "__annotations__" 170 (.ref 6)::en P "__builtins__" 171 (.ref 4)::en P "__file__" 173 (sv "/claim/cut.py" 172)::en P "__cached__" 174 .none::(yt P).take k
noncomputable def tabE:List Value:=[.int 1 0,.int 0 0,.ref 20,.int 7 0,.int 0 0,.ref 28,.int 13 0,.int 0 0,.ref 50,.int 16 0,.int 0 0,.ref 57,.int 24 0,.int 0 0,.ref 64,.int 27 0,.int 0 0,.ref 71,.int 31 0,.int 0 0,.ref 78,.int 38 0,.int 0 0,.ref 85,.int 42 0,.int 0 0,.ref 92,.int 48 0,.int 0 0,.ref 99,.int 58 0,.int 0 0,.ref 106,.int 73 0,.int 0 0,.ref 113,.int 79 0,.int 0 0,.ref 120,.int 81 0,.int 0 0,.ref 127,.int 88 0,.int 0 0,.ref 134,.int 92 0,.int 0 0,.ref 141,.int 96 0,.int 0 0,.ref 148,.int 100 0,.int 0 0,.ref 155,.int 104 0,.int 0 0,.ref 162,.int 107 0,.int 0 0,.ref 169,.int 113 0,.int 0 0,.ref 190,.int 116 0,.int 0 0,.ref 197,.int 121 0,.int 0 0,.ref 204,.int 124 0,.int 0 0,.ref 211,.int 128 0,.int 0 0,.ref 218,.int 135 0,.int 0 0,.ref 225,.int 166 0,.int 0 0,.ref 247,.int 168 0,.int 0 0,.ref 254,.int 170 0,.int 0 0,.ref 261,.int 173 0,.int 0 0,.ref 268,.int 180 0,.int 0 0,.ref 273,.int 208 0,.int 0 0,.ref 281,.int 210 0,.int 0 0,.ref 288,.int 213 0,.int 0 0,.ref 295,.int 216 0,.int 0 0,.ref 302,.int 218 0,.int 0 0,.ref 309,.int 220 0,.int 0 0,.ref 316,.int 222 0,.int 0 0,.ref 323,.int 230 0,.int 0 0,.ref 330,.int 233 0,.int 0 0,.ref 337,.int 247 0,.int 0 0,.ref 344,.int 250 0,.int 0 0,.ref 351,.int 254 0,.int 0 0,.ref 358,.int 256 0,.int 0 0,.ref 365,.int 260 0,.int 0 0,.ref 372,.int 265 0,.int 0 0,.ref 379,.int 267 0,.int 0 0,.ref 386,.int 273 0,.int 0 0,.ref 393,.int 279 0,.int 0 0,.ref 400,.int 284 0,.int 0 0,.ref 407,.int 299 0,.int 0 0,.ref 414,.int 301 0,.int 0 0,.ref 421,.int 307 0,.int 0 0,.ref 428,.int 309 0,.int 0 0,.ref 435,.int 320 0,.int 0 0,.ref 442,.int 328 0,.int 0 0,.ref 463,.int 333 0,.int 0 0,.ref 470,.int 335 0,.int 0 0,.ref 477,.int 343 0,.int 0 0,.ref 484,.int 348 0,.int 0 0,.ref 491,.int 352 0,.int 0 0,.ref 498,.int 361 0,.int 0 0,.ref 505,.int 365 0,.int 0 0,.ref 512,.int 374 0,.int 0 0,.ref 521,.int 376 0,.int 0 0,.ref 528,.int 382 0,.int 0 0,.ref 535,.int 388 0,.int 0 0,.ref 540,.int 399 0,.int 0 0,.ref 547,.int 403 0,.int 0 0,.ref 554,.int 408 0,.int 0 0,.ref 561,.int 421 0,.int 0 0,.ref 566,.int 435 0,.int 0 0,.ref 571,.int 439 0,.int 0 0,.ref 578,.int 500 0,.int 0 0,.ref 695,.int 505 0,.int 0 0,.ref 702,.int 511 0,.int 0 0,.ref 709,.int 515 0,.int 0 0,.ref 714,.int 521 0,.int 0 0,.ref 721,.int 525 0,.int 0 0,.ref 726,.int 531 0,.int 0 0,.ref 733,.int 535 0,.int 0 0,.ref 740,.int 547 0,.int 0 0,.ref 747,.int 554 0,.int 0 0,.ref 754,.int 565 0,.int 0 0,.ref 759,.int 577 0,.int 0 0,.ref 764]
noncomputable def AP (P:Params):Bool->Obj
 | false=>⟨.none,none,.dict ([]:List DictEntry).toArray 0,#[]⟩
 | true=>⟨.none,none,.dict ([en P "type.__subclasses__.Exception.0" 230 (.int 41 0),en P "type.__subclasses__.Exception.n" 231 (.int 1 0)]:List DictEntry).toArray 2,#[]⟩
noncomputable def oi (P:Params) (b2:Bool) (N k n3 tab:Nat) (nm:Value):BT:=
 z0 11 ((A5 P (AP P b2) ⟨.type "dict",none,.dict (zI P nm k).toArray n3,#[]⟩ (al .none (tabE.take tab))).take N)
noncomputable def St (P:Params) (b2:Bool) (N k n3 tab:Nat) (nm:Value) (tk:Nat) (os:OsState):SharedT:=⟨oi P b2 N k n3 tab nm,N,{},#[],{},tk,os⟩
noncomputable def ba:Env:={ scope:=pw.main.scope,locals:=mainNs,globals:=mainNs,cells:=[],code:=.ref 13,frame:=some 14 }
noncomputable def cT:Code:=.body B ba
noncomputable abbrev fT:Frame:=topFrame ⟨0,0,0,0⟩
theorem A8 (w:World) (os:OsState):segRunT treeTable pw w 11 (some (.ref 6)) 1 57 (St w.params false 15 0 9 0 (sv "__main__" 164) 187 os) (piecesOf ((B.drop 0).take 4) ba cT ⟨0,0,0,0⟩ [fT])=some (.next,St w.params false 22 3 12 3 (sv "basicplus.values" 194) 200 os,cT,⟨6,0,6,13⟩):=by kernel_rfl
theorem Bi (w:World) (os:OsState):segRunT treeTable pw w 11 (some (.ref 6)) 1 249 (St w.params false 22 3 12 3 (sv "basicplus.values" 194) 200 os) (piecesOf ((B.drop 4).take 1) ba cT ⟨6,0,6,13⟩ [fT])=some (.next,St w.params true 45 4 13 6 (sv "basicplus.values" 194) 234 os,cT,⟨7,0,12,24⟩):=by rw [PySem.W.Fast.te10110043849684766642,PySem.W.Fast.te14364793385576792824];kernel_rfl
theorem Bf (w:World) (os:OsState):segRunT treeTable pw w 11 (some (.ref 6)) 1 245 (St w.params true 45 4 13 6 (sv "basicplus.values" 194) 234 os) (piecesOf ((B.drop 5).take 8) ba cT ⟨7,0,12,24⟩ [fT])=some (.next,St w.params true 101 12 21 30 (sv "basicplus.values" 194) 302 os,cT,⟨48,0,57,16⟩):=by kernel_rfl
theorem Ac (w:World) (os:OsState):segRunT treeTable pw w 11 (some (.ref 6)) 1 248 (St w.params true 101 12 21 30 (sv "basicplus.values" 194) 302 os) (piecesOf ((B.drop 13).take 8) ba cT ⟨48,0,57,16⟩ [fT])=some (.next,St w.params true 157 20 29 54 (sv "basicplus.values" 194) 373 os,cT,⟨100,0,103,82⟩):=by kernel_rfl
theorem Ag (w:World) (os:OsState):segRunT treeTable pw w 11 (some (.ref 6)) 1 39 (St w.params true 157 20 29 54 (sv "basicplus.values" 194) 373 os) (piecesOf ((B.drop 21).take 2) ba cT ⟨100,0,103,82⟩ [fT])=some (.next,St w.params true 164 21 30 57 (sv "basicplus.control" 380) 382 os,cT,⟨106,0,106,8⟩):=by kernel_rfl
theorem Al (w:World) (os:OsState):segRunT treeTable pw w 11 (some (.ref 6)) 1 225 (St w.params true 164 21 30 57 (sv "basicplus.control" 380) 382 os) (piecesOf ((B.drop 23).take 1) ba cT ⟨106,0,106,8⟩ [fT])=some (.next,St w.params true 185 22 31 60 (sv "basicplus.control" 380) 413 os,cT,⟨107,0,112,27⟩):=by rw [PySem.W.Fast.te10110043849684766642,PySem.W.Fast.te14364793385576792824];kernel_rfl
theorem AL (w:World) (os:OsState):segRunT treeTable pw w 11 (some (.ref 6)) 1 175 (St w.params true 185 22 31 60 (sv "basicplus.control" 380) 413 os) (piecesOf ((B.drop 24).take 7) ba cT ⟨107,0,112,27⟩ [fT])=some (.next,St w.params true 220 27 36 75 (sv "basicplus.world" 461) 463 os,cT,⟨134,0,134,8⟩):=by kernel_rfl
theorem Am (w:World) (os:OsState):segRunT treeTable pw w 11 (some (.ref 6)) 1 260 (St w.params true 220 27 36 75 (sv "basicplus.world" 461) 463 os) (piecesOf ((B.drop 31).take 1) ba cT ⟨134,0,134,8⟩ [fT])=some (.next,St w.params true 242 28 37 78 (sv "basicplus.world" 461) 528 os,cT,⟨135,0,165,24⟩):=by rw [PySem.W.Fast.te10110043849684766642,PySem.W.Fast.te14364793385576792824];kernel_rfl
theorem Ad (w:World) (os:OsState):segRunT treeTable pw w 11 (some (.ref 6)) 1 248 (St w.params true 242 28 37 78 (sv "basicplus.world" 461) 528 os) (piecesOf ((B.drop 32).take 11) ba cT ⟨135,0,165,24⟩ [fT])=some (.next,St w.params true 290 37 46 99 (sv "basicplus.decimals" 570) 593 os,cT,⟨210,0,212,76⟩):=by kernel_rfl
theorem Az (w:World) (os:OsState):segRunT treeTable pw w 11 (some (.ref 6)) 1 231 (St w.params true 290 37 46 99 (sv "basicplus.decimals" 570) 593 os) (piecesOf ((B.drop 43).take 7) ba cT ⟨210,0,212,76⟩ [fT])=some (.next,St w.params true 339 44 53 120 (sv "basicplus.decimals" 570) 669 os,cT,⟨233,0,246,43⟩):=by kernel_rfl
theorem AC (w:World) (os:OsState):segRunT treeTable pw w 11 (some (.ref 6)) 1 223 (St w.params true 339 44 53 120 (sv "basicplus.decimals" 570) 669 os) (piecesOf ((B.drop 50).take 8) ba cT ⟨233,0,246,43⟩ [fT])=some (.next,St w.params true 388 51 60 141 (sv "basicplus.arith" 677) 730 os,cT,⟨267,0,272,16⟩):=by kernel_rfl
theorem Ae (w:World) (os:OsState):segRunT treeTable pw w 11 (some (.ref 6)) 1 247 (St w.params true 388 51 60 141 (sv "basicplus.arith" 677) 730 os) (piecesOf ((B.drop 58).take 9) ba cT ⟨267,0,272,16⟩ [fT])=some (.next,St w.params true 437 59 68 162 (sv "basicplus.arrays" 804) 808 os,cT,⟨319,0,319,10⟩):=by kernel_rfl
theorem AN (w:World) (os:OsState):segRunT treeTable pw w 11 (some (.ref 6)) 1 229 (St w.params true 437 59 68 162 (sv "basicplus.arrays" 804) 808 os) (piecesOf ((B.drop 67).take 1) ba cT ⟨319,0,319,10⟩ [fT])=some (.next,St w.params true 458 60 69 165 (sv "basicplus.arrays" 804) 843 os,cT,⟨320,0,327,35⟩):=by rw [PySem.W.Fast.te10110043849684766642,PySem.W.Fast.te14364793385576792824];kernel_rfl
theorem zX (w:World) (os:OsState):segRunT treeTable pw w 11 (some (.ref 6)) 1 230 (St w.params true 458 60 69 165 (sv "basicplus.arrays" 804) 843 os) (piecesOf ((B.drop 68).take 8) ba cT ⟨320,0,327,35⟩ [fT])=some (.next,St w.params true 507 67 76 186 (sv "basicplus.exprread" 909) 911 os,cT,⟨364,0,364,8⟩):=by kernel_rfl
theorem As (w:World) (os:OsState):segRunT treeTable pw w 11 (some (.ref 6)) 1 219 (St w.params true 507 67 76 186 (sv "basicplus.exprread" 909) 911 os) (piecesOf ((B.drop 76).take 9) ba cT ⟨364,0,364,8⟩ [fT])=some (.next,St w.params true 549 75 84 204 (sv "basicplus.worth" 918) 974 os,cT,⟨399,0,402,81⟩):=by kernel_rfl
theorem AA (w:World) (os:OsState):segRunT treeTable pw w 11 (some (.ref 6)) 1 146 (St w.params true 549 75 84 204 (sv "basicplus.worth" 918) 974 os) (piecesOf ((B.drop 85).take 7) ba cT ⟨399,0,402,81⟩ [fT])=some (.next,St w.params true 573 81 90 216 (sv "basicplus.workrun" 1008) 1012 os,cT,⟨438,0,438,9⟩):=by kernel_rfl
theorem Ah (w:World) (os:OsState):segRunT treeTable pw w 11 (some (.ref 6)) 1 684 (St w.params true 573 81 90 216 (sv "basicplus.workrun" 1008) 1012 os) (piecesOf ((B.drop 92).take 1) ba cT ⟨438,0,438,9⟩ [fT])=some (.next,St w.params true 690 82 91 219 (sv "basicplus.workrun" 1008) 1168 os,cT,⟨439,0,498,16⟩):=by rw [PySem.W.Fast.te10110043849684766642,PySem.W.Fast.te14364793385576792824];kernel_rfl
theorem AE (w:World) (os:OsState):segRunT treeTable pw w 11 (some (.ref 6)) 1 217 (St w.params true 690 82 91 219 (sv "basicplus.workrun" 1008) 1168 os) (piecesOf ((B.drop 93).take 8) ba cT ⟨439,0,498,16⟩ [fT])=some (.next,St w.params true 735 89 98 240 (sv "law_sm0010_01" 1168) 1227 os,cT,⟨531,0,534,33⟩):=by kernel_rfl
theorem yS (w:World) (os:OsState):segRunT treeTable pw w 11 (some (.ref 6)) 1 161 (St w.params true 735 89 98 240 (sv "law_sm0010_01" 1168) 1227 os) (piecesOf ((B.drop 101).take 5) ba cT ⟨531,0,534,33⟩ [fT])=some (.next,St w.params true 766 94 103 255 (sv "law_sm0010_01" 1168) 1281 os,cT,⟨577,0,594,97⟩):=by kernel_rfl
noncomputable abbrev cp:Option Value:=some (.ref 6)
theorem aU {w:World} {n N a m b:Nat} {pos pos':Pos} {S S':SharedT} {r:Shared} (h:segRunT treeTable pw w 11 cp 1 n S (piecesOf ((B.drop a).take m) ba cT pos [fT])=some (.next,S',cT,pos')) (hb:a+m=b)
  (k:topRun treeTable pw w 11 cp N S'.abs (restOf (B.drop b) ba cT pos' [fT])=some r):topRun treeTable pw w 11 cp (n+N) S.abs (restOf (B.drop a) ba cT pos [fT])=some r:=by
 have:=piece_app (segRun_of h) k
 subst hb
 rw [<-List.drop_drop,List.take_append_drop] at this
 exact this
noncomputable def fy (P:Params):Heap:=absHeap (oi P true 766 94 103 255 (sv "law_sm0010_01" 1168)) 766 {}
theorem AB (w:World) (os:OsState):topRun treeTable pw w 11 cp 2 (St w.params true 766 94 103 255 (sv "law_sm0010_01" 1168) 1281 os).abs ⟨doneF .next,cT,⟨577,0,594,97⟩,[fT]⟩=some (St w.params true 766 94 103 255 (sv "law_sm0010_01" 1168) 1281 os).abs:=by kernel_rfl
theorem sG:B.drop 106=[]:=by kernel_rfl
theorem zK (w:World) (os:OsState):topRun treeTable pw w 11 cp (161+2) (St w.params true 735 89 98 240 (sv "law_sm0010_01" 1168) 1227 os).abs (restOf (B.drop 101) ba cT ⟨531,0,534,33⟩ [fT])=some (St w.params true 766 94 103 255 (sv "law_sm0010_01" 1168) 1281 os).abs:=aU (yS w os) rfl (by rw [sG];exact piece_nil (AB w os))
theorem AI (w:World) (os:OsState):topRun treeTable pw w 11 cp (217+(161+2)) (St w.params true 690 82 91 219 (sv "basicplus.workrun" 1008) 1168 os).abs (restOf (B.drop 93) ba cT ⟨439,0,498,16⟩ [fT])=some (St w.params true 766 94 103 255 (sv "law_sm0010_01" 1168) 1281 os).abs:=aU (AE w os) rfl (zK w os)
theorem Ap (w:World) (os:OsState):topRun treeTable pw w 11 cp (684+(217+(161+2))) (St w.params true 573 81 90 216 (sv "basicplus.workrun" 1008) 1012 os).abs (restOf (B.drop 92) ba cT ⟨438,0,438,9⟩ [fT])=some (St w.params true 766 94 103 255 (sv "law_sm0010_01" 1168) 1281 os).abs:=aU (Ah w os) rfl (AI w os)
theorem zY (w:World) (os:OsState):topRun treeTable pw w 11 cp (146+(684+(217+(161+2)))) (St w.params true 549 75 84 204 (sv "basicplus.worth" 918) 974 os).abs (restOf (B.drop 85) ba cT ⟨399,0,402,81⟩ [fT])=some (St w.params true 766 94 103 255 (sv "law_sm0010_01" 1168) 1281 os).abs:=aU (AA w os) rfl (Ap w os)
theorem Ar (w:World) (os:OsState):topRun treeTable pw w 11 cp (219+(146+(684+(217+(161+2))))) (St w.params true 507 67 76 186 (sv "basicplus.exprread" 909) 911 os).abs (restOf (B.drop 76) ba cT ⟨364,0,364,8⟩ [fT])=some (St w.params true 766 94 103 255 (sv "law_sm0010_01" 1168) 1281 os).abs:=aU (As w os) rfl (zY w os)
theorem AM (w:World) (os:OsState):topRun treeTable pw w 11 cp (230+(219+(146+(684+(217+(161+2)))))) (St w.params true 458 60 69 165 (sv "basicplus.arrays" 804) 843 os).abs (restOf (B.drop 68) ba cT ⟨320,0,327,35⟩ [fT])=some (St w.params true 766 94 103 255 (sv "law_sm0010_01" 1168) 1281 os).abs:=aU (zX w os) rfl (Ar w os)
theorem AK (w:World) (os:OsState):topRun treeTable pw w 11 cp (229+(230+(219+(146+(684+(217+(161+2))))))) (St w.params true 437 59 68 162 (sv "basicplus.arrays" 804) 808 os).abs (restOf (B.drop 67) ba cT ⟨319,0,319,10⟩ [fT])=some (St w.params true 766 94 103 255 (sv "law_sm0010_01" 1168) 1281 os).abs:=aU (AN w os) rfl (AM w os)
theorem Aw (w:World) (os:OsState):topRun treeTable pw w 11 cp (247+(229+(230+(219+(146+(684+(217+(161+2)))))))) (St w.params true 388 51 60 141 (sv "basicplus.arith" 677) 730 os).abs (restOf (B.drop 58) ba cT ⟨267,0,272,16⟩ [fT])=some (St w.params true 766 94 103 255 (sv "law_sm0010_01" 1168) 1281 os).abs:=aU (Ae w os) rfl (AK w os)
theorem Ao (w:World) (os:OsState):topRun treeTable pw w 11 cp (223+(247+(229+(230+(219+(146+(684+(217+(161+2))))))))) (St w.params true 339 44 53 120 (sv "basicplus.decimals" 570) 669 os).abs (restOf (B.drop 50) ba cT ⟨233,0,246,43⟩ [fT])=some (St w.params true 766 94 103 255 (sv "law_sm0010_01" 1168) 1281 os).abs:=aU (AC w os) rfl (Aw w os)
theorem Ai (w:World) (os:OsState):topRun treeTable pw w 11 cp (231+(223+(247+(229+(230+(219+(146+(684+(217+(161+2)))))))))) (St w.params true 290 37 46 99 (sv "basicplus.decimals" 570) 593 os).abs (restOf (B.drop 43) ba cT ⟨210,0,212,76⟩ [fT])=some (St w.params true 766 94 103 255 (sv "law_sm0010_01" 1168) 1281 os).abs:=aU (Az w os) rfl (Ao w os)
theorem AG (w:World) (os:OsState):topRun treeTable pw w 11 cp (248+(231+(223+(247+(229+(230+(219+(146+(684+(217+(161+2))))))))))) (St w.params true 242 28 37 78 (sv "basicplus.world" 461) 528 os).abs (restOf (B.drop 32) ba cT ⟨135,0,165,24⟩ [fT])=some (St w.params true 766 94 103 255 (sv "law_sm0010_01" 1168) 1281 os).abs:=aU (Ad w os) rfl (Ai w os)
theorem zZ (w:World) (os:OsState):topRun treeTable pw w 11 cp (260+(248+(231+(223+(247+(229+(230+(219+(146+(684+(217+(161+2)))))))))))) (St w.params true 220 27 36 75 (sv "basicplus.world" 461) 463 os).abs (restOf (B.drop 31) ba cT ⟨134,0,134,8⟩ [fT])=some (St w.params true 766 94 103 255 (sv "law_sm0010_01" 1168) 1281 os).abs:=aU (Am w os) rfl (AG w os)
theorem Ab (w:World) (os:OsState):topRun treeTable pw w 11 cp (175+(260+(248+(231+(223+(247+(229+(230+(219+(146+(684+(217+(161+2))))))))))))) (St w.params true 185 22 31 60 (sv "basicplus.control" 380) 413 os).abs (restOf (B.drop 24) ba cT ⟨107,0,112,27⟩ [fT])=some (St w.params true 766 94 103 255 (sv "law_sm0010_01" 1168) 1281 os).abs:=aU (AL w os) rfl (zZ w os)
theorem Aa (w:World) (os:OsState):topRun treeTable pw w 11 cp (225+(175+(260+(248+(231+(223+(247+(229+(230+(219+(146+(684+(217+(161+2)))))))))))))) (St w.params true 164 21 30 57 (sv "basicplus.control" 380) 382 os).abs (restOf (B.drop 23) ba cT ⟨106,0,106,8⟩ [fT])=some (St w.params true 766 94 103 255 (sv "law_sm0010_01" 1168) 1281 os).abs:=aU (Al w os) rfl (Ab w os)
theorem z8 (w:World) (os:OsState):topRun treeTable pw w 11 cp (39+(225+(175+(260+(248+(231+(223+(247+(229+(230+(219+(146+(684+(217+(161+2))))))))))))))) (St w.params true 157 20 29 54 (sv "basicplus.values" 194) 373 os).abs (restOf (B.drop 21) ba cT ⟨100,0,103,82⟩ [fT])=some (St w.params true 766 94 103 255 (sv "law_sm0010_01" 1168) 1281 os).abs:=aU (Ag w os) rfl (Aa w os)
theorem Aq (w:World) (os:OsState):topRun treeTable pw w 11 cp (248+(39+(225+(175+(260+(248+(231+(223+(247+(229+(230+(219+(146+(684+(217+(161+2)))))))))))))))) (St w.params true 101 12 21 30 (sv "basicplus.values" 194) 302 os).abs (restOf (B.drop 13) ba cT ⟨48,0,57,16⟩ [fT])=some (St w.params true 766 94 103 255 (sv "law_sm0010_01" 1168) 1281 os).abs:=aU (Ac w os) rfl (z8 w os)
theorem Bh (w:World) (os:OsState):topRun treeTable pw w 11 cp (245+(248+(39+(225+(175+(260+(248+(231+(223+(247+(229+(230+(219+(146+(684+(217+(161+2))))))))))))))))) (St w.params true 45 4 13 6 (sv "basicplus.values" 194) 234 os).abs (restOf (B.drop 5) ba cT ⟨7,0,12,24⟩ [fT])=some (St w.params true 766 94 103 255 (sv "law_sm0010_01" 1168) 1281 os).abs:=aU (Bf w os) rfl (Aq w os)
theorem A7 (w:World) (os:OsState):topRun treeTable pw w 11 cp (249+(245+(248+(39+(225+(175+(260+(248+(231+(223+(247+(229+(230+(219+(146+(684+(217+(161+2)))))))))))))))))) (St w.params false 22 3 12 3 (sv "basicplus.values" 194) 200 os).abs (restOf (B.drop 4) ba cT ⟨6,0,6,13⟩ [fT])=some (St w.params true 766 94 103 255 (sv "law_sm0010_01" 1168) 1281 os).abs:=aU (Bi w os) rfl (Bh w os)
theorem A6 (w:World) (os:OsState):topRun treeTable pw w 11 cp (57+(249+(245+(248+(39+(225+(175+(260+(248+(231+(223+(247+(229+(230+(219+(146+(684+(217+(161+2))))))))))))))))))) (St w.params false 15 0 9 0 (sv "__main__" 164) 187 os).abs (restOf (B.drop 0) ba cT ⟨0,0,0,0⟩ [fT])=some (St w.params true 766 94 103 255 (sv "law_sm0010_01" 1168) 1281 os).abs:=aU (A8 w os) rfl (A7 w os)
theorem AD (w:World) (os:OsState):topGo treeTable pw w 11 cp 12 ⟨boot_heap w.params,Array.mk [],boot_drawn,boot_toks,os⟩ (topStub pw)=some ((St w.params false 15 0 9 0 (sv "__main__" 164) 187 os).abs,⟨denote treeTable cT,cT,⟨0,0,0,0⟩,[fT]⟩):=by kernel_rfl
theorem wY (w:World) (os:OsState):segRun treeTable pw w 11 cp 1 1 (St w.params false 15 0 9 0 (sv "__main__" 164) 187 os).abs (blockOf B ba cT ⟨0,0,0,0⟩ [fT])=some (.next,(St w.params false 15 0 9 0 (sv "__main__" 164) 187 os).abs,cT,⟨0,0,0,0⟩):=by kernel_rfl
theorem An (w:World) (os:OsState):topRun treeTable pw w 11 cp (12+(1+(57+(249+(245+(248+(39+(225+(175+(260+(248+(231+(223+(247+(229+(230+(219+(146+(684+(217+(161+2))))))))))))))))))))) ⟨boot_heap w.params,Array.mk [],boot_drawn,boot_toks,os⟩ (topStub pw)=some (St w.params true 766 94 103 255 (sv "law_sm0010_01" 1168) 1281 os).abs:=
 go_top (AD w os) (piece_block (wY w os) (A6 w os))
theorem zP (w:World):((boot_heap w.params).isNs mainGlobals&&(Array.mk []:Array GenState).size==0,(boot_heap w.params).objs.size,(boot_heap w.params).nsMap mainGlobals "__annotations__")=(true,11,cp):=by kernel_rfl
theorem zk:∀w:World,(fencedOpening treeTable pw w 9000).map (fun s=>(s.heap,s.gens,s.drawn,s.toks))=some (boot_heap w.params,Array.mk [],boot_drawn,boot_toks):=
 boot_open (p:=pw) (N:=9000) (by kernel_rfl) (by kernel_rfl) (fun s=>by kernel_rfl)
noncomputable def qv:Program:={ pw with main:={ pw.main with body:=[ah B 105] } }
noncomputable def i0:List Str:=(["_wall","MOST_TEXT","MOST_EXPONENT","BasicError","error_codes","number_of_error","code_of_error","kind_of","kind_of_name","first_value","figures_of","rounded_by","made","whole_near","fits","whole_of","decimal_of","text_of","checked_text","suited","truth","Control","error_number","field_text","no_field","hide_fields","lay_fields","World","kind_here","get_name","set_name","variable_value","fn_called","ONE","MOST_POWER","d_negated","alike","d_add","d_sub","d_mul","with_rest","d_div","d_compare","d_power","square_or_end","is_whole","settled","whole_reckoned","cut_quotient","cut_rest","exponent_of","whole_power","raised","reckoned","negated","order_of","inverted","logic","USUAL_HIGH","Grid","count_of","kind_in","check_highs","dim","grid_of","place_of","get_item","parts_of_tree","LOGIC","COMPARISONS","order_of_texts","compared","worth_of_texts","worth_of_two","worth_of_one","worth_of_leaf","worth_of_tree","worth","worth_worth","worths","MOST_PILE","WorkRun","_law_draw","_law_leaf","_law_two","_law_argument","_law_kept","_law_put","_law_has","_law_within","_law_called","_law_put_in_right","_law_renamed_right"]:List String).map Str.ofString
noncomputable abbrev AO:Shared->Bool:=fun s=>xlAt qv [] s&&recOk [] s
noncomputable def sF (w:World) (os:OsState):Shared:=⟨fy w.params,Array.mk [],{},1281,os⟩
theorem wJ (w:World) (os:OsState):(staticsOk (importedModules pw.main.body) (boot_heap w.params) (fy w.params)&&namesBound pw (fy w.params)&&gensDone (sF w os)&&laidKept (boot_heap w.params) (fy w.params))=true:=by kernel_rfl
theorem wK (w:World) (os:OsState):openSeen qv i0 (importedModules pw.main.body) AO true (sF w os)=openGood qv i0:=by
 unfold openSeen openGood
 refine looks_pair ?_ (looks_pair ?_ (looks_pair ?_ (looks_pair ?_ (looks_pair ?_ (looks_pair ?_ (looks_pair ?_ (looks_pair ?_ ?_)))))))
 all_goals kernel_rfl
theorem yU:LeftO pw qv i0 AO (fun s=>s.heap) (fun w=>fy w.params) 9000:=
 LeftO.of_pieces (H₀:=boot_heap) (H₁:=fy) (m₀:=11) (ann:=cp) (gs₀:=Array.mk []) (gs₁:=Array.mk []) (d₀:=boot_drawn) (d₁:={}) (k₀:=boot_toks) (k₁:=1281) (M:=12+(1+(57+(249+(245+(248+(39+(225+(175+(260+(248+(231+(223+(247+(229+(230+(219+(146+(684+(217+(161+2))))))))))))))))))))) zk zP An (by decide)
  (fun w=>by
   funext os
   exact looks_pair (wJ w os) (looks_pair (wK w os) rfl))
theorem said:PySem.Challenge.rw_sm0010_01.wellSaid=true:=by rw [PySem.W.Fast.te9446332074065402090];kernel_rfl
noncomputable def kept (w:World) (h:Heap):Prop:=∀b o,(fy w.params).get? b=some o->h.get? b=some o
theorem vy (w:World) (s:Shared) (e:s.heap=fy w.params):kept w s.heap:=fun b o h=>by rw [e];exact h
theorem qQ (w:World) (h h':Heap) (k:kept w h) (hk:∀b o,h.get? b=some o->h'.get? b=some o):kept w h':=fun b o e=>hk b o (k b o e)
noncomputable abbrev rowL:=PySem.Challenge.rw_sm0010_01.row
theorem vZ:(defOf qv rowL.name).isSome=true:=by kernel_rfl
noncomputable def recL:DefRec×List (Str×Expr):=(defOf qv rowL.name).get vZ
theorem yM:defOf qv rowL.name=some (recL.1,recL.2):=(Option.some_get vZ).symm
theorem Be:rowL.prog.theDef rowL.name=some (recL.1.params,recL.1.body,recL.1.scope):=by kernel_rfl
theorem Bj:kwWritten? recL.1.params.kwonlyargs recL.1.params.kw_defaults=some recL.2:=by kernel_rfl
theorem Bd:(chainsOk qv&&opensWell rowL.prog&&(frees rowL.toRowW&&rowL.within.isEmpty))=true:=by kernel_rfl
theorem y7:rowL.prog.bare:=⟨rfl,rfl,rfl,rfl,rfl,by decide +kernel⟩
theorem x0:rowL.toRowW.promised:=⟨[.list []],by decide +kernel,by decide +kernel⟩
theorem head (call:WalkO qv i0 (XL qv []) kept rowL.toRowW recL.1 recL.2 fun f vs=>PySem.call f vs):PySem.Challenge.rw_sm0010_01.Holds:=
 holds_law said fun said'=>holds_open (r:=rowL) (q:=qv) (loose:=i0) (Xt:=AO) (XP:=XL qv []) (Yf:=fun s=>s.heap) (Ya:=fun w=>fy w.params) (YP:=kept) (N:=9000) yU
  vy qQ (fun s e=>xl_of s (Bool.and_eq_true_iff.mp e).1) XL.keeps yM Be Bj (fun s e=>recFacts_of (Bool.and_eq_true_iff.mp e).2) rfl said' Bd y7 x0 call
#print axioms Mine.head
end
section
open PySem PySem.W PySem.Calls PyProof.Rows PySem.Spec
noncomputable def layW:List Str:=["bits","digits","most_steps","most_depth","room","names","arrays","kinds","fns","out","row","inputs","files","open","fields","data","spot","base","seed","steps","depth","handler","is_handling","error_line","error_code","is_traced","traces","common"]
noncomputable def layR:List Str:=["world","flat","answers","bits","digits","control","asked"]
noncomputable def yD:List Str:=["pile","most","failed_at"]
noncomputable def aV (C:Addr):List Str:=if C=237 then layW else if C=685 then layR else if C=180 then yD else []
inductive RV where
 | none
 | bool (b:Bool)
 | int (i:Int)
 | str (s:Str)
 | tup (l:List RV)
 | lst (l:List RV)
 | obj (i:Nat)
 | stat (a:Addr)
 | ty (n:String)
 | bi (n:String)
inductive AObj where
 | list (l:List RV)
 | dict (es:List (Str×RV))
 | inst (C:Addr) (d:Option Nat)
 | attrs (C:Addr) (vs:List RV)
 | meth (f:Addr) (i:Nat)
 | pair
noncomputable abbrev ai:=List AObj
structure Pl where
 vis:List Addr
 hid:List Addr
noncomputable def Off (ρ:Pl) (a:Addr):Prop:=a∉ρ.vis/\a∉ρ.hid
noncomputable def Pl.snoc (ρ:Pl) (a:Addr):Pl:=⟨ρ.vis++[a],ρ.hid⟩
noncomputable abbrev Lo:=List (Option RV)
noncomputable def be (o:Obj):Prop:=∃vs n,o.data=.seq vs n
noncomputable def Dull (o:Obj):Prop:=(∀vs,o.data≠.fields vs)/\¬ be o
mutual
inductive Rep (ρ:Pl) (h:Heap):RV->Value->Prop
 | none:Rep ρ h .none .none
 | bool (b:Bool):Rep ρ h (.bool b) (.bool b)
 | int (i:Int) (t:Tok):Rep ρ h (.int i) (.int i t)
 | str (s:Str) (t:Tok):Rep ρ h (.str s) (.str s t)
 | tup {a:Addr} {vs:List Value} {l:List RV}:Off ρ a->IsTup h a vs.toArray->RepL ρ h l vs->Rep ρ h (.tup l) (.ref a)
 | lst {a:Addr} {vs:List Value} {l:List RV}:Off ρ a->h.IsList a vs.toArray->RepL ρ h l vs->Rep ρ h (.lst l) (.ref a)
 | obj {i:Nat} {a:Addr}:ρ.vis[i]? = some a->Rep ρ h (.obj i) (.ref a)
 | stat (a:Addr):Rep ρ h (.stat a) (.ref a)
 | ty (n:String):Rep ρ h (.ty n) (.type n)
 | bi (n:String):Rep ρ h (.bi n) (.builtin n)
inductive RepL (ρ:Pl) (h:Heap):List RV->List Value->Prop
 | nil:RepL ρ h [] []
 | cons {r:RV} {v:Value} {l:List RV} {vs:List Value}:Rep ρ h r v->RepL ρ h l vs->RepL ρ h (r::l) (v::vs)
end
theorem aP {α:Type} {a:α} {P:Prop} (h:none=some a):P:=by exact cH h
theorem someE {α:Type} {a b:α} {Q:α->Prop} (h:some a=some b) (q:Q a):Q b:=Option.some.inj h▸q
noncomputable def az {α:Type} (x:Option α) (f:α->Bool):Bool:=match x with
 | some a=>f a
 | none=>false
theorem aj {α:Type} {x:Option α} {f:α->Bool} (h:az x f=true):∃a,x=some a/\f a=true:=by
 cases x with
 | none=>exact aN h
 | some a=>exact ⟨a,rfl,h⟩
noncomputable def RV.asInt:RV->Option Int
 | .int i=>some i
 | _=>.none
noncomputable def RV.asBool:RV->Option Bool
 | .bool i=>some i
 | _=>.none
noncomputable def RV.asStr:RV->Option Str
 | .str i=>some i
 | _=>.none
noncomputable def RV.asLst:RV->Option (List RV)
 | .lst i=>some i
 | _=>.none
theorem bO {r:RV} {i:Str} (h:r.asStr=some i):r=.str i:=by
 cases r with
 | str j=>exact congrArg RV.str (Option.some.inj h)
 | _=>exact aP h
theorem cj {r:RV} {i:List RV} (h:r.asLst=some i):r=.lst i:=by
 cases r with
 | lst j=>exact congrArg RV.lst (Option.some.inj h)
 | _=>exact aP h
noncomputable def RV.asTup:RV->Option (List RV)
 | .tup i=>some i
 | _=>.none
theorem gf {r:RV} {i:List RV} (h:r.asTup=some i):r=.tup i:=by
 cases r with
 | tup j=>exact congrArg RV.tup (Option.some.inj h)
 | _=>exact aP h
noncomputable def RV.asObj:RV->Option Nat
 | .obj i=>some i
 | _=>.none
theorem ck {r:RV} {i:Nat} (h:r.asObj=some i):r=.obj i:=by
 cases r with
 | obj j=>exact congrArg RV.obj (Option.some.inj h)
 | _=>exact aP h
noncomputable def AObj.asDict:AObj->Option (List (Str×RV))
 | .dict i=>some i
 | _=>.none
theorem qI {r:AObj} {i:List (Str×RV)} (h:r.asDict=some i):r=.dict i:=by
 cases r with
 | dict j=>exact congrArg AObj.dict (Option.some.inj h)
 | _=>exact aP h
noncomputable def AObj.asList:AObj->Option (List RV)
 | .list i=>some i
 | _=>.none
theorem qJ {r:AObj} {i:List RV} (h:r.asList=some i):r=.list i:=by
 cases r with
 | list j=>exact congrArg AObj.list (Option.some.inj h)
 | _=>exact aP h
noncomputable def dictAt (st:ai) (i:Nat):Option (List (Str×RV)):=st[i]?.bind AObj.asDict
noncomputable def listAt (st:ai) (i:Nat):Option (List RV):=st[i]?.bind AObj.asList
theorem bg {st:ai} {i:Nat} {es:List (Str×RV)} (h:dictAt st i=some es):st[i]? = some (.dict es):=by
 obtain ⟨o,h1,h2⟩:=Option.bind_eq_some_iff.mp h
 rw [h1,qI h2]
theorem listAt_eq {st:ai} {i:Nat} {es:List RV} (h:listAt st i=some es):st[i]? = some (.list es):=by
 obtain ⟨o,h1,h2⟩:=Option.bind_eq_some_iff.mp h
 rw [h1,qJ h2]
theorem aO {r:RV} {i:Int} (h:r.asInt=some i):r=.int i:=by
 cases r with
 | int j=>exact congrArg RV.int (Option.some.inj h)
 | _=>exact aP h
theorem cQ {r:RV} {i:Bool} (h:r.asBool=some i):r=.bool i:=by
 cases r with
 | bool j=>exact congrArg RV.bool (Option.some.inj h)
 | _=>exact aP h
noncomputable def xZ (ρ:Pl) (h:Heap) (R:Value->Prop):RV->Prop
 | .none=>R .none
 | .bool b=>R (.bool b)
 | .int i=>∀t,R (.int i t)
 | .str s=>∀t,R (.str s t)
 | .tup l=>∀(a:Addr) (vs:List Value),Off ρ a->IsTup h a vs.toArray->RepL ρ h l vs->R (.ref a)
 | .lst l=>∀(a:Addr) (vs:List Value),Off ρ a->h.IsList a vs.toArray->RepL ρ h l vs->R (.ref a)
 | .obj i=>∀(a:Addr),ρ.vis[i]? = some a->R (.ref a)
 | .stat a=>R (.ref a)
 | .ty n=>R (.type n)
 | .bi n=>R (.builtin n)
theorem Rep.elim {ρ:Pl} {h:Heap} {r:RV} {v:Value} {R:Value->Prop} (y:Rep ρ h r v):xZ ρ h R r->R v:=
 Rep.rec (motive_1:=fun r v _=>xZ ρ h R r->R v) (motive_2:=fun _ _ _=>True) id (fun _=>id) (fun _ t k=>k t) (fun _ t k=>k t) (fun o t y _ k=>k _ _ o t y) (fun o t y _ k=>k _ _ o t y) (fun e k=>k _ e) (fun _=>id) (fun _=>id) (fun _=>id) trivial (fun _ _ _ _=>trivial) y
noncomputable def vX (ρ:Pl) (h:Heap) (R:List Value->Prop):List RV->Prop
 | []=>R []
 | r::l=>∀v vs,Rep ρ h r v->RepL ρ h l vs->R (v::vs)
theorem RepL.elim {ρ:Pl} {h:Heap} {l:List RV} {vs:List Value} {R:List Value->Prop} (y:RepL ρ h l vs):vX ρ h R l->R vs:=
 RepL.rec (motive_1:=fun _ _ _=>True) (motive_2:=fun l vs _=>vX ρ h R l->R vs) trivial (fun _=>trivial) (fun _ _=>trivial) (fun _ _=>trivial) (fun _ _ _ _=>trivial) (fun _ _ _ _=>trivial) (fun _=>trivial) (fun _=>trivial) (fun _=>trivial) (fun _=>trivial) id (fun a b _ _ k=>k _ _ a b) y
theorem RepL.one {ρ:Pl} {h:Heap} {r:RV} {vs:List Value} {R:List Value->Prop} (y:RepL ρ h [r] vs) (k:∀v,Rep ρ h r v->R [v]):R vs:=y.elim (R:=R) fun v vs y1 y2=>y2.elim (R:=fun l=>R (v::l)) (k v y1)
theorem RepL.two {ρ:Pl} {h:Heap} {r r':RV} {vs:List Value} {R:List Value->Prop} (y:RepL ρ h [r,r'] vs) (k:∀v v',Rep ρ h r v->Rep ρ h r' v'->R [v,v']):R vs:=y.elim (R:=R) fun v vs y1 y2=>y2.one (R:=fun l=>R (v::l)) fun v' y'=>k v v' y1 y'
noncomputable def Pre (ρ ρ':Pl):Prop:=(∀(i:Nat) (a:Addr),ρ.vis[i]? = some a->ρ'.vis[i]? = some a)/\ρ'.hid=ρ.hid
theorem Pre.refl {ρ:Pl}:Pre ρ ρ:=⟨fun _ _ e=>e,rfl⟩
theorem Pre.trans {ρ ρQ ρ₂:Pl} (x:Pre ρ ρQ) (y:Pre ρQ ρ₂):Pre ρ ρ₂:=⟨fun i a e=>y.1 i a (x.1 i a e),y.2.trans x.2⟩
theorem Pre.snoc {ρ:Pl} {a:Addr}:Pre ρ (ρ.snoc a):=⟨fun i b e=>by
 show (ρ.vis++[a])[i]? = some b
 rw [List.getElem?_append_left (List.getElem?_eq_some_iff.mp e).1];exact e,rfl⟩
theorem qM {h h':Heap} {a:Addr} {l:Array Value} {P:Prop} (x:IsTup h a l) (k:∀o,h.get? a=some o->be o->P/\h'.get? a=some o):P/\IsTup h' a l:=by
 obtain ⟨o,ho,hc,n,hd⟩:=x
 have z:=k o ho ⟨_,_,hd⟩
 exact ⟨z.1,o,z.2,hc,n,hd⟩
theorem nY {h h':Heap} {a:Addr} {l:Array Value} {P:Prop} (x:h.IsList a l) (k:∀o,h.get? a=some o->be o->P/\h'.get? a=some o):P/\h'.IsList a l:=by
 obtain ⟨o,ho,hc,n,hd⟩:=x
 have z:=k o ho ⟨_,_,hd⟩
 exact ⟨z.1,o,z.2,hc,n,hd⟩
theorem Rep.mono {ρ ρ':Pl} {h h':Heap} (kp:∀(i:Nat) (a:Addr),ρ.vis[i]? = some a->ρ'.vis[i]? = some a) (k:∀a o,Off ρ a->h.get? a=some o->be o->Off ρ' a/\h'.get? a=some o) {r:RV} {v:Value} (y:Rep ρ h r v):Rep ρ' h' r v:=
 Rep.rec (motive_1:=fun r v _=>Rep ρ' h' r v) (motive_2:=fun l vs _=>RepL ρ' h' l vs) .none .bool .int .str (fun f t _ l=>have z:=qM t fun o=>k _ o f;.tup z.1 z.2 l) (fun f t _ l=>have z:=nY t fun o=>k _ o f;.lst z.1 z.2 l) (fun e=>.obj (kp _ _ e)) .stat .ty .bi .nil (fun _ _=>.cons) y
theorem RepL.mono {ρ ρ':Pl} {h h':Heap} (kp:∀(i:Nat) (a:Addr),ρ.vis[i]? = some a->ρ'.vis[i]? = some a) (k:∀a o,Off ρ a->h.get? a=some o->be o->Off ρ' a/\h'.get? a=some o) {l:List RV} {vs:List Value} (y:RepL ρ h l vs):RepL ρ' h' l vs:=
 RepL.rec (motive_1:=fun _ _ _=>True) (motive_2:=fun l vs _=>RepL ρ' h' l vs) trivial (fun _=>trivial) (fun _ _=>trivial) (fun _ _=>trivial) (fun _ _ _ _=>trivial) (fun _ _ _ _=>trivial) (fun _=>trivial) (fun _=>trivial) (fun _=>trivial) (fun _=>trivial) .nil (fun a _ _ b=>.cons (a.mono kp k) b) y
section
variable {ρ ρ':Pl} {h h':Heap}
theorem RepL.length {l:List RV} {vs:List Value} (y:RepL ρ h l vs):vs.length=l.length:=by
 induction l generalizing vs with
 | nil=>exact y.elim (R:=fun vs=>vs.length=0) rfl
 | cons r l ih=>exact y.elim (R:=fun vs=>vs.length=l.length+1) fun v vs y1 y2=>congrArg Nat.succ (ih y2)
theorem RepL.map (k:∀{r:RV} {v:Value},Rep ρ h r v->Rep ρ' h' r v) {l:List RV} {vs:List Value} (y:RepL ρ h l vs):RepL ρ' h' l vs:=by
 induction l generalizing vs with
 | nil=>exact y.elim .nil
 | cons r l ih=>exact y.elim fun v vs y1 y2=>.cons (k y1) (ih y2)
theorem RepL.get {l:List RV} {vs:List Value} (y:RepL ρ h l vs) {i:Nat} {r:RV} (e:l[i]? = some r):∃v,vs[i]? = some v/\Rep ρ h r v:=by
 induction l generalizing vs i with
 | nil=>exact aP e
 | cons x l ih=>
  refine y.elim (R:=fun vs=>∃v,vs[i]? = some v/\Rep ρ h r v) fun v vs y1 y2=>?_
  cases i with
  | zero=>exact someE (Q:=fun r=>∃v',some v=some v'/\Rep ρ h r v') e ⟨v,rfl,y1⟩
  | succ i=>exact ih y2 e
theorem RepL.append {l:List RV} {vs:List Value} {l':List RV} {vs':List Value} (y:RepL ρ h l vs) (y':RepL ρ h l' vs'):RepL ρ h (l++l') (vs++vs'):=by
 induction l generalizing vs with
 | nil=>exact y.elim (R:=fun vs=>RepL ρ h l' (vs++vs')) y'
 | cons r l ih=>exact y.elim (R:=fun vs=>RepL ρ h (r::(l++l')) (vs++vs')) fun v vs y1 y2=>.cons y1 (ih y2)
theorem RepL.take {l:List RV} {vs:List Value} (n:Nat) (y:RepL ρ h l vs):RepL ρ h (l.take n) (vs.take n):=by
 induction l generalizing vs n with
 | nil=>exact y.elim (R:=fun vs=>RepL ρ h ([].take n) (vs.take n)) (by cases n <;> exact .nil)
 | cons r l ih=>
  refine y.elim (R:=fun vs=>RepL ρ h ((r::l).take n) (vs.take n)) fun v vs y1 y2=>?_
  cases n with
  | zero=>exact .nil
  | succ n=>exact .cons y1 (ih n y2)
theorem RepL.drop {l:List RV} {vs:List Value} (n:Nat) (y:RepL ρ h l vs):RepL ρ h (l.drop n) (vs.drop n):=by
 induction l generalizing vs n with
 | nil=>exact y.elim (R:=fun vs=>RepL ρ h ([].drop n) (vs.drop n)) (by cases n <;> exact .nil)
 | cons r l ih=>
  cases n with
  | zero=>exact y
  | succ n=>exact y.elim (R:=fun vs=>RepL ρ h (l.drop n) (vs.drop (n+1))) fun v vs y1 y2=>ih n y2
theorem RepL.reverse {l:List RV} {vs:List Value} (y:RepL ρ h l vs):RepL ρ h l.reverse vs.reverse:=by
 induction l generalizing vs with
 | nil=>exact y.elim (R:=fun vs=>RepL ρ h [] vs.reverse) .nil
 | cons r l ih=>
  refine y.elim (R:=fun vs=>RepL ρ h (r::l).reverse vs.reverse) fun v vs y1 y2=>?_
  show RepL ρ h (r::l).reverse (v::vs).reverse
  rw [List.reverse_cons,List.reverse_cons];exact (ih y2).append (.cons y1 .nil)
end
noncomputable abbrev MH (w:World):Heap:=fy w.params
noncomputable def ownOf (e:Env):List Addr:=e.frame.toList++e.cells.map (·.2)
noncomputable def aE:List Env->List Addr
 | []=>[]
 | e::r=>ownOf e++aE r
structure Frs (w:World) (envs:List Env) (h:Heap):Prop where
 ff:h.FunFrames (MH w) envs
 at_:∀b∈aE envs,(MH w).get? b=none/\∃o,h.get? b=some o/\Dull o
inductive DRep (ρ:Pl) (h:Heap):List (Str×Value)->List (Str×RV)->Prop
 | nil:DRep ρ h [] []
 | cons {x:Str} {v:Value} {r:RV} {es:List (Str×Value)} {l:List (Str×RV)}:Rep ρ h r v->DRep ρ h es l->DRep ρ h ((x,v)::es) ((x,r)::l)
inductive ORep (w:World) (ρ:Pl) (h:Heap) (a:Addr):AObj->Prop
 | list {vs:List Value} {n:Nat} {l:List RV}:h.get? a=some { cls:=.type "list",dict:=none,data:=.seq vs.toArray n,slots:= #[] }->RepL ρ h l vs->ORep w ρ h a (.list l)
 | inst0 {C:Addr} {sl:Array (Option Value)}:h.get? a=some ⟨.ref C,none,.plain,sl⟩->ORep w ρ h a (.inst C none)
 | inst {C d:Addr} {i:Nat} {o:Obj}:h.get? a=some o->o.cls=.ref C->o.dict=some d->(∀c,o.data≠.cls c)->d≠a->ρ.vis[i]? = some d->ORep w ρ h a (.inst C (some i))
 | dict {es:List (Str×Value)} {l:List (Str×RV)}:h.DictOf (strKind pw w) a es->DRep ρ h es l->ORep w ρ h a (.dict l)
 | attrs {m:Str->Option Value} {C:Addr} {vs:List RV}:h.Ns1 a m->vs.length<=(aV C).length->(∀(j:Nat) k r,(aV C)[j]? = some k->vs[j]? = some r->∃v,m k=some v/\Rep ρ h r v)->
   (∀k,k∉(aV C).take vs.length->m k=none)->ORep w ρ h a (.attrs C vs)
 | pair {x y:Value}:h.get? a=some { cls:=.type "tuple",data:=.seq #[x,y] }->ORep w ρ h a .pair
 | meth {f s:Addr} {i:Nat}:h.get? a=some { cls:=.type "method",dict:=none,data:=.fields #[.ref f,.ref s],slots:= #[] }->ρ.vis[i]? = some s->ORep w ρ h a (.meth f i)
noncomputable def cX (w:World) (x:Str) (r:RV):Prop:=∀h,kept w h->∃mg mb v,h.Ns mainGlobals mg/\h.Ns builtinsNs mb/\(mg x=some v\/(mg x=none/\mb x=some v)) /\
 ∀ρ:Pl,(∀a o,(MH w).get? a=some o->Off ρ a)->Rep ρ h r v
structure Cx where
 w:World
 A:Around
 env:Env
 fenv:Env
 outer:List Env
 g:Array GenState
 d:Drawn
 os:OsState
 n:Nat
 names:List Str
 own:List Addr
 rest:List Addr
 afr:A.frames=some (fenv::outer)
 kind:env.scope.kind=.function
 frame:env.frame=some fenv.locals
 fframe:fenv.frame=some fenv.locals
 egl:env.globals=mainGlobals
 ebl:env.builtins=builtinsNs
 lk:∀x∈names,(x==("__debug__":Str))=false/\(env.kindOf x=some .local\/(env.kindOf x=some .cell/\∃a,env.cells.lookup x=some a))
 nd:names.Nodup
 room:A.depth+n<recursionLimit
 units:A.units+8*n+8<cLine
 apart:env.cells.Pairwise fun x y=>x.2≠y.2
 above:∀n a,(n,a)∈env.cells->a≠env.locals
 L_own:env.locals∈own
 cells_in:∀x a,env.cells.lookup x=some a->a∈own\/a∈rest
 cover:∀b∈aE (fenv::outer),b∈own\/b∈rest
 rest_fr:∀b∈rest,b∈aE (fenv::outer)
 fresh:∀b∈own,b∉rest
namespace Cx
noncomputable abbrev M (c:Cx):Model:=model pw c.w
noncomputable abbrev L (c:Cx):Addr:=c.env.locals
structure Full (c:Cx):Prop where
 cells:∀x a,c.env.cells.lookup x=some a->a∈c.own
 env:c.fenv=c.env
end Cx
noncomputable def At (env:Env) (h:Heap) (m:Str->Option Value) (x:Str) (v:Value):Prop:=
 (env.kindOf x=some .local/\m x=some v)\/(env.kindOf x=some .cell/\∃a,env.cells.lookup x=some a/\h.IsCell a (some v))
noncomputable def LocOk (env:Env) (names:List Str) (ρ:Pl) (h:Heap) (γ:Lo) (m:Str->Option Value):Prop:=
 ∀(i:Nat) x r,names[i]? = some x->γ[i]? = some (some r)->∃v,At env h m x v/\Rep ρ h r v
structure StoOk (w:World) (fr:List Addr) (ρ:Pl) (st:ai) (h:Heap):Prop where
 len:ρ.vis.length=st.length
 nd:ρ.vis.Nodup
 off:∀a∈ρ.vis,a∉fr/\(MH w).get? a=none
 reps:∀(i:Nat) a o,ρ.vis[i]? = some a->st[i]? = some o->ORep w ρ h a o
 hid:∀b∈ρ.hid,b∉ρ.vis/\(MH w).get? b=none/\∃o,h.get? b=some o/\be o
noncomputable def xU (hd:Option Value) (ρ:Pl) (h:Heap):Prop:=∀e,hd=some e->∃a oe vs,e=.ref a/\a∉ρ.vis/\h.get? a=some oe/\oe.data=.fields vs/\vs[2]? = some .none
structure Ok (c:Cx) (ρ:Pl) (γ:Lo) (st:ai) (h:Heap):Prop where
 keys:γ.length=c.names.length
 loc:∃m,h.Ns c.L m/\LocOk c.env c.names ρ h γ m
 cel:∀x a,c.env.cells.lookup x=some a->∃cv,h.IsCell a cv
 sto:StoOk c.w (c.own++c.rest) ρ st h
 mod:kept c.w h
 ff:Frs c.w (c.fenv::c.outer) h
 own:∀b∈c.own,(MH c.w).get? b=none/\∃o,h.get? b=some o/\Dull o
 hnd:xU c.A.handled ρ h
structure Step (own rest:List Addr) (ρ:Pl) (h:Heap) (ρ':Pl) (h':Heap):Prop where
 pre:Pre ρ ρ'
 keep:∀b o,b∉ρ.vis->b∉own->b∉rest->h.get? b=some o->h'.get? b=some o/\b∉ρ'.vis
 seqs:∀b o,Off ρ b->be o->h.get? b=some o->h'.get? b=some o/\Off ρ' b
 outs:∀b∈rest,∀o,h.get? b=some o->∃sl,h'.get? b=some { o with slots:=sl }
 alive:∀b o,h.get? b=some o->∃o',h'.get? b=some o'
theorem Step.refl {fr ofr:List Addr} {ρ:Pl} {h:Heap}:Step fr ofr ρ h ρ h:=⟨.refl,fun _ _ s _ _ e=>⟨e,s⟩,fun _ _ s _ e=>⟨e,s⟩,fun _ _ o e=>⟨o.slots,e⟩,fun _ o e=>⟨o,e⟩⟩
theorem Step.trans {fr ofr:List Addr} {ρ ρQ ρ₂:Pl} {h h₁ h₂:Heap} (x:Step fr ofr ρ h ρQ h₁) (y:Step fr ofr ρQ h₁ ρ₂ h₂):Step fr ofr ρ h ρ₂ h₂:=
 ⟨x.pre.trans y.pre,fun b o s n m e=>let ⟨e1,s1⟩:=x.keep b o s n m e;y.keep b o s1 n m e1,fun b o s n e=>let ⟨e1,s1⟩:=x.seqs b o s n e;y.seqs b o s1 n e1,
  fun b m o e=>let ⟨_,e1⟩:=x.outs b m o e;let ⟨sl,e2⟩:=y.outs b m _ e1;⟨sl,e2⟩,fun b o e=>let ⟨o1,e1⟩:=x.alive b o e;y.alive b o1 e1⟩
theorem Step.rep {fr ofr:List Addr} {ρ ρ':Pl} {h h':Heap} (x:Step fr ofr ρ h ρ' h') {r:RV} {v:Value} (y:Rep ρ h r v):Rep ρ' h' r v:=
 y.mono x.pre.1 fun a o f e q=>let ⟨e1,s1⟩:=x.seqs a o f q e;⟨s1,e1⟩
theorem Step.repL {fr ofr:List Addr} {ρ ρ':Pl} {h h':Heap} (x:Step fr ofr ρ h ρ' h') {r:List RV} {v:List Value} (y:RepL ρ h r v):RepL ρ' h' r v:=
 y.mono x.pre.1 fun a o f e q=>let ⟨e1,s1⟩:=x.seqs a o f q e;⟨s1,e1⟩
noncomputable abbrev Cx.Step (c:Cx):=Mine.Step c.own c.rest
inductive Tr (h:Heap) (e T:Addr) (C:Value) (d:Option Addr) (fl:Value):Prop
 | mk (oe:Obj) (vs:Array Value) (oT:Obj) (ts:Array Value) (a1:h.get? e=some oe) (a2:oe.cls=C) (a3:oe.dict=d) (a4:oe.data=.fields vs) (a5:vs[1]? = some (.ref T)) (a6:vs[2]? = some .none) (a7:T≠e) (a8:h.get? T=some oT) (a9:oT.data=.fields ts) (a10:ts[3]? = some fl)
inductive Raw (h:Heap) (e:Addr) (C:Value) (d:Option Addr):Prop
 | mk (oe:Obj) (vs:Array Value) (a1:h.get? e=some oe) (a2:oe.cls=C) (a3:oe.dict=d) (a4:oe.data=.fields vs) (a5:vs[1]? = some .none) (a6:vs[2]? = some .none)
noncomputable def Fly (h:Heap) (e T:Addr) (C:Value) (d:Option Addr) (fl:Value):Prop:=Tr h e T C d fl\/(T=e/\fl=.none/\Raw h e C d)
inductive zr (h:Heap) (e T:Addr) (C:Value) (d:Option Addr):Prop
 | mk (oe:Obj) (vs:Array Value) (oT:Obj) (ts:Array Value) (a1:h.get? e=some oe) (a2:oe.cls=C) (a3:oe.dict=d) (a4:oe.data=.fields vs) (a5:vs[2]? = some .none) (a6:h.get? T=some oT) (a7:oT.data=.fields ts)
theorem Fly.at {h:Heap} {e T:Addr} {C:Value} {d:Option Addr} {fl:Value} (x:Fly h e T C d fl):zr h e T C d:=by
 rcases x with x | ⟨q,_,x⟩
 ·cases x with | mk oe vs oT ts a1 a2 a3 a4 a5 a6 a7 a8 a9 a10=>exact ⟨oe,vs,oT,ts,a1,a2,a3,a4,a6,a8,a9⟩
 ·cases x with | mk oe vs a1 a2 a3 a4 a5 a6=>exact ⟨oe,vs,oe,vs,a1,a2,a3,a4,a6,q▸a1,a4⟩
inductive CodeAt (h:Heap) (d:Addr) (k:Str):Prop
 | mk (od:Obj) (es:Array DictEntry) (n:Nat) (t:Tok) (a1:h.get? d=some od) (a2:od.data=.dict es n) (a3:StrKeys es) (a4:UniqKeys es) (a5:nsFind es "code"=some (.str k t))
inductive Exc (ρ:Pl) (h₀ h:Heap) (e:Addr) (k:Str) (fl:Value):Prop
 | mk (T d:Addr) (a1:Fly h e T (.ref 41) (some d) fl) (a2:CodeAt h d k) (a3:h₀.get? e=none) (a4:h₀.get? T=none) (a5:h₀.get? d=none) (a6:e∉ρ.vis) (a7:T∉ρ.vis) (a8:d∉ρ.vis)
inductive QW (c:Cx) (ρ:Pl) (h:Heap) {α:Type} (Q:α->Pl->Lo->ai->Heap->Prop) (v:α):Shared->Prop
 | mk (h':Heap) (t':Nat) (ρ':Pl) (γ':Lo) (st':ai) (sp:c.Step ρ h ρ' h') (ok:Ok c ρ' γ' st' h') (q:Q v ρ' γ' st' h'):QW c ρ h Q v ⟨h',c.g,c.d,t',c.os⟩
inductive EW (c:Cx) (ρ:Pl) (h:Heap) (X:Str->Lo->ai->Prop):Value->Shared->Prop
 | mk (h':Heap) (t':Nat) (ρ':Pl) (γ':Lo) (st':ai) (e:Addr) (k:Str) (fl:Value) (sp:c.Step ρ h ρ' h') (ok:Ok c ρ' γ' st' h') (e3:fl=.none\/fl=rawInt c.fenv.locals) (e4:Exc ρ' h h' e k fl) (q:X k γ' st'):EW c ρ h X (.ref e) ⟨h',c.g,c.d,t',c.os⟩
noncomputable def W (c:Cx) (ρ:Pl) (h:Heap) (tk:Nat) {α:Type} (t:Sem α) (Q:α->Pl->Lo->ai->Heap->Prop) (X:Str->Lo->ai->Prop):Prop:=
 wpAny c.M c.A t (QW c ρ h Q) (EW c ρ h X) ⟨h,c.g,c.d,tk,c.os⟩
theorem Step.old {fr ofr:List Addr} {ρ ρ':Pl} {h₀ h₁:Heap} (st:Step fr ofr ρ h₀ ρ' h₁) {b:Addr} (hb:h₁.get? b=none):h₀.get? b=none:=by
 cases q:h₀.get? b with
 | none=>rfl
 | some o=>obtain ⟨o',z⟩:=st.alive b o q;rw [hb] at z;exact cH z
theorem Exc.older {ρ ρQ ρ₂:Pl} {h₀ h₁ h:Heap} {e:Addr} {k:Str} {fl:Value} {fr ofr:List Addr} (x:Exc ρ h₁ h e k fl) (st:Step fr ofr ρQ h₀ ρ₂ h₁):Exc ρ h₀ h e k fl:=by
 obtain ⟨T,d,a1,a2,a3,a4,a5,a6,a7,a8⟩:=x
 exact ⟨T,d,a1,a2,st.old a3,st.old a4,st.old a5,a6,a7,a8⟩
section
variable {c:Cx} {ρ ρ₀ ρQ:Pl} {γ γQ:Lo} {st st₁:ai} {h h₀ h₁:Heap} {tk tkQ:Nat} {α β:Type} {X X':Str->Lo->ai->Prop} {t:Sem α} {Q Q':α->Pl->Lo->ai->Heap->Prop}
theorem EW.from {x:Value} {s':Shared} (sp:c.Step ρ₀ h₀ ρ h) (e:EW c ρ h X x s'):EW c ρ₀ h₀ X x s':=by
 obtain ⟨h',t',ρ',γ',st',e,k,fl,sp',ok',e3,e4,q'⟩:=e
 exact ⟨h',t',ρ',γ',st',e,k,fl,sp.trans sp',ok',e3,e4.older sp,q'⟩
theorem QW.from {v:α} {s':Shared} (sp:c.Step ρ₀ h₀ ρ h) (e:QW c ρ h Q v s'):QW c ρ₀ h₀ Q v s':=by
 obtain ⟨h',t',ρ',γ',st',sp',ok',q'⟩:=e
 exact ⟨h',t',ρ',γ',st',sp.trans sp',ok',q'⟩
theorem EW.mono {x:Value} {s':Shared} (k:∀k γ' st',X k γ' st'->X' k γ' st') (e:EW c ρ h X x s'):EW c ρ h X' x s':=by
 obtain ⟨h',t',ρ',γ',st',e,kk,fl,sp',ok',e3,e4,q'⟩:=e
 exact ⟨h',t',ρ',γ',st',e,kk,fl,sp',ok',e3,e4,k _ _ _ q'⟩
theorem QW.elim {v:α} {s':Shared} {R:Shared->Prop} (e:QW c ρ h Q v s') (k:∀h' t' ρ' γ' st',c.Step ρ h ρ' h'->Ok c ρ' γ' st' h'->Q v ρ' γ' st' h'->R ⟨h',c.g,c.d,t',c.os⟩):R s':=by
 obtain ⟨h',t',ρ',γ',st',sp',ok',q'⟩:=e
 exact k h' t' ρ' γ' st' sp' ok' q'
theorem W.from (sp:c.Step ρ₀ h₀ ρ h) (x:W c ρ h tk t Q X):wpAny c.M c.A t (QW c ρ₀ h₀ Q) (EW c ρ₀ h₀ X) ⟨h,c.g,c.d,tk,c.os⟩:=
 wpAny_mono x (fun _ _ q=>q.from sp) fun _ _ e=>e.from sp
theorem W.raw {Qr:α->Shared->Prop} (x:W c ρ h tk t Q X) (sp:c.Step ρ₀ h₀ ρ h)
  (k:∀v ρQ γQ st₁ h₁ tkQ,Ok c ρQ γQ st₁ h₁->c.Step ρ₀ h₀ ρQ h₁->c.Step ρ h ρQ h₁->Q v ρQ γQ st₁ h₁->Qr v ⟨h₁,c.g,c.d,tkQ,c.os⟩):wpAny c.M c.A t Qr (EW c ρ₀ h₀ X) ⟨h,c.g,c.d,tk,c.os⟩:=
 wpAny_mono x (fun v _ q=>q.elim fun h₁ t₁ ρQ γQ st₁ sp₁ ok q=>k v ρQ γQ st₁ h₁ t₁ ok (sp.trans sp₁) sp₁ q) fun _ _ e=>e.from sp
theorem W.ends {a:α} (sp:c.Step ρ₀ h₀ ρ h) (ok:Ok c ρ γ st h) (hq:Q a ρ γ st h):QW c ρ₀ h₀ Q a ⟨h,c.g,c.d,tk,c.os⟩:=⟨h,tk,ρ,γ,st,sp,ok,hq⟩
end
inductive Out (α:Type) where
 | ok (a:α) (st:ai)
 | exc (k:Str) (st:ai)
noncomputable def aq {α β:Type} (x:Option (Out α)) (f:α->ai->Option (Out β)):Option (Out β):=
 match x with
 | some (.ok a st)=>f a st
 | some (.exc k st)=>some (.exc k st)
 | none=>none
section
variable {α β α' β':Type}
noncomputable abbrev Cx.rv (c:Cx):Pl->Heap->RV->Value->Prop:=fun ρ h r v=>Rep ρ h r v
noncomputable abbrev Cx.rl (c:Cx):Pl->Heap->List RV->List Value->Prop:=fun ρ h r v=>RepL ρ h r v
noncomputable abbrev same:Pl->Heap->α->α->Prop:=fun _ _ a b=>a=b
noncomputable abbrev ER (o:Out β) (γ:Lo):Str->Lo->ai->Prop:=fun k γ' st'=>γ'=γ/\o=.exc k st'
noncomputable abbrev QR (rel:Pl->Heap->β->α->Prop) (o:Out β) (γ:Lo):α->Pl->Lo->ai->Heap->Prop:=fun v ρ' γ' st' h'=>γ'=γ/\∃r,rel ρ' h' r v/\o=.ok r st'
theorem jN {a b:β} {s s':ai} (h:Out.ok a s=.ok b s'):a=b/\s=s':=by injection h with h1 h2;exact ⟨h1,h2⟩
theorem eu {P:Prop} {a:β} {k:Str} {s s':ai} (h:Out.ok a s=.exc k s'):P:=nomatch h
theorem pj {k k':Str} {s s':ai} (h:@Out.exc β k s=.exc k' s'):@Out.exc β' k s=.exc k' s':=by injection h with a b;rw [a,b]
noncomputable def TR (c:Cx) (rel:Pl->Heap->β->α->Prop) (ρ:Pl) (γ:Lo) (h:Heap) (tk:Nat) (t:Sem α) (o:Out β):Prop:=W c ρ h tk t (QR rel o γ) (ER o γ)
variable {c:Cx} {rel:Pl->Heap->β->α->Prop} {rel':Pl->Heap->β'->α'->Prop} {ρ ρ₀:Pl} {γ:Lo} {st st₁:ai} {h h₀:Heap} {tk:Nat} {t:Sem α} {o:Out β} {o':Out β'}
theorem eF {x:Option (Out β)} {f:β->ai->Option (Out β')} {P:Out β->Prop} (hm:aq x f=some o') (k1:∀a s,f a s=some o'->P (.ok a s)) (k2:∀k s,o'=.exc k s->P (.exc k s)):∃q,x=some q/\P q:=by
 cases x with
 | none=>exact aP hm
 | some q=>
  refine ⟨q,rfl,?_⟩
  cases q with
  | ok a s=>exact k1 a s hm
  | exc k s=>exact k2 k s (Option.some.inj hm).symm
theorem TR.seq {m:Option (Out β)} {f:β->ai->Option (Out β')} {Qr:α->Shared->Prop} (hm:aq m f=some o') (x:∀o,m=some o->TR c rel ρ γ h tk t o) (sp:c.Step ρ₀ h₀ ρ h)
  (k:∀r v ρQ st₁ h₁ tkQ,f r st₁=some o'->Ok c ρQ γ st₁ h₁->c.Step ρ₀ h₀ ρQ h₁->c.Step ρ h ρQ h₁->rel ρQ h₁ r v->Qr v ⟨h₁,c.g,c.d,tkQ,c.os⟩) :
  wpAny c.M c.A t Qr (EW c ρ₀ h₀ (ER o' γ)) ⟨h,c.g,c.d,tk,c.os⟩:=by
 obtain ⟨q,e,kq,kx⟩:=eF (P:=fun q=>(∀v ρQ γQ st₁ h₁ tkQ,Ok c ρQ γQ st₁ h₁->c.Step ρ h ρQ h₁->QR rel q γ v ρQ γQ st₁ h₁->Qr v ⟨h₁,c.g,c.d,tkQ,c.os⟩)/\∀k γ' st',ER q γ k γ' st'->ER o' γ k γ' st') hm
  (fun a s hf=>⟨(fun v ρQ γQ st₁ h₁ tkQ ok sp₁ z=>by
   obtain ⟨y,r,hr,z⟩:=z
   obtain ⟨y',e⟩:=jN z
   subst y y' e
   exact k _ _ _ _ _ _ hf ok (sp.trans sp₁) sp₁ hr),fun _ _ _ z=>eu z.2⟩)
  fun kk s ho=>⟨(fun v ρQ γQ st₁ h₁ tkQ _ _ z=>by obtain ⟨_,_,_,q⟩:=z;exact eu q.symm),fun _ _ _ z=>⟨z.1,ho.trans (pj z.2)⟩⟩
 exact wpAny_mono (x _ e) (fun v s' z=>z.elim fun h₁ t₁ ρQ γQ st₁ sp₁ ok q=>kq v ρQ γQ st₁ h₁ t₁ ok sp₁ q) fun v s' ee=>(ee.mono kx).from sp
theorem TR.known {r:β} {X:Str->Lo->ai->Prop} {Qr:α->Shared->Prop} (x:TR c rel ρ γ h tk t (.ok r st)) (sp:c.Step ρ₀ h₀ ρ h)
  (k:∀v ρQ h₁ tkQ,Ok c ρQ γ st h₁->c.Step ρ₀ h₀ ρQ h₁->c.Step ρ h ρQ h₁->rel ρQ h₁ r v->Qr v ⟨h₁,c.g,c.d,tkQ,c.os⟩) :
  wpAny c.M c.A t Qr (EW c ρ₀ h₀ X) ⟨h,c.g,c.d,tk,c.os⟩:=
 wpAny_mono x (fun v s' z=>z.elim fun h₁ t₁ ρQ γQ st₁ sp₁ ok q=>by
  obtain ⟨e2,r',y,e3⟩:=q
  obtain ⟨e4,e5⟩:=jN e3
  subst e2 e4 e5
  exact k _ _ _ _ ok (sp.trans sp₁) sp₁ y) fun v s' ee=>(ee.mono fun k γ' st' z=>eu z.2).from sp
theorem TR.from (x:TR c rel ρ γ h tk t o) (sp:c.Step ρ₀ h₀ ρ h):wpAny c.M c.A t (QW c ρ₀ h₀ (QR rel o γ)) (EW c ρ₀ h₀ (ER o γ)) ⟨h,c.g,c.d,tk,c.os⟩:=W.from sp x
theorem TR.ends {v:α} {r:β} (sp:c.Step ρ₀ h₀ ρ h) (ok:Ok c ρ γ st h) (y:rel ρ h r v):QW c ρ₀ h₀ (QR rel (.ok r st) γ) v ⟨h,c.g,c.d,tk,c.os⟩:=W.ends sp ok ⟨rfl,r,y,rfl⟩
theorem TR.ends' {v:α} {r:β} (hm:some (Out.ok r st)=some o) (sp:c.Step ρ₀ h₀ ρ h) (ok:Ok c ρ γ st h) (y:rel ρ h r v):QW c ρ₀ h₀ (QR rel o γ) v ⟨h,c.g,c.d,tk,c.os⟩:=someE (Q:=fun o=>QW c ρ₀ h₀ (QR rel o γ) v ⟨h,c.g,c.d,tk,c.os⟩) hm (TR.ends sp ok y)
noncomputable def EvR (c:Cx) (γ:Lo) (st:ai) (e:Expr) (o:Out RV):Prop:=∀ρ h tk,Ok c ρ γ st h->TR c c.rv ρ γ h tk (eval e c.env) o
noncomputable def EtR (c:Cx) (γ:Lo) (st:ai) (e:Expr) (o:Out Bool):Prop:=∀ρ h tk,Ok c ρ γ st h->TR c same ρ γ h tk (isTrue e c.env (eval e c.env)) o
noncomputable def ElR (c:Cx) (γ:Lo) (st:ai) (pos:Pos) (es:List Expr) (o:Out (List RV)):Prop:=∀ρ h tk,Ok c ρ γ st h->TR c c.rl ρ γ h tk (spliced (backTo pos (starEach es c.env))) o
end
section
variable {c:Cx} {γ:Lo} {st:ai} {e l r:Expr} {pos:Pos}
theorem EvR.loc {x:Str} {r:RV} {i:Nat} (hn:c.names[i]? = some x) (hx:γ[i]? = some (some r)):EvR c γ st (.Name x pos) (.ok r st):=fun ρ h tk ok=>by
 obtain ⟨m,hm,hl⟩:=ok.loc
 obtain ⟨v,hv,y⟩:=hl i x r hn hx
 have hk:=c.lk x (List.mem_of_getElem? hn)
 rcases hv with ⟨k,hv⟩ | ⟨k,a,ha,hv⟩
 ·exact wpAny_Name (wpAny_loadName_local c.kind k hm hv (TR.ends .refl ok y)) hk.1
 ·exact wpAny_Name (wpAny_loadName_cell c.kind k ha hv (TR.ends .refl ok y)) hk.1
theorem Ok.mod_off {ρ:Pl} {h:Heap} (ok:Ok c ρ γ st h) (a:Addr) (o:Obj) (ho:(MH c.w).get? a=some o):a∉ρ.vis:=fun m=>by
 have:=(ok.sto.off a m).2;rw [ho] at this;exact qp this
theorem Ok.mod_offs {ρ:Pl} {h:Heap} (ok:Ok c ρ γ st h) (a:Addr) (o:Obj) (ho:(MH c.w).get? a=some o):Off ρ a:=⟨ok.mod_off a o ho,fun m=>by have:=(ok.sto.hid a m).2.1;rw [ho] at this;exact qp this⟩
theorem EvR.glob {x:Str} {r:RV} (h1:c.env.kindOf x=some .globalImplicit) (h2:(x==("__debug__":Str))=false) (h3:cX c.w x r):EvR c γ st (.Name x pos) (.ok r st):=fun ρ h tk ok=>by
 obtain ⟨mg,mb,v,hg,hb,hv,y⟩:=h3 h ok.mod
 have yr:=y ρ ok.mod_offs
 rcases hv with hv | ⟨hv,hv'⟩
 ·exact Name_function_global c.kind h1 (loadGlobal_global (by rw [c.egl];exact hg) hv (TR.ends .refl ok yr)) h2
 ·exact Name_function_global c.kind h1 (loadGlobal_builtin (by rw [c.egl];exact hg) hv (by rw [c.ebl];exact hb) hv' (TR.ends .refl ok yr)) h2
theorem EvR.cint {i:Int} {k:Nat}:EvR c γ st (.Constant (.int i) k pos) (.ok (.int i) st):=fun ρ h tk ok=>wpAny_Constant_int (TR.ends .refl ok (.int i _))
theorem EvR.cstr {s:Str} {k:Nat}:EvR c γ st (.Constant (.str s) k pos) (.ok (.str s) st):=fun ρ h tk ok=>Constant_str (TR.ends .refl ok (.str s _))
theorem EvR.cnone {k:Nat}:EvR c γ st (.Constant .none k pos) (.ok .none st):=fun ρ h tk ok=>wpAny_pure (TR.ends .refl ok .none)
theorem EvR.cbool {b:Bool} {k:Nat}:EvR c γ st (.Constant (.bool b) k pos) (.ok (.bool b) st):=fun ρ h tk ok=>wpAny_pure (TR.ends .refl ok (.bool b))
theorem ElR.nil:ElR c γ st pos [] (.ok [] st):=fun ρ h tk ok=>wpAny_items_nil (TR.ends .refl ok .nil)
theorem ElR.cons {es:List Expr} {m:Option (Out RV)} {n:ai->Option (Out (List RV))} {o:Out (List RV)} (hm:aq m (fun r st₁=>aq (n st₁) fun l st₂=>some (.ok (r::l) st₂))=some o)
  (x:∀o,m=some o->EvR c γ st e o) (y:∀st₁ o,n st₁=some o->ElR c γ st₁ pos es o) (he:starEach (e::es) c.env=(false,eval e c.env)::starEach es c.env):ElR c γ st pos (e::es) o:=
 fun ρ h tk ok=>wpAny_items_cons (he:=he) (TR.seq hm (fun o e=>x o e ρ h tk ok) .refl fun r v ρQ st₁ h₁ tkQ hmJ ok₁ sp₁ _ rv=>
  TR.seq hmJ (fun o e=>y st₁ o e ρQ h₁ tkQ ok₁) sp₁ fun l vs ρ₂ st₂ h₂ tkJ hmQ ok₂ sp₂ sp₃ rl=>by cases hmQ;exact TR.ends sp₂ ok₂ (.cons (sp₃.rep rv) rl))
noncomputable def Op2 (c:Cx) (γ:Lo) (op:Value->Value->Sem Value) (ra rb:RV) (st:ai) (r:RV):Prop:=
 ∀ρ h tk v₁ v₂,Ok c ρ γ st h->c.rv ρ h ra v₁->c.rv ρ h rb v₂->TR c c.rv ρ γ h tk (op v₁ v₂) (.ok r st)
theorem EvR.bin {op:Operator} {m:Option (Out RV)} {n:ai->Option (Out RV)} {f:ai->RV->RV->Option RV} {o:Out RV} (hm:aq m (fun a st₁=>aq (n st₁) fun b st₂=>(f st₂ a b).map fun r=>.ok r st₂)=some o)
  (x:∀o,m=some o->EvR c γ st l o) (y:∀st₁ o,n st₁=some o->EvR c γ st₁ r o) (k:∀st a b z,f st a b=some z->Op2 c γ (binaryOp op) a b st z):EvR c γ st (.BinOp l op r pos) o:=
 fun ρ h tk ok=>wpAny_BinOp (TR.seq hm (fun o e=>x o e ρ h tk ok) .refl fun a v₁ ρQ st₁ h₁ tkQ hmJ ok₁ sp₁ _ y₁=>
  TR.seq hmJ (fun o e=>y st₁ o e ρQ h₁ tkQ ok₁) sp₁ fun b v₂ ρ₂ st₂ h₂ tkJ hmQ ok₂ sp₂ sp₃ y₂=>by
   obtain ⟨z,hz,e⟩:=Option.map_eq_some_iff.mp hmQ
   exact e▸(k _ _ _ _ hz ρ₂ h₂ tkJ v₁ v₂ ok₂ (sp₃.rep y₁) y₂).from sp₂)
theorem EvR.cmp {op:CmpOp} {m:Option (Out RV)} {n:ai->Option (Out RV)} {f:ai->RV->RV->Option RV} {o:Out RV} (hm:aq m (fun a st₁=>aq (n st₁) fun b st₂=>(f st₂ a b).map fun r=>.ok r st₂)=some o)
  (x:∀o,m=some o->EvR c γ st l o) (y:∀st₁ o,n st₁=some o->EvR c γ st₁ r o) (k:∀st a b z,f st a b=some z->Op2 c γ (compareOp op) a b st z)
  (hb:behindInMarks op r=false):EvR c γ st (.Compare l [op] [r] pos) o:=
 fun ρ h tk ok=>wpAny_Compare1 (hm:=hb) (TR.seq hm (fun o e=>x o e ρ h tk ok) .refl fun a v₁ ρQ st₁ h₁ tkQ hmJ ok₁ sp₁ _ y₁=>
  TR.seq hmJ (fun o e=>y st₁ o e ρQ h₁ tkQ ok₁) sp₁ fun b v₂ ρ₂ st₂ h₂ tkJ hmQ ok₂ sp₂ sp₃ y₂=>by
   obtain ⟨z,hz,e⟩:=Option.map_eq_some_iff.mp hmQ
   exact e▸(k _ _ _ _ hz ρ₂ h₂ tkJ v₁ v₂ ok₂ (sp₃.rep y₁) y₂).from sp₂)
theorem EtR.cmp {op:CmpOp} {m:Option (Out RV)} {n:ai->Option (Out RV)} {f:ai->RV->RV->Option Bool} {o:Out Bool} (hm:aq m (fun a st₁=>aq (n st₁) fun b st₂=>(f st₂ a b).map fun r=>.ok r st₂)=some o)
  (x:∀o,m=some o->EvR c γ st l o) (y:∀st₁ o,n st₁=some o->EvR c γ st₁ r o) (k:∀st a b z,f st a b=some z->Op2 c γ (compareOp op) a b st (.bool z))
  (hb:behindInMarks op r=false):EtR c γ st (.Compare l [op] [r] pos) o:=
 fun ρ h tk ok=>wpAny_isTrue_Compare1 (hm:=hb) (TR.seq hm (fun o e=>x o e ρ h tk ok) .refl fun a v₁ ρQ st₁ h₁ tkQ hmJ ok₁ sp₁ _ y₁=>
  TR.seq hmJ (fun o e=>y st₁ o e ρQ h₁ tkQ ok₁) sp₁ fun b v₂ ρ₂ st₂ h₂ tkJ hmQ ok₂ sp₂ sp₃ y₂=>by
   obtain ⟨z,hz,e⟩:=Option.map_eq_some_iff.mp hmQ
   subst e
   exact TR.known (k _ _ _ _ hz ρ₂ h₂ tkJ v₁ v₂ ok₂ (sp₃.rep y₁) y₂) sp₂ fun v ρ₃ h₃ tkZ ok₃ sp₄ _ y₃=>by apply y₃.elim;exact wpAny_truthy_bool (TR.ends sp₄ ok₃ rfl))
theorem EtR.not {o:Out Bool} {m:Option (Out Bool)} (hm:aq m (fun b st₁=>some (.ok (!b) st₁))=some o) (x:∀o,m=some o->EtR c γ st l o):EtR c γ st (.UnaryOp .Not l pos) o:=
 fun ρ h tk ok=>wpAny_isTrue_Not (TR.seq hm (fun o e=>x o e ρ h tk ok) .refl fun b b' ρQ st₁ h₁ tkQ hmJ ok₁ sp₁ _ y₁=>by cases hmJ;cases y₁;exact TR.ends sp₁ ok₁ rfl)
noncomputable def zA (b:RV) (st:ai):Option (Out RV):=b.asInt.map fun i=>.ok (.int (-i)) st
theorem EvR.neg {o:Out RV} {m:Option (Out RV)} (hm:aq m zA=some o) (x:∀o,m=some o->EvR c γ st l o):EvR c γ st (.UnaryOp .USub l pos) o:=
 fun ρ h tk ok=>wpAny_UnaryOp (TR.seq hm (fun o e=>x o e ρ h tk ok) .refl fun b b' ρQ st₁ h₁ tkQ hmJ ok₁ sp₁ _ y₁=>by
  obtain ⟨i,hi,e⟩:=Option.map_eq_some_iff.mp hmJ
  subst e
  rw [aO hi] at y₁
  apply y₁.elim
  exact fun t=>P.neg_int (TR.ends sp₁ ok₁ (.int _ _)))
end
section
variable {c:Cx} {ρ ρ':Pl} {γ γ':Lo} {st st':ai} {h h':Heap}
theorem DRep.mono (kp:∀(i:Nat) (a:Addr),ρ.vis[i]? = some a->ρ'.vis[i]? = some a) (k:∀a o,Off ρ a->h.get? a=some o->be o->Off ρ' a/\h'.get? a=some o) {es:List (Str×Value)} {l:List (Str×RV)} (y:DRep ρ h es l):DRep ρ' h' es l:=by
 induction y with
 | nil=>exact .nil
 | cons r _ ih=>exact .cons (Rep.mono kp k r) ih
theorem ORep.mono {w:World} {a:Addr} {o:AObj} (kp:∀(i:Nat) (a:Addr),ρ.vis[i]? = some a->ρ'.vis[i]? = some a) (k:∀a o,Off ρ a->h.get? a=some o->be o->Off ρ' a/\h'.get? a=some o) (k':∀o,h.get? a=some o->h'.get? a=some o) (y:ORep w ρ h a o):ORep w ρ' h' a o:=by
 cases y with
 | list x l=>exact .list (k' _ x) (RepL.mono kp k l)
 | inst0 x=>exact .inst0 (k' _ x)
 | inst x a b c d e=>exact .inst (k' _ x) a b c d (kp _ _ e)
 | dict x d=>exact .dict (x.imp fun o y=>y.imp fun es y=>y.imp fun ep y=>⟨k' o y.1,y.2⟩) (DRep.mono kp k d)
 | attrs x l d e=>exact .attrs (x.at k') l (fun j y r h1 h2=>(d j y r h1 h2).imp fun v z=>⟨z.1,Rep.mono kp k z.2⟩) e
 | meth x e=>exact .meth (k' _ x) (kp _ _ e)
 | pair x=>exact .pair (k' _ x)
theorem ORep.there {w:World} {a:Addr} {o:AObj} (y:ORep w ρ h a o):∃ob,h.get? a=some ob:=by
 cases y with
 | dict x=>exact x.imp fun o y=>y.elim fun _ y=>y.elim fun _ y=>y.1
 | attrs x=>exact x.imp fun o y=>y.elim fun _ y=>y.elim fun _ y=>y.1
 | _ x=>exact ⟨_,x⟩
noncomputable def yu (w:World) (ρ:Pl) (h:Heap) (a:Addr) (R:Prop):AObj->Prop
 | .list l=>∀vs n,h.get? a=some { cls:=.type "list",dict:=none,data:=.seq vs.toArray n,slots:= #[] }->RepL ρ h l vs->R
 | .dict l=>∀es,h.DictOf (strKind pw w) a es->DRep ρ h es l->R
 | .inst C none=>∀sl,h.get? a=some ⟨.ref C,none,.plain,sl⟩->R
 | .inst C (some i)=>∀d o,h.get? a=some o->o.cls=.ref C->o.dict=some d->(∀c,o.data≠.cls c)->d≠a->ρ.vis[i]? = some d->R
 | .attrs C vs=>∀m,h.Ns1 a m->vs.length<=(aV C).length->(∀(j:Nat) k r,(aV C)[j]? = some k->vs[j]? = some r->∃v,m k=some v/\Rep ρ h r v)->(∀k,k∉(aV C).take vs.length->m k=none)->R
 | .meth f i=>∀s,h.get? a=some { cls:=.type "method",dict:=none,data:=.fields #[.ref f,.ref s],slots:= #[] }->ρ.vis[i]? = some s->R
 | .pair=>R
theorem ORep.elim {w:World} {a:Addr} {o:AObj} {R:Prop} (y:ORep w ρ h a o):yu w ρ h a R o->R:=by
 cases y with
 | list x l=>exact fun k=>k _ _ x l
 | inst0 x=>exact fun k=>k _ x
 | inst x a b c d e=>exact fun k=>k _ _ x a b c d e
 | dict x d=>exact fun k=>k _ x d
 | attrs x l d e=>exact fun k=>k _ x l d e
 | meth x e=>exact fun k=>k _ x e
 | pair x=>exact id
theorem StoOk.there {w:World} {fr:List Addr} (x:StoOk w fr ρ st h) {a:Addr} (m:a∈ρ.vis):∃ob,h.get? a=some ob:=by
 obtain ⟨i,hi,e⟩:=List.getElem_of_mem m
 have hi':i<st.length:=x.len▸hi
 exact (x.reps i a st[i] (by rw [List.getElem?_eq_getElem hi,e]) (List.getElem?_eq_getElem hi')).there
theorem Dull.dict {o:Obj} {es n} (e:o.data=.dict es n):Dull o:=⟨fun vs q=>(nomatch e.symm.trans q),fun x=>x.elim fun vs y=>y.elim fun n q=>(nomatch e.symm.trans q)⟩
theorem Dull.cell {o:Obj} {v} (e:o.data=.cell v):Dull o:=⟨fun vs q=>(nomatch e.symm.trans q),fun x=>x.elim fun vs y=>y.elim fun n q=>(nomatch e.symm.trans q)⟩
theorem kN {env:Env} {r:List Env} {L:Addr} (hf:env.frame=some L):L∈aE (env::r):=by
 refine List.mem_append_left _ (List.mem_append_left _ ?_)
 rw [hf];exact .head _
theorem fA {l:List Env} {b:Addr} (m:b∈l.filterMap (·.frame)):b∈aE l:=by
 obtain ⟨e,he,hb⟩:=List.mem_filterMap.mp m
 induction l with
 | nil=>exact absurd he List.not_mem_nil
 | cons x r ih=>exact (List.mem_cons.mp he).elim (fun q=>by subst q;exact kN hb) fun q=>List.mem_append_right _ (ih (List.mem_filterMap.mpr ⟨e,q,hb⟩) q)
theorem ey {base:Heap} {l:List Env} (k:∀b∈aE l,∀o,h.get? b=some o->(∀vs,o.data≠.fields vs)->∃o',h'.get? b=some o'/\∀vs,o'.data≠.fields vs) (x:h.FunFrames base l):h'.FunFrames base l:=by
 induction l with
 | nil=>exact trivial
 | cons env r ih=>
  obtain ⟨hk,⟨L,o,hf,hn,ho,hd⟩,hr⟩:=x
  obtain ⟨o',ho',hd'⟩:=k L (kN hf) o ho hd
  exact ⟨hk,⟨L,o',hf,hn,ho',hd'⟩,ih (fun b hb=>k b (List.mem_append_right _ hb)) hr⟩
theorem Frs.mono {w:World} {envs:List Env} (k:∀b∈aE envs,∀o,h.get? b=some o->Dull o->∃o',h'.get? b=some o'/\Dull o') (x:Frs w envs h):Frs w envs h':=
 ⟨ey (fun b hb o e nf=>(x.at_ b hb).2.elim fun o₁ y=>(k b hb o₁ y.1 y.2).imp fun o' z=>⟨z.1,z.2.1⟩) x.ff,fun b hb=>⟨(x.at_ b hb).1,(x.at_ b hb).2.elim fun o y=>k b hb o y.1 y.2⟩⟩
theorem Ok.frame_at (ok:Ok c ρ γ st h) {b:Addr} (m:b∈c.own\/b∈c.rest):(MH c.w).get? b=none/\∃o,h.get? b=some o/\Dull o:=m.elim (ok.own b) fun m=>ok.ff.at_ b (c.rest_fr b m)
theorem Ok.free_off (ok:Ok c ρ γ st h) {b:Addr} (hb:h.get? b=none):b∉ρ.vis:=fun m=>by obtain ⟨ob,e⟩:=ok.sto.there m;rw [hb] at e;exact cH e
theorem Ok.free_fr (ok:Ok c ρ γ st h) {b:Addr} (hb:h.get? b=none):b∉c.own++c.rest:=fun m=>by obtain ⟨_,o,e,_⟩:=ok.frame_at (List.mem_append.mp m);rw [hb] at e;exact cH e
theorem Ok.mh_free (ok:Ok c ρ γ st h) {b:Addr} (hb:h.get? b=none):(MH c.w).get? b=none:=by
 cases q:(MH c.w).get? b with
 | none=>rfl
 | some o=>have:=ok.mod b o q;rw [hb] at this;exact cH this
theorem Heap.new_none {h:Heap}:h.get? h.objs.size=none:=Heap.get?_none_of_le (Nat.le_refl _)
theorem IsCell.at {a:Addr} {v:Option Value} (x:h.IsCell a v) (k:∀o,h.get? a=some o->h'.get? a=some o):h'.IsCell a v:=x.imp fun o y=>⟨k o y.1,y.2⟩
theorem Ok.off_own (ok:Ok c ρ γ st h) {b:Addr} (m:b∈ρ.vis):b∉c.own:=fun q=>(ok.sto.off b m).1 (List.mem_append_left _ q)
theorem Ok.off_rest (ok:Ok c ρ γ st h) {b:Addr} (m:b∈ρ.vis):b∉c.rest:=fun q=>(ok.sto.off b m).1 (List.mem_append_right _ q)
theorem Ok.become (ok:Ok c ρ γ st h) {zs:List Addr} (hzs:∀z∈zs,z∈c.own\/z∈ρ.vis) (hk:∀b o,b∉zs->h.get? b=some o->h'.get? b=some o)
  (hn:∀z∈zs,∃o,h'.get? z=some o) (hnf:∀z∈zs,z∈c.own->∃o,h'.get? z=some o/\Dull o)
  (kp:Pre ρ ρ') (hold:∀b∈ρ'.vis,b∈ρ.vis\/h.get? b=none)
  (hcel:∀x a,c.env.cells.lookup x=some a->∃cv,h'.IsCell a cv) (ks:γ'.length=c.names.length)
  (hl:(∀{r:RV} {v:Value},Rep ρ h r v->Rep ρ' h' r v)->∃m',h'.Ns c.L m'/\LocOk c.env c.names ρ' h' γ' m')
  (hs:(∀a o,Off ρ a->h.get? a=some o->be o->Off ρ' a/\h'.get? a=some o)->(∀b o,b∈ρ.hid->h.get? b=some o->h'.get? b=some o)->StoOk c.w (c.own++c.rest) ρ' st' h'):Ok c ρ' γ' st' h'/\c.Step ρ h ρ' h':=by
 have hz:∀b,b∉ρ.vis->b∉c.own->b∉zs:=fun b n1 n2 m=>(hzs b m).elim n2 n1
 have old:∀b o,b∉ρ.vis->h.get? b=some o->b∉ρ'.vis:=fun b o n e m=>(hold b m).elim n fun q=>by rw [q] at e;cases e
 have kz:∀a o,Off ρ a->h.get? a=some o->be o->Off ρ' a/\h'.get? a=some o:=fun a o f e q=>
  ⟨⟨old a o f.1 e,by rw [kp.2];exact f.2⟩,hk a o (fun m=>(hzs a m).elim (fun m=>by obtain ⟨_,o',e',d⟩:=ok.own a m;rw [e] at e';cases e';exact d.2 q) f.1) e⟩
 have kh:∀b o,b∈ρ.hid->h.get? b=some o->h'.get? b=some o:=fun b o m e=>hk b o (fun z=>by
  obtain ⟨n,_,o',e',q⟩:=ok.sto.hid b m
  rw [e] at e';cases e'
  rcases hzs b z with z | z
  ·obtain ⟨_,o',e',d⟩:=ok.own b z;rw [e] at e';cases e';exact d.2 q
  ·exact n z) e
 have dz:∀b o,b∉ρ.vis->h.get? b=some o->Dull o->∃o',h'.get? b=some o'/\Dull o':=fun b o m e nf=>by
  by_cases q:b∈zs
  ·rcases hzs b q with m' | m'
   ·exact hnf b q m'
   ·exact absurd m' m
  ·exact ⟨o,hk b o q e,nf⟩
 refine ⟨⟨ks,hl fun y=>y.mono kp.1 kz,hcel,hs kz kh,fun b o e=>?_,ok.ff.mono fun b hb o e nf=>dz b o (fun m=>(c.cover b hb).elim (ok.off_own m) (ok.off_rest m)) e nf,fun b hb=>?_,fun x hx=>?_⟩,
  ⟨kp,fun b o s n1 n2 e=>⟨hk b o (hz b s n1) e,old b o s e⟩,fun b o s q e=>(kz b o s e q).symm,fun b hb o e=>⟨o.slots,?_⟩,fun b o e=>?_⟩⟩
 ·refine hk b o (fun m=>(hzs b m).elim (fun m=>?_) (ok.mod_off b o e)) (ok.mod b o e)
  have:=(ok.own b m).1;rw [e] at this;cases this
 ·obtain ⟨a1,o,e,d⟩:=ok.own b hb
  exact ⟨a1,dz b o (fun m=>ok.off_own m hb) e d⟩
 ·obtain ⟨a,oe,vs,e1,e2,e3,e4,e5⟩:=ok.hnd x hx
  exact ⟨a,oe,vs,e1,old a oe e2 e3,hk a oe (fun m=>(hzs a m).elim (fun m=>by obtain ⟨_,o',e',d⟩:=ok.own a m;rw [e3] at e';cases e';exact d.1 _ e4) e2) e3,e4,e5⟩
 ·exact hk b o (fun m=>(hzs b m).elim (fun m=>c.fresh b m hb) fun m=>ok.off_rest m hb) e
 ·by_cases q:b∈zs
  ·exact hn b q
  ·exact ⟨o,hk b o q e⟩
theorem StoOk.mono {w:World} {fr:List Addr} (x:StoOk w fr ρ st h) (k:∀a o,Off ρ a->h.get? a=some o->be o->Off ρ a/\h'.get? a=some o) (k':∀a∈ρ.vis,∀o,h.get? a=some o->h'.get? a=some o) (kh:∀b o,b∈ρ.hid->h.get? b=some o->h'.get? b=some o):StoOk w fr ρ st h':=
 ⟨x.len,x.nd,x.off,fun i a o e1 e2=>(x.reps i a o e1 e2).mono Pre.refl.1 k fun o e=>k' a (List.mem_of_getElem? e1) o e,fun b m=>⟨(x.hid b m).1,(x.hid b m).2.1,(x.hid b m).2.2.imp fun o y=>⟨kh b o m y.1,y.2⟩⟩⟩
theorem LocOk.mono {env:Env} {names:List Str} {m:Str->Option Value} (x:LocOk env names ρ h γ m) (rp:∀{r:RV} {v:Value},Rep ρ h r v->Rep ρ' h' r v)
  (k:∀x a,env.cells.lookup x=some a->∀v,h.IsCell a (some v)->h'.IsCell a (some v)):LocOk env names ρ' h' γ m:=fun i y r h1 h2=>by
 obtain ⟨v,e,z⟩:=x i y r h1 h2
 refine ⟨v,?_,rp z⟩
 rcases e with e | ⟨k1,a,ha,hc⟩
 ·exact .inl e
 ·exact .inr ⟨k1,a,ha,k _ _ ha _ hc⟩
theorem Ok.grow (ok:Ok c ρ γ st h) (hk:∀b o,h.get? b=some o->h'.get? b=some o):Ok c ρ γ st h'/\c.Step ρ h ρ h':=by
 obtain ⟨m,hn,hl⟩:=ok.loc
 exact ok.become (zs:=[]) (fun z m=>by exact fx m) (fun b o _ e=>hk b o e) (fun z m=>by exact fx m) (fun z m=>by exact fx m) .refl (fun b m=>.inl m)
  (fun x a e=>(ok.cel x a e).imp fun cv z=>IsCell.at z fun o e=>hk _ _ e) ok.keys (fun rp=>⟨m,hn.keeps hk,hl.mono rp fun x a _ v z=>IsCell.at z fun o e=>hk _ _ e⟩)
  fun kz kh=>ok.sto.mono kz (fun a _ o e=>hk a o e) kh
theorem W.store {x:Str} {i:Nat} {r:RV} {v:Value} {tk:Nat} {X:Str->Lo->ai->Prop} (ok:Ok c ρ γ st h) (hx:c.names[i]? = some x) (hw:c.env.kindOf x=some .local\/c.Full) (y:Rep ρ h r v) :
  W c ρ h tk (storeName c.env x v) (fun _ ρQ γQ st₁ _=>ρQ=ρ/\γQ=γ.set i (some r)/\st₁=st) X:=by
 obtain ⟨m,hn,hl⟩:=ok.loc
 have hLc:∀{x:Str} {a:Addr},c.env.cells.lookup x=some a->a≠c.L:=fun e=>c.above _ _ (mem_of_lookup e)
 have hi:i<c.names.length:=(List.getElem?_eq_some_iff.mp hx).1
 have upd:∀(j:Nat) z rz,c.names[j]? = some z->(γ.set i (some r))[j]? = some (some rz)->(z=x/\rz=r)\/(z≠x/\γ[j]? = some (some rz)):=fun j z rz h1 h2=>by
  by_cases q:i=j
  ·subst q
   rw [hx] at h1
   rw [List.getElem?_set_self (by rw [ok.keys];exact hi)] at h2
   exact .inl ⟨by cases h1;rfl,by cases h2;rfl⟩
  ·rw [List.getElem?_set_ne q] at h2
   refine .inr ⟨fun e=>q ?_,h2⟩
   subst e
   exact (List.getElem?_inj hi c.nd).mp (by rw [hx,h1])
 rcases (c.lk x (List.mem_of_getElem? hx)).2 with k | ⟨k,a,ha⟩
 ·refine wpAny_storeName_local k hn (fun h' hn' hs=>?_) (by rw [c.kind];rfl)
  have keep:∀b o,b∉[c.L]->h.get? b=some o->h'.get? b=some o:=fun b o q e=>(hs.2 b (by simpa using q)).trans e
  have hL':∃o,h'.get? c.L=some o/\Dull o:=hn'.imp fun oL y=>y.elim fun es y=>y.elim fun ep y=>⟨y.1,.dict y.2.1⟩
  obtain ⟨ok',sp⟩:=ok.become (γ':=γ.set i (some r)) (zs:=[c.L]) (fun z m=>.inl (by rw [List.mem_singleton.mp m];exact c.L_own)) keep (fun z m=>by rw [List.mem_singleton.mp m];exact ⟨_,hL'.choose_spec.1⟩)
   (fun z m _=>by rw [List.mem_singleton.mp m];exact hL') .refl (fun b m=>.inl m)
   (fun x a e=>(ok.cel x a e).imp fun cv z=>IsCell.at z fun o e'=>keep _ _ (by simpa using hLc e) e') (by rw [List.length_set];exact ok.keys) (fun rp=>⟨_,hn',fun j z rz h1 h2=>by
    rcases upd j z rz h1 h2 with ⟨rfl,rfl⟩ | ⟨n,hm⟩
    ·exact ⟨v,.inl ⟨k,by simp⟩,rp y⟩
    ·obtain ⟨vz,e,yz⟩:=hl j z rz h1 hm
     refine ⟨vz,?_,rp yz⟩
     rcases e with ⟨k',e⟩ | ⟨k',a',ha',hc⟩
     ·exact .inl ⟨k',by simp [n,e]⟩
     ·exact .inr ⟨k',a',ha',IsCell.at hc fun o e=>keep _ _ (by simpa using hLc ha') e⟩⟩)
   fun kz kh=>ok.sto.mono kz (fun a m o e=>keep a o (fun q=>ok.off_own m (by rw [List.mem_singleton.mp q];exact c.L_own)) e) kh
  exact W.ends sp ok' ⟨rfl,rfl,rfl⟩
 ·obtain ⟨cv,hcv⟩:=ok.cel x a ha
  refine wpAny_storeName_cell c.kind k ha hcv fun h' hc' hs=>?_
  have keep':∀b o,b≠a->h.get? b=some o->h'.get? b=some o:=fun b o q e=>(hs.2 b q).trans e
  have keep:∀b o,b∉[a]->h.get? b=some o->h'.get? b=some o:=fun b o q e=>keep' b o (by simpa using q) e
  have ha':∃o,h'.get? a=some o/\Dull o:=hc'.imp fun o y=>⟨y.1,.cell y.2⟩
  have hao:a∈c.own:=hw.elim (fun q=>by rw [k] at q;exact nomatch q) fun q=>q.cells x a ha
  obtain ⟨ok',sp⟩:=ok.become (γ':=γ.set i (some r)) (zs:=[a]) (fun z m=>.inl (by rw [List.mem_singleton.mp m];exact hao)) keep (fun z m=>by rw [List.mem_singleton.mp m];exact ⟨_,ha'.choose_spec.1⟩)
   (fun z m _=>by rw [List.mem_singleton.mp m];exact ha') .refl (fun b m=>.inl m)
   (fun x' a' e=>by
    by_cases q:a'=a
    ·exact ⟨_,q▸hc'⟩
    ·obtain ⟨cv,z⟩:=ok.cel x' a' e;exact ⟨cv,IsCell.at z fun o e'=>keep' _ _ q e'⟩) (by rw [List.length_set];exact ok.keys) (fun rp=>⟨m,hn.sameBut hs (Ne.symm (hLc ha)),fun j z rz h1 h2=>by
    rcases upd j z rz h1 h2 with ⟨rfl,rfl⟩ | ⟨n,hm⟩
    ·exact ⟨v,.inr ⟨k,a,ha,hc'⟩,rp y⟩
    ·obtain ⟨vz,e,yz⟩:=hl j z rz h1 hm
     refine ⟨vz,?_,rp yz⟩
     rcases e with e | ⟨k',a',ha',hc⟩
     ·exact .inl e
     ·have q:a'≠a:=fun q=>n (name_of_addr c.apart (mem_of_lookup ha') (q▸mem_of_lookup ha))
      exact .inr ⟨k',a',ha',IsCell.at hc fun o e=>keep' _ _ q e⟩⟩)
   fun kz kh=>ok.sto.mono kz (fun b m o e=>keep' b o (fun q=>ok.off_own m (by rw [q];exact hao)) e) kh
  exact W.ends sp ok' ⟨rfl,rfl,rfl⟩
theorem Ok.set {i:Nat} {a:Addr} {o:AObj} (ok:Ok c ρ γ st h) (hi:ρ.vis[i]? = some a) (hk:∀b o,b≠a->h.get? b=some o->h'.get? b=some o) (hn:∃o,h'.get? a=some o)
  (hr:(∀{r:RV} {v:Value},Rep ρ h r v->Rep ρ h' r v)->ORep c.w ρ h' a o):Ok c ρ γ (st.set i o) h'/\c.Step ρ h ρ h':=by
 obtain ⟨m,hns,hl⟩:=ok.loc
 have hm:a∈ρ.vis:=List.mem_of_getElem? hi
 have hne:∀b,b∈c.own\/b∈c.rest->b≠a:=fun b hb q=>hb.elim (fun hb=>ok.off_own hm (q▸hb)) fun hb=>ok.off_rest hm (q▸hb)
 have keep:∀b o,b∉[a]->h.get? b=some o->h'.get? b=some o:=fun b o q e=>hk b o (by simpa using q) e
 refine ok.become (zs:=[a]) (fun z m=>.inr (by rw [List.mem_singleton.mp m];exact hm)) keep (fun z m=>by rw [List.mem_singleton.mp m];exact hn)
  (fun z m q=>by rw [List.mem_singleton.mp m] at q;exact absurd q (ok.off_own hm)) .refl (fun b m=>.inl m)
  (fun x a' e=>(ok.cel x a' e).imp fun cv z=>IsCell.at z fun o e'=>hk _ _ (hne _ (c.cells_in _ _ e)) e') ok.keys
  (fun rp=>⟨m,?_,hl.mono rp fun x a' e v z=>IsCell.at z fun o e'=>hk _ _ (hne _ (c.cells_in _ _ e)) e'⟩) fun kz kh=>?_
 ·obtain ⟨oL,es,ep,e,r⟩:=hns
  exact ⟨oL,es,ep,hk _ _ (hne _ (.inl c.L_own)) e,r⟩
 ·refine ⟨by rw [List.length_set];exact ok.sto.len,ok.sto.nd,ok.sto.off,fun j b ob e1 e2=>?_,fun b m=>⟨(ok.sto.hid b m).1,(ok.sto.hid b m).2.1,(ok.sto.hid b m).2.2.imp fun o y=>⟨kh b o m y.1,y.2⟩⟩⟩
  by_cases q:i=j
  ·subst q
   rw [hi] at e1
   rw [List.getElem?_set_self (by rw [<-ok.sto.len];exact (List.getElem?_eq_some_iff.mp hi).1)] at e2
   cases e1
   cases e2
   exact hr fun y=>y.mono Pre.refl.1 kz
  ·rw [List.getElem?_set_ne q] at e2
   refine (ok.sto.reps j b ob e1 e2).mono Pre.refl.1 kz fun o e=>hk b o (fun z=>q ?_) e
   subst z
   exact (List.getElem?_inj (List.getElem?_eq_some_iff.mp hi).1 ok.sto.nd).mp (by rw [hi,e1])
theorem Pl.snoc_at {ρ:Pl} {a:Addr}:(ρ.snoc a).vis[ρ.vis.length]? = some a:=by
 show (ρ.vis++[a])[_]? = _
 simp
theorem g0 {α β:Type} {a z:α} {o w:β} {l:List α} {s:List β} {j:Nat} (hl:l.length=s.length) (e1:(l++[a])[j]? = some z) (e2:(s++[o])[j]? = some w):(l[j]? = some z/\s[j]? = some w)\/(z=a/\w=o):=by
 rcases Nat.lt_or_ge j l.length with q | q
 ·rw [List.getElem?_append_left q] at e1
  rw [List.getElem?_append_left (hl▸q)] at e2
  exact .inl ⟨e1,e2⟩
 ·have b:=(List.getElem?_eq_some_iff.mp e1).1
  rw [List.length_append] at b
  have hj:j=l.length:=Nat.le_antisymm (Nat.le_of_lt_succ b) q
  subst hj
  rw [List.getElem?_concat_length] at e1
  rw [hl,List.getElem?_concat_length] at e2
  exact .inr ⟨(Option.some.inj e1).symm,(Option.some.inj e2).symm⟩
theorem fH {α:Type} {l:List α} {a:α} (n:l.Nodup) (h:a∉l):(l++[a]).Nodup:=List.nodup_append.mpr ⟨n,List.pairwise_singleton _ _,fun x hx y hy q=>h (List.mem_singleton.mp hy▸q▸hx)⟩
theorem Ok.new {a:Addr} {o:AObj} (ok:Ok c ρ γ st h) (ha:h.get? a=none) (hk:∀b o,h.get? b=some o->h'.get? b=some o)
  (hr:(∀{r:RV} {v:Value},Rep ρ h r v->Rep (ρ.snoc a) h' r v)->ORep c.w (ρ.snoc a) h' a o):Ok c (ρ.snoc a) γ (st++[o]) h'/\c.Step ρ h (ρ.snoc a) h':=by
 obtain ⟨m,hns,hl⟩:=ok.loc
 refine ok.become (zs:=[]) (fun z m=>fx m) (fun b o _ e=>hk b o e) (fun z m=>fx m) (fun z m=>fx m) .snoc (fun b m=>(List.mem_append.mp m).elim .inl fun m=>.inr (List.mem_singleton.mp m▸ha))
  (fun x a' e=>(ok.cel x a' e).imp fun cv z=>IsCell.at z fun o e'=>hk _ _ e') ok.keys (fun rp=>⟨m,hns.keeps hk,hl.mono rp fun x a' e v z=>IsCell.at z fun o e'=>hk _ _ e'⟩) fun kz kh=>?_
 refine ⟨by show (ρ.vis++[a]).length=_;rw [List.length_append,List.length_append,ok.sto.len];rfl,fH ok.sto.nd (ok.free_off ha),fun b m=>?_,fun j b ob e1 e2=>?_,fun b m=>?_⟩
 ·rcases List.mem_append.mp m with m | m
  ·exact ok.sto.off b m
  ·exact List.mem_singleton.mp m▸⟨ok.free_fr ha,ok.mh_free ha⟩
 ·rcases g0 ok.sto.len e1 e2 with ⟨e1,e2⟩ | ⟨e1,e2⟩
  ·exact (ok.sto.reps j b ob e1 e2).mono Pre.snoc.1 kz fun o e=>hk b o e
  ·subst e1 e2
   exact hr fun y=>y.mono Pre.snoc.1 kz
 ·obtain ⟨a1,a2,o,a3,a4⟩:=ok.sto.hid b m
  exact ⟨fun q=>(List.mem_append.mp q).elim a1 fun q=>aP (ha.symm.trans ((congrArg h.get? (List.mem_singleton.mp q).symm).trans a3)),a2,o,kh b o m a3,a4⟩
theorem Ok.free_new (ok:Ok c ρ γ st h) {b:Addr} (hb:h.get? b=none):Off ρ b:=⟨ok.free_off hb,fun m=>by obtain ⟨_,_,o,e,_⟩:=ok.sto.hid b m;rw [hb] at e;exact cH e⟩
end
theorem iV (f:Array Value->Array Value) (o:Obj):(o.mapFields f).dict=o.dict:=by
 obtain ⟨a,b,d,s⟩:=o
 cases d <;> rfl
section
variable {M:Model} {A:Around} {E:Value->Shared->Prop} {s:Shared} {env:Env} {outer:List Env} {L e T:Addr} {C fl:Value} {d:Option Addr} {w:World}
theorem ku {oe:Obj} {vs:Array Value} {head:Value} {hadNext:Bool} {Q:Unit->Shared->Prop}
  (hfr:A.frames=some (env::outer)) (hl:Frs w (env::outer) s.heap) (hf:env.frame=some L) (he:s.heap.get? e=some oe) (hd:oe.data=.fields vs) (hsz:1<vs.size) (hc2:vs[2]? = some .none)
  (h:∀h' T',s.heap.get? T'=none->Tr h' e T' oe.cls oe.dict (rawInt L)->(∀b o,b∉aE (env::outer)->b≠e->s.heap.get? b=some o->h'.get? b=some o)->
   (∀b o,b≠e->s.heap.get? b=some o->∃sl,h'.get? b=some { o with slots:=sl })->(∀b o,s.heap.get? b=some o->∃o',h'.get? b=some o')->Q () { s with heap:=h' }) :
  wpAny M A (do let a<-frameOf env;let pl<-entryPlaceOf L hadNext;let b<-EntryCells.newEntry head a .none (rawInt L) .none pl;setField (.ref e) 1 b) Q E s:=by
 have hene:e∉(env::outer).filterMap (·.frame):=fun hm=>by
  obtain ⟨_,o,ho,hnf⟩:=hl.at_ _ (fA hm)
  rw [he] at ho;injection ho with ho;subst ho;exact hnf.1 vs hd
 refine wpAny_bind (wpAny_frameOf_fun hfr hl.ff hf fun h₁ hs₁=>?_)
 refine wpAny_bind (wpAny_entryPlaceOf fun pl hpl=>?_)
 unfold EntryCells.newEntry newFields
 refine wpAny_bind (wpAny_newObj_type ?_ (hpl.sizeOk5 _ _ _ _ _))
 have heJ:h₁.get? e=some oe:=(hs₁.2.1 e hene).trans he
 generalize hnew:({ cls:=.type "traceback",dict:=none,data:=.fields ([head,.ref L,.none,rawInt L,.none]++(if pl.isEmpty then List.replicate 6 Value.none else pl)).toArray }:Obj)=nw
 have heZ:=Heap.get?_push_of_some (h:=h₁) nw heJ
 refine wpAny_setField heZ hd hsz (h _ h₁.objs.size ?_ ?_ ?_ ?_ ?_)
 ·cases q:s.heap.get? h₁.objs.size with
  | none=>rfl
  | some o=>obtain ⟨sl,z⟩:=hs₁.2.2 _ o q;exact absurd (Heap.lt_size z) (Nat.lt_irrefl _)
 ·have hTe:h₁.objs.size≠e:=Nat.ne_of_gt (Heap.lt_size heJ)
  have hdQ:=Obj.data_mapFields hd (·.setIfInBounds 1 (Value.ref h₁.objs.size))
  refine ⟨_,_,nw,_,Heap.get?_update_self _ heZ (Obj.isFreed_of_fields hdQ),Obj.cls_mapFields _ _,iV _ _,hdQ,by simp [hsz],by simpa using hc2,hTe,?_,(by rw [<-hnew]),by first | (exact rfl;done) | (rcases hpl with rfl | ⟨_,_,_,_,_,_,_,rfl⟩ <;> simp)⟩
  exact (Heap.get?_update_other _ _ (Ne.symm hTe)).trans (Heap.get?_push_size h₁ (by rw [<-hnew];rfl))
 ·intro b o hb hbe hbo
  rw [Heap.get?_update_other _ _ (Ne.symm hbe)]
  exact Heap.get?_push_of_some _ ((hs₁.2.1 b fun m=>hb (fA m)).trans hbo)
 ·intro b o hbe hbo
  obtain ⟨sl,z⟩:=hs₁.2.2 b o hbo
  exact ⟨sl,by rw [Heap.get?_update_other _ _ (Ne.symm hbe)];exact Heap.get?_push_of_some _ z⟩
 ·intro b o hbo
  by_cases q:b=e
  ·subst q
   exact ⟨_,Heap.get?_update_self _ heZ (Obj.isFreed_of_fields (Obj.data_mapFields hd _))⟩
  ·obtain ⟨sl,z⟩:=hs₁.2.2 b o hbo
   exact ⟨_,by rw [Heap.get?_update_other _ _ (Ne.symm q)];exact Heap.get?_push_of_some _ z⟩
theorem uX {Q:Unit->Shared->Prop} (hfr:A.frames=some (env::outer)) (hl:Frs w (env::outer) s.heap) (hf:env.frame=some L) (t:Tr s.heap e T C d .none)
  (h:∀h' T',s.heap.get? T'=none->Tr h' e T' C d (rawInt L)->(∀b o,b∉aE (env::outer)->b≠e->b≠T->s.heap.get? b=some o->h'.get? b=some o)->
   (∀b o,b≠e->b≠T->s.heap.get? b=some o->∃sl,h'.get? b=some { o with slots:=sl })->(∀b o,s.heap.get? b=some o->∃o',h'.get? b=some o')->Q () { s with heap:=h' }) :
  wpAny M A (noteFrame (.ref e) env) Q E s:=by
 obtain ⟨oe,vs,oT,ts,he,hcls,hdd,hd,h1,hc2,hTe,hT,hdT,h3⟩:=t
 subst hcls hdd
 unfold noteFrame
 simp only [hf]
 refine wpAny_bind (wpAny_field he hd h1 ?_)
 rw [if_pos (show (Value.ref T != Value.none)=true from by exact rfl)]
 refine wpAny_bind (wpAny_field hT hdT h3 ?_)
 rw [if_neg (show ¬ ((Value.none==rawInt L)=true) from by simp [rawInt])]
 refine wpAny_bind (wpAny_setField hT hdT (Array.getElem?_eq_some_iff.mp h3).1 ?_)
 have other:∀b,b≠T->(s.heap.update T (Obj.mapFields (·.setIfInBounds 3 Value.none))).get? b=s.heap.get? b:=fun b hb=>Heap.get?_update_other _ _ (Ne.symm hb)
 have self:(s.heap.update T (Obj.mapFields (·.setIfInBounds 3 Value.none))).get? T=some (Obj.mapFields (·.setIfInBounds 3 Value.none) oT):=Heap.get?_update_self _ hT (Obj.isFreed_of_fields (Obj.data_mapFields hdT _))
 have j0:∀b∈aE (env::outer),b≠T:=fun b hb q=>by
  obtain ⟨_,o,ho,nf⟩:=hl.at_ _ hb
  rw [q,hT] at ho;cases ho;exact nf.1 ts hdT
 refine ku (w:=w) hfr (hl.mono fun b hb o ho nf=>⟨o,(other b (j0 b hb)).trans ho,nf⟩) hf ((other e (Ne.symm hTe)).trans he) hd (Array.getElem?_eq_some_iff.mp h1).1 hc2 fun h' T' n t k1 k2 k3=>?_
 refine h h' T' ?_ t (fun b o hb hbe hbT hbo=>k1 b o hb hbe ((other b hbT).trans hbo)) (fun b o hbe hbT hbo=>k2 b o hbe ((other b hbT).trans hbo)) fun b o hbo=>?_
 ·cases q:s.heap.get? T' with
  | none=>rfl
  | some o=>
   by_cases z:T'=T
   ·subst z;have n:(s.heap.update T' _).get? T'=none:=n;rw [self] at n;exact qp n
   ·have n:(s.heap.update T _).get? T'=none:=n
    rw [other T' z,q] at n;exact qp n
 ·by_cases z:b=T
  ·subst z;exact k3 _ _ self
  ·exact k3 b o ((other b z).trans hbo)
theorem ji {Q:Unit->Shared->Prop} (hf:env.frame=some L) (t:Tr s.heap e T C d (rawInt L)) (h:Q () s):wpAny M A (noteFrame (.ref e) env) Q E s:=by
 obtain ⟨oe,vs,oT,ts,he,hcls,hdd,hd,h1,hc2,hTe,hT,hdT,h3⟩:=t
 unfold noteFrame
 simp only [hf]
 refine wpAny_bind (wpAny_field he hd h1 ?_)
 rw [if_pos (show (Value.ref T != Value.none)=true from by exact rfl)]
 refine wpAny_bind (wpAny_field hT hdT h3 ?_)
 rw [if_pos (show (rawInt L==rawInt L)=true from by simp)]
 exact wpAny_pure h
theorem flight {fr:Option Addr} {Q:Unit->Shared->Prop} (t:Tr s.heap e T C d fl)
  (h:∀h',Tr h' e T C d (fr.elim .none fun f=>rawInt f)->(∀b o,b≠T->s.heap.get? b=some o->h'.get? b=some o)->(∀b o,s.heap.get? b=some o->∃o',h'.get? b=some o')->Q () { s with heap:=h' }) :
  wpAny M A (setFlight (.ref e) fr) Q E s:=by
 obtain ⟨oe,vs,oT,ts,he,hcls,hdd,hd,h1,hc2,hTe,hT,hdT,h3⟩:=t
 have hsz3:3<ts.size:=(Array.getElem?_eq_some_iff.mp h3).1
 unfold setFlight
 refine wpAny_bind (wpAny_field he hd h1 ?_)
 rw [if_pos (show (Value.ref T != Value.none)=true from by exact rfl)]
 refine wpAny_setField hT hdT hsz3 (h _ ?_ ?_ ?_)
 ·exact ⟨oe,vs,_,_,(Heap.get?_update_other _ _ hTe).trans he,hcls,hdd,hd,h1,hc2,hTe,Heap.get?_update_self _ hT (Obj.isFreed_of_fields (Obj.data_mapFields hdT _)),Obj.data_mapFields hdT _,by simp [hsz3]⟩
 ·exact fun b o hb ho=>(Heap.get?_update_other _ _ (Ne.symm hb)).trans ho
 ·intro b o hbo
  by_cases z:b=T
  ·subst z;exact ⟨_,Heap.get?_update_self _ hT (Obj.isFreed_of_fields (Obj.data_mapFields hdT _))⟩
  ·exact ⟨o,(Heap.get?_update_other _ _ (Ne.symm z)).trans hbo⟩
theorem tY {Q:Unit->Shared->Prop} (hfr:A.frames=some (env::outer)) (hl:Frs w (env::outer) s.heap) (hf:env.frame=some L) (t:Raw s.heap e C d)
  (h:∀h' T',s.heap.get? T'=none->Tr h' e T' C d (rawInt L)->(∀b o,b∉aE (env::outer)->b≠e->s.heap.get? b=some o->h'.get? b=some o)->
   (∀b o,b≠e->s.heap.get? b=some o->∃sl,h'.get? b=some { o with slots:=sl })->(∀b o,s.heap.get? b=some o->∃o',h'.get? b=some o')->Q () { s with heap:=h' }) :
  wpAny M A (noteFrame (.ref e) env) Q E s:=by
 obtain ⟨oe,vs,he,hcls,hdd,hd,h1,h2⟩:=t
 subst hcls hdd
 unfold noteFrame
 simp only [hf]
 refine wpAny_bind (wpAny_field he hd h1 ?_)
 rw [if_neg (show ¬ (Value.none != Value.none)=true from by simp)]
 exact ku (w:=w) hfr hl hf he hd (Array.getElem?_eq_some_iff.mp h1).1 h2 h
theorem note {Q:Unit->Shared->Prop} (hfr:A.frames=some (env::outer)) (hl:Frs w (env::outer) s.heap) (hf:env.frame=some L) (t:Fly s.heap e T C d fl) (hfl:fl=.none\/fl=rawInt L)
  (h:∀h' T',(T'=T\/s.heap.get? T'=none)->Tr h' e T' C d (rawInt L)->(∀b o,b∉aE (env::outer)->b≠e->b≠T->s.heap.get? b=some o->h'.get? b=some o)->
   (∀b o,b≠e->b≠T->s.heap.get? b=some o->∃sl,h'.get? b=some { o with slots:=sl })->(∀b o,s.heap.get? b=some o->∃o',h'.get? b=some o')->Q () { s with heap:=h' }) :
  wpAny M A (noteFrame (.ref e) env) Q E s:=by
 rcases t with t | ⟨rfl,rfl,t⟩
 ·rcases hfl with rfl | rfl
  ·exact uX (w:=w) hfr hl hf t fun h₁ TQ n t₁ k1 k2 k3=>h h₁ TQ (.inr n) t₁ k1 k2 k3
  ·exact ji hf t (h s.heap T (.inl rfl) t (fun b o _ _ _ e=>e) (fun b o _ _ e=>⟨o.slots,e⟩) fun b o e=>⟨o,e⟩)
 ·exact tY (w:=w) hfr hl hf t fun h₁ TQ n t₁ k1 k2 k3=>h h₁ TQ (.inr n) t₁ (fun b o m q _ e=>k1 b o m q e) (fun b o q _ e=>k2 b o q e) k3
theorem leave {Q:Unit->Shared->Prop} (hfr:A.frames=some (env::outer)) (hl:Frs w (env::outer) s.heap) (hf:env.frame=some L) (t:Fly s.heap e T C d fl) (hfl:fl=.none\/fl=rawInt L)
  (h:∀h' T',(T'=T\/s.heap.get? T'=none)->Tr h' e T' C d .none->(∀b o,b∉aE (env::outer)->b≠e->b≠T->s.heap.get? b=some o->h'.get? b=some o)->
   (∀b o,b≠e->b≠T->s.heap.get? b=some o->∃sl,h'.get? b=some { o with slots:=sl })->(∀b o,s.heap.get? b=some o->∃o',h'.get? b=some o')->Q () { s with heap:=h' }) :
  wpAny M A (leaving env (.ref e)) Q E s:=by
 unfold leaving
 refine wpAny_bind (note (w:=w) hfr hl hf t hfl fun h₁ TQ n t₁ k1 k2 k3=>?_)
 refine flight (s:={ s with heap:=h₁ }) t₁ fun h₂ t₂ j1 j2=>?_
 have ne:∀b o,b≠T->s.heap.get? b=some o->b≠TQ:=fun b o z e q=>by
  rcases n with rfl | n
  ·exact z q
  ·rw [q,n] at e;exact cH e
 exact h h₂ TQ n t₂ (fun b o m hbe hbT e=>j1 b o (ne b o hbT e) (k1 b o m hbe hbT e)) (fun b o hbe hbT e=>let ⟨sl,z⟩:=k2 b o hbe hbT e;⟨sl,j1 b _ (ne b o hbT e) z⟩)
  fun b o e=>let ⟨o₁,z⟩:=k3 b o e;j2 b o₁ z
end
inductive CE (w:World) (envs:List Env) (g:Array GenState) (d:Drawn) (os:OsState) (ρ:Pl) (h:Heap):Out RV->Result->Shared->Prop
 | ok (h':Heap) (t':Nat) (ρ':Pl) (r:RV) (st':ai) (v:Value) (sp:Step [] (aE envs) ρ h ρ' h') (k:kept w h') (f:Frs w envs h') (s:StoOk w (aE envs) ρ' st' h') (y:Rep ρ' h' r v):CE w envs g d os ρ h (.ok r st') (.ok (.ret v)) ⟨h',g,d,t',os⟩
 | exc (h':Heap) (t':Nat) (ρ':Pl) (st':ai) (e:Addr) (kk:Str) (sp:Step [] (aE envs) ρ h ρ' h') (k:kept w h') (f:Frs w envs h') (s:StoOk w (aE envs) ρ' st' h') (x:Exc ρ' h h' e kk .none):CE w envs g d os ρ h (.exc kk st') (.error (.ref e)) ⟨h',g,d,t',os⟩
noncomputable def CR (w:World) (n:Nat) (hd:Option Value) (fv:RV) (rs:List RV) (st:ai) (o:Out RV):Prop:=
 ∀(A:Around) (envs:List Env) (g:Array GenState) (d:Drawn) (os:OsState) (ρ:Pl) (h:Heap) (tk:Nat) (v:Value) (vs:List Value),A.frames=some envs->A.handled=hd->A.depth+n<recursionLimit->A.units+8*n+8<cLine->
  kept w h->Frs w envs h->StoOk w (aE envs) ρ st h->Rep ρ h fv v->RepL ρ h rs vs->xU hd ρ h->
  codeAny (model pw w) A (.call v ⟨vs,[]⟩) (CE w envs g d os ρ h o) ⟨h,g,d,tk,os⟩
theorem Ns.slots {h h':Heap} {L:Addr} {m:Str->Option Value} (x:h.Ns L m) (k:∀o,h.get? L=some o->∃sl,h'.get? L=some { o with slots:=sl }):h'.Ns L m:=by
 obtain ⟨o,es,ep,ho,hd,r⟩:=x
 obtain ⟨sl,hs⟩:=k o ho
 exact ⟨_,es,ep,hs,hd,r⟩
theorem IsCell.slots {h h':Heap} {L:Addr} {m:Option Value} (x:h.IsCell L m) (k:∀o,h.get? L=some o->∃sl,h'.get? L=some { o with slots:=sl }):h'.IsCell L m:=by
 obtain ⟨o,ho,hd⟩:=x
 obtain ⟨sl,hs⟩:=k o ho
 exact ⟨_,hs,hd⟩
section
variable {c:Cx} {ρ ρ':Pl} {γ:Lo} {st st':ai} {h h':Heap} {tk:Nat}
theorem Ok.back (ok:Ok c ρ γ st h) (sp:Step [] (aE (c.fenv::c.outer)) ρ h ρ' h') (k:kept c.w h') (f:Frs c.w (c.fenv::c.outer) h') (s:StoOk c.w (aE (c.fenv::c.outer)) ρ' st' h'):Ok c ρ' γ st' h'/\c.Step ρ h ρ' h':=by
 obtain ⟨m,hn,hl⟩:=ok.loc
 have up:∀b,b∈c.own\/b∈c.rest->∀o,h.get? b=some o->∃sl,h'.get? b=some { o with slots:=sl }:=fun b hb o e=>by
  by_cases q:b∈aE (c.fenv::c.outer)
  ·exact sp.outs b q o e
  ·have nρ:b∉ρ.vis:=fun m=>hb.elim (ok.off_own m) (ok.off_rest m)
   exact ⟨o.slots,(sp.keep b o nρ (by simp) q e).1⟩
 have offρ:∀b,b∈c.own\/b∈c.rest->b∉ρ'.vis:=fun b hb m=>by
  by_cases q:b∈aE (c.fenv::c.outer)
  ·exact (s.off b m).1 q
  ·have nρ:b∉ρ.vis:=fun m=>hb.elim (ok.off_own m) (ok.off_rest m)
   obtain ⟨_,o,e,_⟩:=ok.frame_at hb
   exact (sp.keep b o nρ (by simp) q e).2 m
 refine ⟨⟨ok.keys,⟨m,Ns.slots hn (up _ (.inl c.L_own)),hl.mono (fun y=>sp.rep y) fun x a e v z=>IsCell.slots z (up _ (c.cells_in _ _ e))⟩,fun x a e=>?_,⟨s.len,s.nd,fun a m=>⟨fun q=>offρ a (List.mem_append.mp q) m,(s.off a m).2⟩,s.reps,s.hid⟩,k,f,fun b hb=>?_,fun x hx=>?_⟩,
  ⟨sp.pre,fun b o s n1 n2 e=>sp.keep b o s (by simp) (fun q=>(c.cover b q).elim n1 n2) e,sp.seqs,fun b hb=>up b (.inr hb),sp.alive⟩⟩
 ·obtain ⟨cv,z⟩:=ok.cel x a e
  exact ⟨cv,IsCell.slots z (up _ (c.cells_in _ _ e))⟩
 ·obtain ⟨a1,o,e,d⟩:=ok.own b hb
  obtain ⟨sl,e'⟩:=up b (.inl hb) o e
  exact ⟨a1,_,e',d⟩
 ·obtain ⟨a,oe,vs,e1,e2,e3,e4,e5⟩:=ok.hnd x hx
  have:=sp.keep a oe e2 (by simp) (fun m=>by obtain ⟨_,o',e',d⟩:=ok.ff.at_ a m;rw [e3] at e';cases e';exact d.1 _ e4) e3
  exact ⟨a,oe,vs,e1,this.2,this.1,e4,e5⟩
theorem TR.callA {fv:RV} {v:Value} {rs:List RV} {vs:List Value} {o:Out RV} {A:Around} {n:Nat} {hd:Option Value} (ok:Ok c ρ γ st h) (yf:c.rv ρ h fv v) (y:c.rl ρ h rs vs) (x:CR c.w n hd fv rs st o) (hf:A.frames=some (c.fenv::c.outer)) (hh:A.handled=hd) (h1:A.depth+n<recursionLimit) (h2:A.units+8*n+8<cLine) (hn:xU hd ρ h) :
  wpAny c.M A (PySem.call v vs) (QW c ρ h (QR c.rv o γ)) (EW c ρ h (ER o γ)) ⟨h,c.g,c.d,tk,c.os⟩:=by
 have s0:StoOk c.w (aE (c.fenv::c.outer)) ρ st h:=⟨ok.sto.len,ok.sto.nd,fun a m=>⟨fun q=>(c.cover a q).elim (ok.off_own m) (ok.off_rest m),(ok.sto.off a m).2⟩,ok.sto.reps,ok.sto.hid⟩
 refine wpAny_call (codeAny_mono (x A (c.fenv::c.outer) c.g c.d c.os ρ h tk v vs hf hh h1 h2 ok.mod ok.ff s0 yf y hn) fun r s' z=>?_)
 cases z with
 | ok h' t' ρ' r st' v b2 b3 b4 b5 b6=>
  obtain ⟨ok',sp⟩:=ok.back b2 b3 b4 b5
  exact ⟨h',t',ρ',γ,st',sp,ok',rfl,r,b6,rfl⟩
 | exc h' t' ρ' st' e k b2 b3 b4 b5 b7=>
  obtain ⟨ok',sp⟩:=ok.back b2 b3 b4 b5
  exact ⟨h',t',ρ',γ,st',e,k,.none,sp,ok',.inl rfl,b7,rfl,rfl⟩
theorem TR.call {fv:RV} {v:Value} {rs:List RV} {vs:List Value} {o:Out RV} (ok:Ok c ρ γ st h) (yf:c.rv ρ h fv v) (y:c.rl ρ h rs vs) (x:CR c.w c.n c.A.handled fv rs st o) :
  TR c c.rv ρ γ h tk (call v vs) o:=TR.callA ok yf y x c.afr rfl c.room c.units ok.hnd
noncomputable def isFn (w:World) (a:Addr):Prop:=∃o fd,(MH w).get? a=some o/\o.data=.func fd
theorem kW {w:World} {a:Addr} (x:isFn w a) {h:Heap} (k:kept w h) {M:Model}:Looks M h (keeperOf (.ref a)) .frame:=by
 obtain ⟨o,fd,ho,hd⟩:=x
 intro A Q E s hk q
 unfold keeperOf
 refine wpAny_bind (wpAny_loadPart (hk _ _ (k _ _ ho)) ?_)
 rw [hd]
 exact wpAny_pure q
theorem bo {f:Value} {l:List (Bool×Sem Value)} {M:Model} {A:Around} {E:Value->Shared->Prop} {s:Shared} {Q:Args->Shared->Prop} (hl:l.all (fun x=> !x.1)=true)
  (x:wpAny M A (spliced l) (fun vs s'=>Q ⟨vs,[]⟩ s') E s):wpAny M A (evalArgs f true l []) Q E s:=by
 cases l with
 | nil=>
  unfold evalArgs
  show wpAny M A (spliced [] >>= _) Q E s
  exact wpAny_bind (wpAny_mono x (fun vs s' h'=>wpAny_bind (wpAny_pure (wpAny_holding (wpAny_bind (wpAny_pure (wpAny_bind (wpAny_pure (wpAny_pure h')))))))) fun _ _ x=>x)
 | cons p r=>
  obtain ⟨b,t⟩:=p
  have hb:b=false:=by simpa using (List.all_eq_true.mp hl (b,t) (.head _))
  subst hb
  exact evalArgs_plain x
variable {x:Str} {np pos:Pos} {args:List Expr} {a:Addr}
theorem bM {l:List (Bool×Sem Value)} (h:l.all (fun x=> !x.1)=true):(l.any (·.1)||([]:List (Option Str×Sem Value)).any (·.1.isNone))=false:=by
 rw [List.any_nil,Bool.or_false]
 induction l with
 | nil=>rfl
 | cons p r ih=>
  rw [List.all_cons,Bool.and_eq_true] at h
  rw [List.any_cons,ih h.2]
  simpa using h.1
theorem EvR.fcall {n:Option (Out (List RV))} {F:List RV->ai->Option (Out RV)} {o:Out RV} (hm:aq n F=some o) (hf:EvR c γ st (.Name x np) (.ok (.stat a) st)) (hfn:isFn c.w a)
  (y:∀o,n=some o->ElR c γ st pos args o) (k:∀rs st o,F rs st=some o->CR c.w c.n c.A.handled (.stat a) rs st o)
  (hst:(backTo pos (starEach args c.env)).all (fun x=> !x.1)=true):EvR c γ st (.Call (.Name x np) args [] pos) o:=fun ρ h tk ok=>
 wpAny_Call_ofName (TR.known (hf ρ h tk ok) .refl fun v ρQ h₁ tkQ ok₁ sp₁ _ yf=>by
  apply yf.elim
  refine callWith_of (P:=kept c.w) (bM hst) (fun h k=>⟨_,.inl rfl,kW hfn k⟩) (bo hst ?_)
  exact TR.seq hm (fun o e=>y o e ρQ h₁ tkQ ok₁) sp₁ fun rs vs ρ₂ st₂ h₂ tkJ hmQ ok₂ sp₂ _ yr=>⟨ok₂.mod,(TR.call ok₂ (.stat a) yr (k _ _ _ hmQ)).from sp₂⟩)
theorem EvR.bcall {id:String} {n:Option (Out (List RV))} {F:List RV->ai->Option (Out RV)} {o:Out RV} (hm:aq n F=some o) (hf:EvR c γ st (.Name x np) (.ok (.bi id) st)) (y:∀o,n=some o->ElR c γ st pos args o)
  (k:∀rs st₁ o,F rs st₁=some o->∀ρ h tk vs,Ok c ρ γ st₁ h->c.rl ρ h rs vs->TR c c.rv ρ γ h tk (call (.builtin id) vs) o)
  (hst:(backTo pos (starEach args c.env)).all (fun x=> !x.1)=true):EvR c γ st (.Call (.Name x np) args [] pos) o:=fun ρ h tk ok=>
 wpAny_Call_ofName (TR.known (hf ρ h tk ok) .refl fun v ρQ h₁ tkQ ok₁ sp₁ _ yf=>by
  apply yf.elim
  refine callWith_builtin (by have:=bM hst;simpa using this) (bo hst ?_)
  exact TR.seq hm (fun o e=>y o e ρQ h₁ tkQ ok₁) sp₁ fun rs vs ρ₂ st₂ h₂ tkJ hmQ ok₂ sp₂ _ yr=>(k _ _ _ hmQ _ _ _ _ ok₂ yr).from sp₂)
end
structure FnAt (w:World) (a:Addr) (params more:List Str) (body:List Stmt) where
 fd:FuncData
 o:Obj
 there:(MH w).get? a=some o
 data:o.data=.func fd
 hbody:fd.body=.stmts body
 rec_:(MH w).CodeRec fd.code fd.qualname
 dv:List Value
 dr:List RV
 drep:∀ρ h,RepL ρ h dr dv
 binds:∀(s:Shared) (vs:List Value),kept w s.heap->vs.length+dv.length=params.length->BindsTo s fd ⟨vs,[]⟩ (params.zip (vs++dv))
 clo:fd.closure=[]
 gl:fd.globals=mainGlobals
 bl:fd.builtins=builtinsNs
 co:fd.scope.isCoroutine=false
 gen:fd.scope.isGenerator=false
 kind:fd.scope.kind=.function
 lk:∀x∈params++more,(x==("__debug__":Str))=false/\(fd.scope.names.lookup x=some .local\/fd.scope.names.lookup x=some .cell)
 nd:(params++more).Nodup
 ndc:((fd.scope.names.filter (·.2==.cell)).map (·.1)).Nodup
theorem b0 {x:Str}:∀{names:List (Str×NameKind)} {n:Nat} {acc:List (Str×Addr)},((x,NameKind.cell)∈names\/∃a,acc.lookup x=some a)->∃a,(cellsFrom n names acc).lookup x=some a
 | [],_,_,h=>h.elim (fun h=>by exact fx h) id
 | (y,k)::r,n,acc,h=>by
  show ∃a,(if k==.cell then cellsFrom (n+1) r ((y,n)::acc) else cellsFrom n r acc).lookup x=some a
  by_cases q:(k==.cell)=true
  ·rw [if_pos q]
   refine b0 ?_
   by_cases z:x=y
   ·exact .inr ⟨n,by simp [z]⟩
   ·have zb:(x==y)=false:=beq_eq_false_iff_ne.mpr z
    rcases h with h | ⟨a,h⟩
    ·rcases List.mem_cons.mp h with h | h
     ·cases h;exact absurd rfl z
     ·exact .inl h
    ·exact .inr ⟨a,by rw [List.lookup_cons,zb];exact h⟩
  ·rw [if_neg q]
   refine b0 ?_
   rcases h with h | h
   ·rcases List.mem_cons.mp h with h | h
    ·cases h;exact absurd rfl q
    ·exact .inl h
   ·exact .inr h
theorem fJ:∀{names:List (Str×NameKind)} {n:Nat} {acc:List (Str×Addr)},(cellsFrom n names acc).map (·.1)=((names.filter (·.2==.cell)).map (·.1)).reverse++acc.map (·.1)
 | [],_,_=>rfl
 | (y,k)::r,n,acc=>by
  show (if k==.cell then cellsFrom (n+1) r ((y,n)::acc) else cellsFrom n r acc).map (·.1)=_
  by_cases q:(k==.cell)=true
  ·rw [if_pos q,fJ,List.filter_cons_of_pos (by exact q)]
   simp
  ·rw [if_neg q,fJ,List.filter_cons_of_neg (by exact q)]
theorem ds {x:Str} {a:Addr}:∀{l:List (Str×Addr)},(l.map (·.1)).Nodup->(x,a)∈l->l.lookup x=some a
 | (y,b)::r,nd,h=>by
  have nd':=List.nodup_cons.mp (show (y::r.map (·.1)).Nodup from nd)
  rcases List.mem_cons.mp h with h | h
  ·cases h;simp
  ·have:(x==y)=false:=beq_eq_false_iff_ne.mpr fun q=>nd'.1 (q▸List.mem_map_of_mem (f:=(·.1)) h)
   rw [List.lookup_cons,this]
   exact ds nd'.2 h
theorem kA {kindOf:Str->Option NameKind} {x:Str}:∀{binds:List (Str×Value)} {m:Str->Option Value},x∉binds.map (·.1)->bindL kindOf binds m x=m x
 | [],_,_=>rfl
 | (n,v)::r,m,h=>by
  have h':x≠n/\x∉r.map (·.1):=⟨fun q=>h (q▸List.Mem.head _),fun q=>h (.tail _ q)⟩
  show bindL kindOf r _ x=_
  rw [kA h'.2]
  by_cases q:kindOf n=some .local
  ·simp [q,h'.1]
  ·simp [q]
theorem kL {kindOf:Str->Option NameKind} {x:Str}:∀{binds:List (Str×Value)} {m:Str->Option Value},x∉binds.map (·.1)->bindC kindOf binds m x=m x
 | [],_,_=>rfl
 | (n,v)::r,m,h=>by
  have h':x≠n/\x∉r.map (·.1):=⟨fun q=>h (q▸List.Mem.head _),fun q=>h (.tail _ q)⟩
  show bindC kindOf r _ x=_
  rw [kL h'.2]
  by_cases q:kindOf n=some .local
  ·simp [q]
  ·simp [q,h'.1]
theorem nB {kindOf:Str->Option NameKind} {x:Str} {v:Value} (hk:kindOf x=some .local):∀{binds:List (Str×Value)} {m:Str->Option Value},(binds.map (·.1)).Nodup->(x,v)∈binds->bindL kindOf binds m x=some v
 | (n,u)::r,m,nd,h=>by
  have nd':=List.nodup_cons.mp (show (n::r.map (·.1)).Nodup from nd)
  show bindL kindOf r _ x=_
  rcases List.mem_cons.mp h with h | h
  ·cases h
   rw [kA nd'.1]
   simp [hk]
  ·exact nB hk nd'.2 h
theorem mj {kindOf:Str->Option NameKind} {x:Str} {v:Value} (hk:kindOf x=some .cell):∀{binds:List (Str×Value)} {m:Str->Option Value},(binds.map (·.1)).Nodup->(x,v)∈binds->bindC kindOf binds m x=some v
 | (n,u)::r,m,nd,h=>by
  have nd':=List.nodup_cons.mp (show (n::r.map (·.1)).Nodup from nd)
  show bindC kindOf r _ x=_
  rcases List.mem_cons.mp h with h | h
  ·cases h
   rw [kL nd'.1]
   simp [hk]
  ·exact mj hk nd'.2 h
theorem lT {α β:Type}:∀{l:List α} {r:List β},r.length=l.length->(l.zip r).map (·.1)=l
 | [],[],_=>rfl
 | a::l,b::r,h=>by simp [lT (l:=l) (r:=r) (by simpa using h)]
theorem pd {α β:Type}:∀{l:List α} {r:List β} {i:Nat} {a:α} {b:β},l[i]? = some a->r[i]? = some b->(a,b)∈l.zip r
 | [],_,_,_,_,h,_=>by simp at h
 | _::_,[],_,_,_,_,h=>by simp at h
 | x::l,y::r,0,a,b,h1,h2=>by simp at h1 h2;subst h1 h2;exact .head _
 | x::l,y::r,i+1,a,b,h1,h2=>by simp at h1 h2;exact .tail _ (pd h1 h2)
inductive SOut where
 | next (γ:Lo) (st:ai)
 | ret (r:RV) (st:ai)
 | exc (k:Str) (γ:Lo) (st:ai)
noncomputable def SOut.fin:SOut->Out RV
 | .next _ st=>.ok .none st
 | .ret r st=>.ok r st
 | .exc k _ st=>.exc k st
noncomputable def SR (c:Cx) (γ:Lo) (st:ai) (l:List Stmt) (o:SOut):Prop:=
 ∀ρ h tk,Ok c ρ γ st h->W c ρ h tk (execs l c.env) (fun fl ρ' γ' st' h'=>match fl with | .next=>o=.next γ' st' | .ret v=>∃r,c.rv ρ' h' r v/\o=.ret r st' | _=>False) (fun k γ' st'=>o=.exc k γ' st')
set_option backward.match.sparseCases true in
theorem call_cells {prog:Program} {w:World} {A:Around} {s:Shared} {R:Result->Shared->Prop} {a:Addr} {o:Obj} {fd:FuncData} {body:List Stmt} {vals:List Value} {binds:List (Str×Value)}
  (hroom:A.depth<recursionLimit) (ho:s.heap.get? a=some o) (hdata:o.data=.func fd) (hlim:s.heap.NoLimit) (hcd:s.heap.CodeRec fd.code fd.qualname)
  (hbody:fd.body=.stmts body) (hbind:BindsTo s fd ⟨vals,[]⟩ binds) (hclo:fd.closure=[])
  (hkind:∀x∈binds,fd.scope.names.lookup x.1=some .local\/(fd.scope.names.lookup x.1=some .cell/\((cellsFrom (s.heap.objs.size+1) fd.scope.names []).lookup x.1).isSome=true))
  (h:∀s₁,InCallC s (callEnvC fd s.heap.objs.size a).locals (bindL (callEnvC fd s.heap.objs.size a).kindOf binds fun _=>none) (callEnvC fd s.heap.objs.size a).cells
    (bindC (callEnvC fd s.heap.objs.size a).kindOf binds fun _=>none) s₁->
   wpAny (model prog w) (A.deeper (callEnvC fd s.heap.objs.size a)) (execs body (callEnvC fd s.heap.objs.size a)) (fun f s'=>R (.ok (.ret (match f with | .ret v=>v | _=>.none))) s')
    (fun e s'=>wpAny (model prog w) (A.deeper (callEnvC fd s.heap.objs.size a)) (leaving (callEnvC fd s.heap.objs.size a) e) (fun _ s''=>R (.error e) s'') (fun e' s''=>R (.error e') s'') s') s₁)
  (hco:fd.scope.isCoroutine=false) (hgen:fd.scope.isGenerator=false) (hk:fd.scope.kind=.function) :
  codeAny (model prog w) A (.call (.ref a) ⟨vals,[]⟩) R s:=by
 refine codeAny_call_function hroom ho hdata hco hgen hbody hcd (hbind _ _ _ _ ?_)
 rw [hclo]
 refine wpAny_newFunctionEnv_cells hk hkind fun env he s' x=>?_
 subst he
 exact ⟨hlim.keeps x.toInCall.keep,codeAny_func (h s' x)⟩
noncomputable def Aj {w:World} {a:Addr} {params more:List Str} {body:List Stmt} (F:FnAt w a params more body) (A:Around) (envs:List Env) (g:Array GenState) (d:Drawn) (os:OsState) (n L:Nat)
  (hfr:A.frames=some envs) (hd:A.depth+(n+1)<recursionLimit) (hu:A.units+8*(n+1)+8<cLine) (hap:(callEnvC F.fd L a).cells.Pairwise fun x y=>x.2≠y.2)
  (hab:∀n c,(n,c)∈(callEnvC F.fd L a).cells->L<c) (hL:∀b∈ownOf (callEnvC F.fd L a),b∉aE envs):Cx where
 w:=w
 A:=A.deeper (callEnvC F.fd L a)
 env:=callEnvC F.fd L a
 fenv:=callEnvC F.fd L a
 outer:=envs
 g:=g
 d:=d
 os:=os
 n:=n
 names:=params++more
 own:=ownOf (callEnvC F.fd L a)
 rest:=aE envs
 afr:=Around.frames_deeper hfr
 kind:=F.kind
 frame:=rfl
 fframe:=rfl
 egl:=F.gl
 ebl:=F.bl
 lk:=fun x hx=>⟨(F.lk x hx).1,(F.lk x hx).2.elim .inl fun k=>.inr ⟨k,b0 (.inl (mem_of_lookup k))⟩⟩
 nd:=F.nd
 room:=by show A.depth+1+n<_;lia
 units:=by show A.units+3+8*n+8<_;lia
 apart:=hap
 above:=fun n c m=>Nat.ne_of_gt (hab n c m)
 L_own:=List.Mem.head _
 cells_in:=fun x b e=>.inl (List.Mem.tail _ (List.mem_map_of_mem (f:=(·.2)) (mem_of_lookup e)))
 cover:=fun b m=>List.mem_append.mp m
 rest_fr:=fun b m=>List.mem_append_right _ m
 fresh:=hL
theorem CR.enter {w:World} {a:Addr} {params more:List Str} {body:List Stmt} {n:Nat} {hd:Option Value} {rs:List RV} {st:ai} {so:SOut}
  (F:FnAt w a params more body) (hlim:(MH w).NoLimit) (hrs:(rs++F.dr).length=params.length)
  (hb:∀c:Cx,c.w=w->c.A.handled=hd->c.n=n->c.names=params++more->c.Full->(∀x,c.env.kindOf x=F.fd.scope.names.lookup x)->SR c ((rs++F.dr).map some++more.map fun _=>none) st body so) :
  CR w (n+1) hd (.stat a) rs st so.fin:=fun A envs g d os ρ h tk v vs a1 a2 a3 a4 a5 a6 a7 af a8 a9=>by
 cases af
 have a8':=a8.append (F.drep ρ h)
 have hvl:(vs++F.dv).length=params.length:=a8'.length.trans hrs
 have hbi:BindsTo ⟨h,g,d,tk,os⟩ F.fd ⟨vs,[]⟩ (params.zip (vs++F.dv)):=F.binds _ vs a5 (by rw [<-List.length_append];exact hvl)
 generalize vs++F.dv=us at a8' hvl hbi
 generalize rs++F.dr=ts at a8' hrs hb
 have ndp:params.Nodup:=(List.nodup_append.mp F.nd).1
 have hnew:∀b,h.objs.size<=b->h.get? b=none:=fun b hb=>Heap.get?_none_of_le hb
 have hfrN:∀b,h.get? b=none->b∉aE envs:=fun b hb m=>by
  obtain ⟨_,o,e,_⟩:=a6.at_ b m;rw [hb] at e;cases e
 have hMN:∀b,h.get? b=none->(MH w).get? b=none:=fun b hb=>by
  cases q:(MH w).get? b with
  | none=>rfl
  | some o=>have:=a5 _ o q;rw [hb] at this;cases this
 have hρN:∀b,h.get? b=none->b∉ρ.vis:=fun b hb m=>by
  obtain ⟨ob,e⟩:=a7.there m;rw [hb] at e;cases e
 refine call_cells (fd:=F.fd) (body:=body) (binds:=params.zip us) (by lia) (a5 _ _ F.there) F.data (hlim.keeps a5) (F.rec_.keeps a5) F.hbody hbi F.clo (fun x hx=>?_)
  (fun s₁ x=>?_) F.co F.gen F.kind
 ·rcases (F.lk x.1 (List.mem_append_left _ (List.of_mem_zip hx).1)).2 with k | k
  ·exact .inl k
  ·exact .inr ⟨k,by obtain ⟨a,e⟩:=b0 (n:=h.objs.size+1) (acc:=[]) (.inl (mem_of_lookup k));rw [e];rfl⟩
 obtain ⟨h₀,tkE,hs₁⟩:=x.toInCall.same
 subst hs₁
 have hk:∀b o,h.get? b=some o->h₀.get? b=some o:=x.toInCall.keep
 have hownE:ownOf (callEnvC F.fd h.objs.size a)=h.objs.size::(callEnvC F.fd h.objs.size a).cells.map (·.2):=rfl
 have hown:∀b∈ownOf (callEnvC F.fd h.objs.size a),h.get? b=none:=fun b m=>by
  rw [hownE] at m
  rcases List.mem_cons.mp m with q | m
  ·rw [q];exact hnew _ (Nat.le_refl _)
  ·obtain ⟨p,hp,q⟩:=List.mem_map.mp m
   rw [<-q]
   exact hnew _ (Nat.le_of_lt (x.above p.1 p.2 hp))
 have hownD:∀b∈ownOf (callEnvC F.fd h.objs.size a),∃o,h₀.get? b=some o/\Dull o:=fun b m=>by
  rw [hownE] at m
  rcases List.mem_cons.mp m with q | m
  ·rw [q]
   obtain ⟨oL,es,ep,e1,e2,_⟩:=x.toInCall.ns
   exact ⟨oL,e1,.dict e2⟩
  ·obtain ⟨p,hp,q⟩:=List.mem_map.mp m
   rw [<-q]
   have hnd:((callEnvC F.fd h.objs.size a).cells.map (·.1)).Nodup:=by
    show ((cellsFrom (h.objs.size+1) F.fd.scope.names []).map (·.1)).Nodup
    rw [fJ]
    simpa using (List.reverse_perm _).nodup_iff.mpr F.ndc
   obtain ⟨o,e,d⟩:=x.cell p.1 p.2 (ds hnd hp)
   exact ⟨o,e,.cell d⟩
 generalize hc:Aj F A envs g d os n h.objs.size a1 a3 a4 x.apart x.above (fun b m=>hfrN b (hown b m))=c
 have cw:c.w=w:=by rw [<-hc];rfl
 have cA:c.A=A.deeper (callEnvC F.fd h.objs.size a):=by rw [<-hc];rfl
 have ce:c.env=callEnvC F.fd h.objs.size a:=by rw [<-hc];rfl
 have cf:c.fenv=callEnvC F.fd h.objs.size a:=by rw [<-hc];rfl
 have co:c.outer=envs:=by rw [<-hc];rfl
 have cl:c.names=params++more:=by rw [<-hc];rfl
 have cL:c.L=h.objs.size:=by rw [<-hc];rfl
 have cO:c.own=ownOf (callEnvC F.fd h.objs.size a):=by rw [<-hc];rfl
 have cR:c.rest=aE envs:=by rw [<-hc];rfl
 have cg:c.g=g:=by rw [<-hc];rfl
 have cd:c.d=d:=by rw [<-hc];rfl
 have cos:c.os=os:=by rw [<-hc];rfl
 have cF:c.Full:=by
  rw [<-hc]
  exact ⟨fun x b e=>List.Mem.tail _ (List.mem_map_of_mem (f:=(·.2)) (mem_of_lookup e)),rfl⟩
 have key:=hb c cw (by rw [cA];exact a2) (by rw [<-hc];rfl) cl cF (fun y=>by rw [ce];rfl)
 clear hb
 have kz:∀b o,Off ρ b->h.get? b=some o->be o->Off ρ b/\h₀.get? b=some o:=fun b o f e _=>⟨f,hk _ _ e⟩
 have ok:Ok c ρ (ts.map some++more.map fun _=>none) st h₀:=by
  refine ⟨by rw [cl];simp [hrs],⟨_,by rw [cL];exact x.toInCall.ns,?_⟩,fun y b e=>⟨_,x.cell y b (by rw [<-ce];exact e)⟩,⟨a7.len,a7.nd,fun b m=>⟨fun q=>?_,by rw [cw];exact (a7.off b m).2⟩,fun i b o e1 e2=>?_,fun b m=>let ⟨q1,q2,o,q3,q4⟩:=a7.hid b m;⟨q1,by rw [cw];exact q2,o,hk _ _ q3,q4⟩⟩,
   by rw [cw];exact fun b o e=>hk _ _ (a5 b o e),?_,fun b m=>?_,fun x hx=>?_⟩
  ·intro i y r h1 h2
   rw [cl] at h1
   by_cases q:i<params.length
   ·rw [List.getElem?_append_left q] at h1
    rw [List.getElem?_append_left (by simpa [hrs] using q),List.getElem?_map] at h2
    obtain ⟨r',h3,h4⟩:=Option.map_eq_some_iff.mp h2
    cases h4
    obtain ⟨v,hv,yv⟩:=a8'.get h3
    have hz:=pd h1 hv
    refine ⟨v,?_,yv.mono Pre.refl.1 kz⟩
    rcases (F.lk y (List.mem_append_left _ (List.mem_of_getElem? h1))).2 with k | k
    ·exact .inl ⟨by rw [ce];exact k,nB k (by rw [lT hvl];exact ndp) hz⟩
    ·obtain ⟨b,e⟩:=b0 (n:=h.objs.size+1) (acc:=[]) (.inl (mem_of_lookup k))
     refine .inr ⟨by rw [ce];exact k,b,by rw [ce];exact e,?_⟩
     have:=x.cell y b e
     rw [mj k (by rw [lT hvl];exact ndp) hz] at this
     exact this
   ·rw [List.getElem?_append_right (by simp [hrs];lia),List.getElem?_map] at h2
    obtain ⟨r',h3,h4⟩:=Option.map_eq_some_iff.mp h2
    cases h4
  ·rw [cO,cR] at q
   rcases List.mem_append.mp q with q | q
   ·obtain ⟨ob,e⟩:=a7.there m;rw [hown b q] at e;cases e
   ·exact (a7.off b m).1 q
  ·rw [cw]
   exact (a7.reps i b o e1 e2).mono Pre.refl.1 kz fun o e=>hk b o e
  ·rw [cw,cf,co]
   refine ⟨⟨by show F.fd.scope.kind≠_;rw [F.kind];decide,⟨h.objs.size,?_⟩,ey (fun b hb o e nf=>⟨o,hk _ _ e,nf⟩) a6.ff⟩,fun b m=>?_⟩
   ·obtain ⟨oL,e1,e2⟩:=hownD h.objs.size (List.Mem.head _)
    exact ⟨oL,rfl,hMN _ (hnew _ (Nat.le_refl _)),e1,e2.1⟩
   ·rcases List.mem_append.mp m with m | m
    ·exact ⟨hMN b (hown b m),hownD b m⟩
    ·obtain ⟨b1,o,e,nf⟩:=a6.at_ b m
     exact ⟨b1,o,hk _ _ e,nf⟩
  ·rw [cO] at m
   rw [cw]
   exact ⟨hMN b (hown b m),hownD b m⟩
  ·obtain ⟨a,oe,vs,e1,e2,e3,e4⟩:=a9 x (by rw [<-a2];rw [cA] at hx;exact hx)
   exact ⟨a,oe,vs,e1,e2,hk _ _ e3,e4⟩
 have run:=key ρ h₀ tkE ok
 unfold W at run
 rw [cA,ce,show c.M=model pw w by show model pw c.w=_;rw [cw],cg,cd,cos] at run
 have back:∀{h':Heap} {ρ':Pl} {γ':Lo} {st':ai},c.Step ρ h₀ ρ' h'->Ok c ρ' γ' st' h'->Step [] (aE envs) ρ h ρ' h'/\kept w h'/\Frs w envs h'/\StoOk w (aE envs) ρ' st' h':=fun {h' ρ' γ' st'} sp ok'=>by
  refine ⟨⟨sp.pre,fun b o s _ n e=>sp.keep b o s (fun m=>?_) (by rw [cR];exact n) (hk _ _ e),fun b o s q e=>sp.seqs b o s q (hk _ _ e),fun b hb o e=>sp.outs b (by rw [cR];exact hb) o (hk _ _ e),fun b o e=>sp.alive b o (hk _ _ e)⟩,by rw [<-cw];exact ok'.mod,?_,
   ⟨ok'.sto.len,ok'.sto.nd,fun b m=>⟨fun q=>ok'.off_rest m (by rw [cR];exact q),by rw [<-cw];exact (ok'.sto.off b m).2⟩,fun i b o e1 e2=>by rw [<-cw];exact ok'.sto.reps i b o e1 e2,fun b m=>⟨(ok'.sto.hid b m).1,by rw [<-cw];exact (ok'.sto.hid b m).2.1,(ok'.sto.hid b m).2.2⟩⟩⟩
  ·rw [cO] at m;rw [hown b m] at e;cases e
  ·have:=ok'.ff
   rw [cw,cf,co] at this
   exact ⟨this.ff.2.2,fun b m=>this.at_ b (List.mem_append_right _ m)⟩
 refine wpAny_mono run (fun fl s' z=>?_) fun x s' z=>?_
 ·obtain ⟨h',t',ρ',γ',st',sp,ok',q⟩:=z
  obtain ⟨b1,b2,b3,b4⟩:=back sp ok'
  rw [cg,cd,cos]
  cases fl with
  | next=>rw [show so=_ from q];exact .ok h' t' ρ' .none st' _ b1 b2 b3 b4 .none
  | ret v=>
   obtain ⟨r,y,q⟩:=q
   rw [q]
   exact .ok h' t' ρ' r st' _ b1 b2 b3 b4 y
  | brk=>exact q.elim
  | cont=>exact q.elim
 ·obtain ⟨h',t',ρ',γ',st',e,k,fl,sp,ok',e3,e4,q⟩:=z
  rw [cg,cd,cos,show so=_ from q]
  obtain ⟨b1,b2,b3,b4⟩:=back sp ok'
  obtain ⟨T,d',t,hcode,n1,n2,n3,s1,s2,s3⟩:=e4
  obtain ⟨oe,vse,oT,ts,x1,x2,x3,x4,x5,x7,x8⟩:=t.at
  have ff:=ok'.ff
  rw [cw,cf,co] at ff
  have e3':fl=.none\/fl=rawInt h.objs.size:=by
   have:c.fenv.locals=h.objs.size:=by rw [cf];rfl
   rw [<-this];exact e3
  have old:∀b,h₀.get? b=none->h.get? b=none:=fun b hb=>by
   cases q:h.get? b with
   | none=>rfl
   | some o=>have:=hk _ _ q;rw [hb] at this;cases this
  have nfe:∀b o,h'.get? b=some o->(∀vs,o.data≠.fields vs)->b≠e/\b≠T:=fun b o eb nf=>
   ⟨fun q=>by rw [q,x1] at eb;cases eb;exact nf _ x4,fun q=>by rw [q,x7] at eb;cases eb;exact nf _ x8⟩
  have hnf:∀b,b∉aE envs->(h.get? b≠none\/b∉c.own)->b∉aE (callEnvC F.fd h.objs.size a::envs):=fun b n1 n2 m=>by
   rcases List.mem_append.mp m with m | m
   ·rcases n2 with n2 | n2
    ·exact n2 (hown b m)
    ·exact n2 (by rw [cO];exact m)
   ·exact n1 m
  have nρ:∀b∈ρ'.vis,b≠e/\b≠T:=fun b m=>⟨fun q=>s1 (q▸m),fun q=>s2 (q▸m)⟩
  refine leave (s:=⟨h',g,d,t',os⟩) (w:=w) (Around.frames_deeper a1) ff rfl t e3' fun h₂ T' hT' t₂ k1 k2 k3=>?_
  have ks:∀b o,h'.get? b=some o->be o->h₂.get? b=some o:=fun b o e q=>by
   have nf:∀vs,o.data≠.fields vs:=fun vs z=>by obtain ⟨_,_,y⟩:=q;rw [y] at z;cases z
   refine k1 b o (fun m=>?_) (nfe b o e nf).1 (nfe b o e nf).2 e
   obtain ⟨_,o',e',d⟩:=ff.at_ b m
   rw [e] at e';cases e';exact d.2 q
  refine .exc h₂ t' ρ' st' e k ⟨b1.pre,fun b o s _ n eb=>?_,fun b o s q eb=>?_,fun b hb o eb=>?_,fun b o eb=>?_⟩ (fun b o eb=>?_) ?_ ⟨b4.len,b4.nd,b4.off,fun i b o e1 e2=>?_,fun b m=>⟨(b4.hid b m).1,(b4.hid b m).2.1,(b4.hid b m).2.2.imp fun o y=>⟨ks b o y.1 y.2,y.2⟩⟩⟩ ⟨T',d',.inl t₂,?_,old _ n1,?_,old _ n3,s1,?_,s3⟩
  ·obtain ⟨z1,z2⟩:=b1.keep b o s (by simp) n eb
   refine ⟨k1 b o (hnf b n (.inl (by rw [eb];exact Option.some_ne_none _))) (fun q=>?_) (fun q=>?_) z1,z2⟩
   ·rw [q,old _ n1] at eb;cases eb
   ·rw [q,old _ n2] at eb;cases eb
  ·obtain ⟨z1,z2⟩:=b1.seqs b o s q eb
   exact ⟨ks b o z1 q,z2⟩
  ·obtain ⟨sl,z⟩:=b1.outs b hb o eb
   obtain ⟨_,o',eo,nf⟩:=b3.at_ b hb
   rw [z] at eo
   cases eo
   obtain ⟨sl',z'⟩:=k2 b _ (nfe b _ z nf.1).1 (nfe b _ z nf.1).2 z
   exact ⟨sl',z'⟩
  ·obtain ⟨o',z⟩:=b1.alive b o eb
   exact k3 b o' z
  ·have zb:=b2 b o eb
   have hb0:=a5 b o eb
   have hbf:b∉aE envs:=fun m=>by have:=(b3.at_ b m).1;rw [eb] at this;cases this
   refine k1 b o (hnf b hbf (.inl (by rw [hb0];exact Option.some_ne_none _))) (fun q=>?_) (fun q=>?_) zb
   ·rw [q,old _ n1] at hb0;cases hb0
   ·rw [q,old _ n2] at hb0;cases hb0
  ·refine b3.mono fun b hb o eb nf=>?_
   obtain ⟨sl,z⟩:=k2 b o (nfe b o eb nf.1).1 (nfe b o eb nf.1).2 eb
   exact ⟨_,z,nf⟩
  ·have:=ok'.sto.reps i b o e1 e2
   rw [cw] at this
   have hm:=List.mem_of_getElem? e1
   refine this.mono Pre.refl.1 (fun b o f e q=>⟨f,ks b o e q⟩) fun o e=>k1 b o (hnf b (fun m=>ok'.off_rest hm (by rw [cR];exact m)) (.inr (ok'.off_own hm))) (nρ b hm).1 (nρ b hm).2 e
  ·obtain ⟨od,es,nn,tt,y1,y2,y3,y4,y5⟩:=hcode
   have nf:∀vs,od.data≠.fields vs:=fun vs q=>by rw [y2] at q;cases q
   obtain ⟨sl,z⟩:=k2 d' od (nfe _ _ y1 nf).1 (nfe _ _ y1 nf).2 y1
   exact ⟨_,es,nn,tt,z,y2,y3,y4,y5⟩
  ·rcases hT' with rfl | z
   ·exact old _ n2
   ·exact b1.old z
  ·rcases hT' with rfl | z
   ·exact s2
   ·intro m
    obtain ⟨ob,e⟩:=ok'.sto.there m
    have z':h'.get? T'=none:=z
    rw [z'] at e;cases e
theorem dN {h:Heap} {a:Addr} {xs:Array Value} {n:Nat} (x:h.get? a=some { cls:=.type "list",dict:=none,data:=.seq xs n,slots:= #[] }):h.IsList a xs:=⟨_,x,rfl,n,rfl⟩
noncomputable def jf (r:RV) (st:ai):Option (Out Bool):=r.asBool.map fun b=>.ok b st
noncomputable def zS (b:Bool) (st:ai):Option (Out RV):=some (.ok (.bool b) st)
section
variable {c:Cx} {γ:Lo} {st:ai} {e l r t:Expr} {pos:Pos} {es:List Expr}
theorem EtR.plain {m:Option (Out RV)} {o:Out Bool} (hm:aq m jf=some o) (x:∀o,m=some o->EvR c γ st e o)
  (he:isTrue e c.env (eval e c.env)=(do let v<-eval e c.env;standAt e.pos;holding [v] (truthy v))):EtR c γ st e o:=fun ρ h tk ok=>
 isTrue_plain (he:=he) (TR.seq hm (fun o e=>x o e ρ h tk ok) .refl fun r v ρQ st₁ h₁ tkQ hmJ ok₁ sp₁ _ y=>by
  obtain ⟨b,hb,e⟩:=Option.map_eq_some_iff.mp hmJ
  subst e
  rw [cQ hb] at y
  apply y.elim
  exact wpAny_truthy_bool (TR.ends sp₁ ok₁ rfl))
theorem EvR.not {m:Option (Out RV)} {o:Out RV} (hm:aq m (fun r st₁=>aq (jf r st₁) fun b st₂=>zS (!b) st₂)=some o) (x:∀o,m=some o->EvR c γ st l o):EvR c γ st (.UnaryOp .Not l pos) o:=fun ρ h tk ok=>
 wpAny_UnaryOp (TR.seq hm (fun o e=>x o e ρ h tk ok) .refl fun r v ρQ st₁ h₁ tkQ hmJ ok₁ sp₁ _ y=>by
  obtain ⟨q,e,k1,-⟩:=eF (P:=fun q=>(∀b s,q=.ok b s->o=.ok (.bool !b) s)/\True) hmJ (fun a s e=>⟨fun b s' e'=>by obtain ⟨e1,e2⟩:=jN e';subst e1 e2;exact (Option.some.inj e).symm,trivial⟩) fun k s e=>⟨fun b s' e'=>eu e'.symm,trivial⟩
  obtain ⟨b,hb,e'⟩:=Option.map_eq_some_iff.mp e
  rw [k1 b st₁ e'.symm]
  rw [cQ hb] at y
  apply y.elim
  exact not_of (wpAny_truthy_bool (TR.ends sp₁ ok₁ (.bool _))))
theorem EvR.ite {m:Option (Out Bool)} {f g:ai->Option (Out RV)} {o:Out RV} (hm:aq m (fun b st₁=>if b then f st₁ else g st₁)=some o)
  (x:∀o,m=some o->EtR c γ st t o) (y:∀st₁ o,f st₁=some o->EvR c γ st₁ l o) (z:∀st₁ o,g st₁=some o->EvR c γ st₁ r o):EvR c γ st (.IfExp t l r pos) o:=fun ρ h tk ok=>
 IfExp_ (TR.seq hm (fun o e=>x o e ρ h tk ok) .refl fun b b' ρQ st₁ h₁ tkQ hmJ ok₁ sp₁ _ e=>by
  cases e
  cases b with
  | true=>exact (y _ _ hmJ ρQ h₁ tkQ ok₁).from sp₁
  | false=>exact (z _ _ hmJ ρQ h₁ tkQ ok₁).from sp₁)
theorem EtR.ite {m:Option (Out Bool)} {f g:ai->Option (Out Bool)} {o:Out Bool} (hm:aq m (fun b st₁=>if b then f st₁ else g st₁)=some o)
  (x:∀o,m=some o->EtR c γ st t o) (y:∀st₁ o,f st₁=some o->EtR c γ st₁ l o) (z:∀st₁ o,g st₁=some o->EtR c γ st₁ r o):EtR c γ st (.IfExp t l r pos) o:=fun ρ h tk ok=>
 isTrue_IfExp (TR.seq hm (fun o e=>x o e ρ h tk ok) .refl fun b b' ρQ st₁ h₁ tkQ hmJ ok₁ sp₁ _ e=>by
  cases e
  cases b with
  | true=>exact (y _ _ hmJ ρQ h₁ tkQ ok₁).from sp₁
  | false=>exact (z _ _ hmJ ρQ h₁ tkQ ok₁).from sp₁)
theorem EtR.and {m:Option (Out Bool)} {f:ai->Option (Out Bool)} {o:Out Bool} (hm:aq m (fun b st₁=>if b then f st₁ else some (.ok false st₁))=some o)
  (x:∀o,m=some o->EtR c γ st e o) (y:∀st₁ o,f st₁=some o->EtR c γ st₁ (.BoolOp .And es pos) o):EtR c γ st (.BoolOp .And (e::es) pos) o:=fun ρ h tk ok=>
 PyProof.Rows.isTrue_and (TR.seq hm (fun o e=>x o e ρ h tk ok) .refl fun b b' ρQ st₁ h₁ tkQ hmJ ok₁ sp₁ _ e=>by
  cases e
  cases b with
  | true=>exact (y _ _ hmJ ρQ h₁ tkQ ok₁).from sp₁
  | false=>exact TR.ends' hmJ sp₁ ok₁ rfl)
theorem EtR.or {m:Option (Out Bool)} {f:ai->Option (Out Bool)} {o:Out Bool} (hm:aq m (fun b st₁=>if b then some (.ok true st₁) else f st₁)=some o)
  (x:∀o,m=some o->EtR c γ st e o) (y:∀st₁ o,f st₁=some o->EtR c γ st₁ (.BoolOp .Or es pos) o):EtR c γ st (.BoolOp .Or (e::es) pos) o:=fun ρ h tk ok=>
 PyProof.Rows.isTrue_or (TR.seq hm (fun o e=>x o e ρ h tk ok) .refl fun b b' ρQ st₁ h₁ tkQ hmJ ok₁ sp₁ _ e=>by
  cases e
  cases b with
  | true=>exact TR.ends' hmJ sp₁ ok₁ rfl
  | false=>exact (y _ _ hmJ ρQ h₁ tkQ ok₁).from sp₁)
theorem EtR.andNil:EtR c γ st (.BoolOp .And [] pos) (.ok true st):=fun ρ h tk ok=>isTrue_and_nil (TR.ends .refl ok rfl)
theorem EtR.orNil:EtR c γ st (.BoolOp .Or [] pos) (.ok false st):=fun ρ h tk ok=>isTrue_or_nil (TR.ends .refl ok rfl)
noncomputable def sy (f:ai->Option (Out RV)) (r:RV) (st:ai):Option (Out RV):=r.asBool.bind fun b=>if b then f st else some (.ok (.bool false) st)
noncomputable def zF (f:ai->Option (Out RV)) (r:RV) (st:ai):Option (Out RV):=r.asBool.bind fun b=>if b then some (.ok (.bool true) st) else f st
theorem EvR.and {e₂:Expr} {m:Option (Out RV)} {f:ai->Option (Out RV)} {o:Out RV} (hm:aq m (sy f)=some o)
  (x:∀o,m=some o->EvR c γ st e o) (y:∀st₁ o,f st₁=some o->EvR c γ st₁ (.BoolOp .And (e₂::es) pos) o):EvR c γ st (.BoolOp .And (e::e₂::es) pos) o:=fun ρ h tk ok=>
 BoolOp_and (TR.seq hm (fun o e=>x o e ρ h tk ok) .refl fun r v ρQ st₁ h₁ tkQ hmJ ok₁ sp₁ _ q=>by
  obtain ⟨b,hb,hmQ⟩:=Option.bind_eq_some_iff.mp hmJ
  rw [cQ hb] at q
  apply q.elim
  refine wpAny_truthy_bool ?_
  cases b with
  | true=>exact (y _ _ hmQ ρQ h₁ tkQ ok₁).from sp₁
  | false=>exact TR.ends' hmQ sp₁ ok₁ (.bool _))
theorem EvR.or {e₂:Expr} {m:Option (Out RV)} {f:ai->Option (Out RV)} {o:Out RV} (hm:aq m (zF f)=some o)
  (x:∀o,m=some o->EvR c γ st e o) (y:∀st₁ o,f st₁=some o->EvR c γ st₁ (.BoolOp .Or (e₂::es) pos) o):EvR c γ st (.BoolOp .Or (e::e₂::es) pos) o:=fun ρ h tk ok=>
 BoolOp_or (TR.seq hm (fun o e=>x o e ρ h tk ok) .refl fun r v ρQ st₁ h₁ tkQ hmJ ok₁ sp₁ _ q=>by
  obtain ⟨b,hb,hmQ⟩:=Option.bind_eq_some_iff.mp hmJ
  rw [cQ hb] at q
  apply q.elim
  refine wpAny_truthy_bool ?_
  cases b with
  | true=>exact TR.ends' hmQ sp₁ ok₁ (.bool _)
  | false=>exact (y _ _ hmQ ρQ h₁ tkQ ok₁).from sp₁)
theorem EvR.boolOne {op:BoolOp} {o:Out RV} (x:EvR c γ st e o):EvR c γ st (.BoolOp op [e] pos) o:=fun ρ h tk ok=>BoolOp_one (x ρ h tk ok)
theorem EvR.tup {k:Nat} {m:Option (Out (List RV))} {o:Out RV} (hm:aq m (fun l st₁=>if l.length<=100 then some (.ok (.tup l) st₁) else none)=some o) (x:∀o,m=some o->ElR c γ st pos es o) :
  EvR c γ st (.Tuple es k pos) o:=fun ρ h tk ok=>
 wpAny_Tuple_spliced (TR.seq hm (fun o e=>x o e ρ h tk ok) .refl fun l vs ρQ st₁ h₁ tkQ hmJ ok₁ sp₁ _ y=>by
  obtain ⟨q,hmQ⟩:=Option.ite_none_right_eq_some.mp hmJ
  ·refine ⟨by rw [y.length];exact Nat.le_trans q (by decide),?_⟩
   obtain ⟨ok₂,sp₂⟩:=ok₁.grow (h':=h₁.push { cls:=.type "tuple",data:=.seq vs.toArray }) fun b o e=>Heap.get?_push_of_some _ e
   exact TR.ends' hmQ (sp₁.trans sp₂) ok₂ (.tup (ok₁.free_new Heap.new_none) ⟨_,Heap.get?_push_size _ rfl,rfl,_,rfl⟩ (sp₂.repL y)))
theorem EvR.lst {m:Option (Out (List RV))} {o:Out RV} (hm:aq m (fun l st₁=>if l.length<=100 then some (.ok (.lst l) st₁) else none)=some o) (x:∀o,m=some o->ElR c γ st pos es o) :
  EvR c γ st (.List es pos) o:=fun ρ h tk ok=>
 wpAny_List_spliced (TR.seq hm (fun o e=>x o e ρ h tk ok) .refl fun l vs ρQ st₁ h₁ tkQ hmJ ok₁ sp₁ _ y=>by
  obtain ⟨q,hmQ⟩:=Option.ite_none_right_eq_some.mp hmJ
  ·refine ⟨by rw [y.length];exact Nat.le_trans q (by decide),?_⟩
   obtain ⟨ok₂,sp₂⟩:=ok₁.grow (h':=h₁.push { cls:=.type "list",data:=.seq vs.toArray }) fun b o e=>Heap.get?_push_of_some _ e
   exact TR.ends' hmQ (sp₁.trans sp₂) ok₂ (.lst (ok₁.free_new Heap.new_none) ⟨_,Heap.get?_push_size _ rfl,rfl,_,rfl⟩ (sp₂.repL y)))
theorem EvR.newlist {m:Option (Out (List RV))} {o:Out RV} (hm:aq m (fun l st₁=>if l.length<=100 then some (.ok (.obj st₁.length) (st₁++[.list l])) else none)=some o) (x:∀o,m=some o->ElR c γ st pos es o) :
  EvR c γ st (.List es pos) o:=fun ρ h tk ok=>
 wpAny_List_spliced (TR.seq hm (fun o e=>x o e ρ h tk ok) .refl fun l vs ρQ st₁ h₁ tkQ hmJ ok₁ sp₁ _ y=>by
  obtain ⟨q,hmQ⟩:=Option.ite_none_right_eq_some.mp hmJ
  ·refine ⟨by rw [y.length];exact Nat.le_trans q (by decide),?_⟩
   obtain ⟨ok₂,sp₂⟩:=ok₁.new (a:=h₁.objs.size) (o:=.list l) (h':=h₁.push { cls:=.type "list",data:=.seq vs.toArray }) Heap.new_none (fun b o e=>Heap.get?_push_of_some _ e)
    fun rp=>.list (Heap.get?_push_size _ rfl) (y.map rp)
   exact TR.ends' hmQ (sp₁.trans sp₂) ok₂ (.obj (by rw [<-ok₁.sto.len];exact Pl.snoc_at)))
end
noncomputable def lS (a:Int):Bool:=decide (a.natAbs<2^64)
noncomputable def ii (f:Int->Int->Option RV) (a b:RV):Option RV:=a.asInt.bind fun x=>b.asInt.bind fun y=>f x y
theorem oM {f:Int->Int->Option RV} {a b z:RV} (h:ii f a b=some z):∃x y,a=.int x/\b=.int y/\f x y=some z:=by
 obtain ⟨x,hx,h⟩:=Option.bind_eq_some_iff.mp h
 obtain ⟨y,hy,h⟩:=Option.bind_eq_some_iff.mp h
 exact ⟨x,y,aO hx,aO hy,h⟩
noncomputable def xY (a b:RV):Option RV:=match a with
 | .int x=>b.asInt.map fun y=>.int (x+y)
 | .str x=>b.asStr.bind fun y=>if x.length+y.length<=16777216 then some (.str (x++y)) else none
 | .lst x=>b.asLst.bind fun y=>if x.length+y.length<=16777216 then some (.lst (x++y)) else none
 | _=>none
noncomputable def wZ (a b:RV):Option RV:=match a with
 | .int x=>b.asInt.bind fun y=>if lS x||lS y then some (.int (x*y)) else none
 | .str x=>b.asInt.bind fun y=>if x.length<=2/\0<=y/\y<1000 then some (.str (Txt.mul x y)) else none
 | _=>none
noncomputable def binI (op:Operator) (a b:RV):Option RV:=
 match op with
 | .Add=>xY a b
 | .Sub=>ii (fun a b=>some (.int (a-b))) a b
 | .Mult=>wZ a b
 | .FloorDiv=>ii (fun a b=>if b≠0/\b.natAbs.log2<9000 then some (.int (a.fdiv b)) else none) a b
 | .Mod=>ii (fun a b=>if b≠0 then some (.int (a.fmod b)) else none) a b
 | .Pow=>ii (fun a b=>if lS a/\0<=b/\b<=1000000 then some (.int (a^b.toNat)) else none) a b
 | .LShift=>ii (fun a b=>if lS a/\0<=b/\b<=1000000 then some (.int (a*2^b.toNat)) else none) a b
 | _=>none
section
variable {c:Cx} {γ:Lo} {st:ai} {ρ ρ₀:Pl} {h h₀:Heap} {tk:Nat}
theorem pp {a b:Int} (h:(lS a||lS b)=true):IntMulOk a b:=by
 rcases Bool.or_eq_true .. |>.mp h with h | h
 ·exact IntMulOk.of_left (intBits_le_64 (by have:=of_decide_eq_true h;omega) (by have:=of_decide_eq_true h;omega))
 ·exact IntMulOk.of_right (intBits_le_64 (by have:=of_decide_eq_true h;omega) (by have:=of_decide_eq_true h;omega))
theorem jU {s:Shared} {A:Around} {prog:Program} {w:World} {E:Value->Shared->Prop} {l b:Addr} {vs ws:List Value} {Q:Value->Shared->Prop} (hl:s.heap.IsList l vs.toArray) (hb:s.heap.IsList b ws.toArray)
  (h:Q (.ref s.heap.objs.size) { s with heap:=s.heap.push { cls:=.type "list",data:=.seq (vs++ws).toArray } }) (hsz:vs.length+ws.length<=sizeLine) :
  wpAny (model prog w) A (binaryOp .Add (.ref l) (.ref b)) Q E s:=by
 obtain ⟨⟨cls,dd,data,sl⟩,ho,hc,n,hd⟩:=id hl
 obtain ⟨⟨cls2,dd2,data2,sl2⟩,ho2,hc2,n2,hd2⟩:=id hb
 simp only at hc hd hc2 hd2
 subst hc hd hc2 hd2
 have e:(vs.toArray++ws.toArray)=(vs++ws).toArray:=by simp
 refine concat_meets ⟨_,ho,rfl⟩ ⟨_,ho2,rfl⟩ noFill_list_add seq_list_add PySem.F.slot_list_add PySem.F.entry_list_add (PySem.F.args_list_add_2 _ _) (list_addW l b vs.toArray ws.toArray n n2 dd dd2 sl sl2 (by simpa using hsz)) ⟨ho,ho2,?_⟩
 rw [e]
 exact h
theorem mx {x:Str} {n:Int} (hx:x.length<=2) (h0:0<=n) (h1:n<1000):MulOk x n:=by
 refine ⟨by rw [Bool.or_eq_false_iff];exact ⟨decide_eq_false (by lia),decide_eq_false (by lia)⟩,fun h2 _=>?_,fun h2 _=>?_⟩
 ·have h3:(2:Int)<=(2^63-1)/n:=(Int.le_ediv_iff_mul_le (by omega)).mpr (by lia)
  lia
 ·have:x.length*n.toNat<=2*1000:=Nat.mul_le_mul hx (by lia)
  exact decide_eq_false (by show ¬ (x.length*n.toNat>2^24);lia)
theorem Op2.ints {op:Value->Value->Sem Value} {f:Int->Int->Option RV} {a b z:RV} (hz:ii f a b=some z) (k:∀ρ h tk x y t t',f x y=some z->Ok c ρ γ st h->TR c c.rv ρ γ h tk (op (.int x t) (.int y t')) (.ok z st)):Op2 c γ op a b st z:=fun ρ h tk v₁ v₂ ok y₁ y₂=>by
 obtain ⟨x,y,e1,e2,h3⟩:=oM hz
 rw [e1] at y₁
 rw [e2] at y₂
 apply y₁.elim
 intro t
 apply y₂.elim
 exact fun t'=>k ρ h tk x y t t' h3 ok
theorem Op2.map {op:Value->Value->Sem Value} {α:Type} {m:Option α} {f:α->RV} {a b z:RV} (hz:m.map f=some z) (k:∀x,m=some x->Op2 c γ op a b st (f x)):Op2 c γ op a b st z:=by
 obtain ⟨x,hx,e⟩:=Option.map_eq_some_iff.mp hz
 exact e▸k x hx
theorem Op2.if_ {op:Value->Value->Sem Value} {p:Prop} [Decidable p] {r a b z:RV} (hz:(if p then some r else none)=some z) (k:p->Op2 c γ op a b st r):Op2 c γ op a b st z:=by
 obtain ⟨q,e⟩:=Option.ite_none_right_eq_some.mp hz
 exact Option.some.inj e▸k q
theorem TR.if_ {p:Prop} [Decidable p] {r z:RV} {t:Sem Value} (hz:(if p then some r else none)=some z) (k:p->TR c c.rv ρ γ h tk t (.ok r st)):TR c c.rv ρ γ h tk t (.ok z st):=by
 obtain ⟨q,e⟩:=Option.ite_none_right_eq_some.mp hz
 exact Option.some.inj e▸k q
theorem uL {a b z:RV} (hz:xY a b=some z):Op2 c γ (binaryOp .Add) a b st z:=by
 cases a with
 | int x=>
  exact Op2.map hz fun y hy ρ h tk v₁ v₂ ok y₁ y₂=>by
   rw [aO hy] at y₂
   apply y₁.elim
   intro t
   apply y₂.elim
   exact fun t'=>P.add_int (TR.ends .refl ok (.int _ _))
 | str x=>
  obtain ⟨y,hy,hz⟩:=Option.bind_eq_some_iff.mp hz
  exact Op2.if_ hz fun hsz ρ h tk v₁ v₂ ok y₁ y₂=>by
   rw [bO hy] at y₂
   apply y₁.elim
   intro t
   apply y₂.elim
   exact fun t'=>SB.add (fun t' k=>TR.ends .refl (ok) (.str _ _)) hsz
 | lst x=>
  obtain ⟨y,hy,hz⟩:=Option.bind_eq_some_iff.mp hz
  exact Op2.if_ hz fun hsz ρ h tk v₁ v₂ ok y₁ y₂=>by
   rw [cj hy] at y₂
   apply y₁.elim
   intro a₁ vs₁ n₁ l₁ r₁
   apply y₂.elim
   intro a₂ vs₂ n₂ l₂ r₂
   refine jU l₁ l₂ ?_ (by rw [r₁.length,r₂.length];exact hsz)
   obtain ⟨ok₂,sp₂⟩:=ok.grow (h':=h.push { cls:=.type "list",data:=.seq (_++_:List Value).toArray }) fun b o e=>Heap.get?_push_of_some _ e
   exact TR.ends sp₂ ok₂ (.lst (ok.free_new Heap.new_none) ⟨_,Heap.get?_push_size _ rfl,rfl,_,rfl⟩ ((sp₂.repL r₁).append (sp₂.repL r₂)))
 | _=>exact aP hz
theorem ug {a b z:RV} (hz:wZ a b=some z):Op2 c γ (binaryOp .Mult) a b st z:=by
 cases a with
 | int x=>
  obtain ⟨y,hy,hz⟩:=Option.bind_eq_some_iff.mp hz
  exact Op2.if_ hz fun hf ρ h tk v₁ v₂ ok y₁ y₂=>by
   rw [aO hy] at y₂
   apply y₁.elim
   intro t
   apply y₂.elim
   exact fun t'=>P.mul_int (TR.ends .refl ok (.int _ _)) (pp hf)
 | str x=>
  obtain ⟨y,hy,hz⟩:=Option.bind_eq_some_iff.mp hz
  exact Op2.if_ hz fun hc ρ h tk v₁ v₂ ok y₁ y₂=>by
   rw [aO hy] at y₂
   apply y₁.elim
   intro t
   apply y₂.elim
   exact fun t'=>SB.mul (mx hc.1 hc.2.1 hc.2.2) fun t' k=>TR.ends .refl ok (.str _ _)
 | _=>exact aP hz
theorem um {op:Operator} {a b z:RV} (hz:binI op a b=some z):Op2 c γ (binaryOp op) a b st z:=by
 cases op with
 | Add=>exact uL hz
 | Mult=>exact ug hz
 | Sub=>exact Op2.ints hz fun ρ h tk x y t t' e ok=>Option.some.inj e▸P.sub_int (TR.ends .refl ok (.int _ _))
 | FloorDiv=>exact Op2.ints hz fun ρ h tk x y t t' e ok=>TR.if_ e fun hc=>floordiv_int hc.1 (TR.ends .refl ok (.int _ _)) (.inl (PyProof.noPylong_of_log2 hc.2))
 | Mod=>exact Op2.ints hz fun ρ h tk x y t t' e ok=>TR.if_ e fun hc=>mod_int' hc (TR.ends .refl ok (.int _ _))
 | Pow=>exact Op2.ints hz fun ρ h tk x y t t' e ok=>TR.if_ e fun hc=>pow_int_small hc.2.1 hc.2.2 (of_decide_eq_true hc.1) (TR.ends .refl ok (.int _ _))
 | LShift=>exact Op2.ints hz fun ρ h tk x y t t' e ok=>TR.if_ e fun hc=>lshift_int_small hc.2.1 hc.2.2 (of_decide_eq_true hc.1) (TR.ends .refl ok (.int _ _))
 | _=>exact aP hz
end
end
section
open PySem PySem.W PySem.Calls PyProof.Rows PySem.Spec
noncomputable def uI (f:List RV->List RV->Option Bool) (a b:RV):Option Bool:=match a with
 | .int x=>(match b with | .int y=>some (x==y) | .str _=>some false | .tup _=>some false | _=>none)
 | .str x=>(match b with | .str y=>some (x==y) | .int _=>some false | .bool _=>some false | .tup _=>some false | _=>none)
 | .bool x=>(match b with | .bool y=>some (x==y) | .str _=>some false | _=>none)
 | .tup l=>(match b with | .tup l'=>f l l' | .int _=>some false | .str _=>some false | _=>none)
 | _=>none
noncomputable def tS (f:RV->RV->Option Bool):List RV->List RV->Option Bool
 | [],l=>some l.isEmpty
 | x::l,l'=>match l' with
  | []=>some false
  | y::l'=>(f x y).bind fun a=>(tS f l l').map fun b=>a&&b
noncomputable def eqv:Nat->RV->RV->Option Bool
 | 0=>uI fun _ _=>none
 | d+1=>uI (tS (eqv d))
noncomputable abbrev yH (d:Nat):List RV->List RV->Option Bool:=tS (eqv d)
theorem kT {h:Heap} {a:Addr} {vs ws:List Value} (x:IsTup h a vs.toArray) (y:IsTup h a ws.toArray):vs=ws:=by
 obtain ⟨o,e,_,n,d⟩:=x
 obtain ⟨o',e',_,n',d'⟩:=y
 rw [Option.some.inj (e.symm.trans e')] at d
 injection d.symm.trans d' with e1 _
 exact List.toArray_inj e1
section
variable {ρ:Pl} {h:Heap}
noncomputable def z6 (ρ:Pl) (h:Heap) (r:RV):Value->Prop
 | .int i _=>r=.int i
 | .str i _=>r=.str i
 | .bool i=>r=.bool i
 | .ref a=>∀l vs,r=.tup l->IsTup h a vs.toArray->RepL ρ h l vs
 | _=>True
theorem Rep.byV {r:RV} {v:Value} (y:Rep ρ h r v):z6 ρ h r v:=by
 cases y with
 | tup o t y=>exact fun l vs e t'=>by cases e;rw [<-kT t t'];exact y
 | lst | obj | stat=>exact fun l vs e=>nomatch e
 | none | ty | bi=>exact trivial
 | _=>rfl
theorem kX {f:List RV->List RV->Option Bool} (hf:∀l l' vs b,RepL ρ h l vs->RepL ρ h l' vs->f l l'=some b->b=true) {r r':RV} {v:Value} {b:Bool} (x:Rep ρ h r v) (y:Rep ρ h r' v) (e:uI f r r'=some b):b=true:=by
 have y':=y.byV
 cases x with
 | int i t=>rw [show r'=_ from y'] at e;rw [<-Option.some.inj e];exact beq_self_eq_true i
 | str i t=>rw [show r'=_ from y'] at e;rw [<-Option.some.inj e];exact beq_self_eq_true i
 | bool i=>rw [show r'=_ from y'] at e;rw [<-Option.some.inj e];exact beq_self_eq_true i
 | tup o t x=>
  cases r' with
  | tup l'=>exact hf _ _ _ _ x (y' l' _ rfl t) e
  | int | str=>exact y.elim (R:=fun v=>v=.ref _->_) (fun t e=>nomatch e) rfl
  | _=>exact aP e
 | _=>exact aP e
theorem kM {f:RV->RV->Option Bool} (hf:∀r r' v b,Rep ρ h r v->Rep ρ h r' v->f r r'=some b->b=true) (l l':List RV) (vs:List Value) (b:Bool) (x:RepL ρ h l vs) (y:RepL ρ h l' vs) (e:tS f l l'=some b):b=true:=by
 induction l generalizing l' vs b with
 | nil=>
  have h1:=x.length
  have h2:=y.length
  cases l' with
  | nil=>exact (Option.some.inj e).symm
  | cons=>rw [h1] at h2;exact hO h2
 | cons r l ih=>
  cases l' with
  | nil=>exact absurd (x.length.symm.trans y.length) nofun
  | cons r' l'=>
   obtain ⟨a,e1,e⟩:=Option.bind_eq_some_iff.mp e
   obtain ⟨c,e2,e⟩:=Option.map_eq_some_iff.mp e
   refine x.elim (R:=fun vs=>RepL ρ h (r'::l') vs->b=true) (fun v vs x1 x2 y=>?_) y
   have z:=y.elim (R:=fun ws=>ws=v::vs->Rep ρ h r' v/\RepL ρ h l' vs) (fun v' vs' y1 y2 e=>by injection e with e1 e2;rw [<-e1,<-e2];exact ⟨y1,y2⟩) rfl
   rw [<-e,hf _ _ _ _ x1 z.1 e1,ih _ _ _ x2 z.2 e2];rfl
theorem nD:∀(d:Nat) (r r':RV) (v:Value) (b:Bool),Rep ρ h r v->Rep ρ h r' v->eqv d r r'=some b->b=true
 | 0,_,_,_,_,x,y,e=>kX (fun _ _ _ _ _ _ e=>aP e) x y e
 | d+1,_,_,_,_,x,y,e=>kX (kM (nD d)) x y e
end
open SeqAt
section
variable {ρ:Pl} {s:Shared}
theorem o8 {f:List RV->List RV->Option Bool} {A:Around} (hu0:A.units<cLine) (hs:∀l l' vs b,RepL ρ s.heap l vs->RepL ρ s.heap l' vs->f l l'=some b->b=true)
  (hf:∀l l' vs vs' b,RepL ρ s.heap l vs->RepL ρ s.heap l' vs'->f l l'=some b->∃f:Nat->Bool,(∀j v v',vs[j]? = some v->vs'[j]? = some v'->EqAt A.in1 s v v' (f j))/\b=((List.range (min vs.length vs'.length)).all f&&vs.length==vs'.length))
  {r r':RV} {v v':Value} {b:Bool} (x:Rep ρ s.heap r v) (y:Rep ρ s.heap r' v') (e:uI f r r'=some b):EqAt A s v v' b:=by
 cases r with
 | int i=>
  apply x.elim
  intro t
  cases r' with
  | int j=>apply y.elim;exact fun t'=>Option.some.inj e▸EqAt.int_int _ _ _ _
  | str j=>apply y.elim;exact fun t'=>Option.some.inj e▸EqAt.int_str _ _ _ _
  | tup j=>apply y.elim;exact fun a vs _ t _=>Option.some.inj e▸EqAt.int_tuple _ _ t hu0
  | _=>exact aP e
 | str i=>
  apply x.elim
  intro t
  cases r' with
  | bool j=>apply y.elim;exact Option.some.inj e▸EqAt.str_bool _ _ _
  | int j=>apply y.elim;exact fun t'=>Option.some.inj e▸EqAt.str_int _ _ _ _
  | str j=>apply y.elim;exact fun t'=>Option.some.inj e▸EqAt.str_str _ _ _ _
  | tup j=>apply y.elim;exact fun a vs _ t _=>Option.some.inj e▸EqAt.str_tuple _ _ t hu0
  | _=>exact aP e
 | bool i=>
  apply x.elim
  cases r' with
  | bool j=>apply y.elim;exact Option.some.inj e▸EqAt.bool_bool _ _
  | str j=>apply y.elim;exact fun t'=>Option.some.inj e▸EqAt.bool_str _ _ _
  | _=>exact aP e
 | tup l=>
  revert x
  intro x
  apply x.elim
  intro a1 vs1 n1 t1 l1
  cases r' with
  | int j=>apply y.elim;exact fun t'=>Option.some.inj e▸EqAt.tuple_int _ _ t1 hu0
  | str j=>apply y.elim;exact fun t'=>Option.some.inj e▸EqAt.tuple_str _ _ t1 hu0
  | tup l'=>
   apply y.elim
   intro a2 vs2 n2 t2 l2
   by_cases q:a1=a2
   ·subst q
    rw [hs _ _ _ _ l1 (kT t1 t2▸l2) e]
    exact EqAt.same _
   ·obtain ⟨f,h1,h2⟩:=hf _ _ _ _ _ l1 l2 e
    refine EqAt.of_refs q ?_
    rw [h2]
    have:=RcAt.tuples (e:=f) t1 t2 hu0 (fun j j1 j2=>h1 j _ _ (by rw [List.size_toArray] at j1;exact List.getElem?_eq_getElem j1) (by rw [List.size_toArray] at j2;exact List.getElem?_eq_getElem j2))
    simpa using this
  | _=>exact aP e
 | _=>exact aP e
theorem pO {f:RV->RV->Option Bool} {A:Around} (hf:∀r r' v v' b,Rep ρ s.heap r v->Rep ρ s.heap r' v'->f r r'=some b->EqAt A s v v' b) (l l':List RV) (vs vs':List Value) (b:Bool) (x:RepL ρ s.heap l vs) (y:RepL ρ s.heap l' vs') (e:tS f l l'=some b) :
  ∃f:Nat->Bool,(∀j v v',vs[j]? = some v->vs'[j]? = some v'->EqAt A s v v' (f j))/\b=((List.range (min vs.length vs'.length)).all f&&vs.length==vs'.length):=by
 induction l generalizing l' vs vs' b with
 | nil=>
  apply x.elim
  refine ⟨fun _=>true,fun j v v' h _=>aP h,?_⟩
  rw [<-Option.some.inj e,y.length]
  cases l' <;> exact rfl
 | cons r l ih=>
  apply x.elim
  intro v vs x1 x2
  cases l' with
  | nil=>
   apply y.elim
   exact ⟨fun _=>true,fun j v v' _ h=>aP h,by rw [<-Option.some.inj e];exact rfl⟩
  | cons r' l'=>
   apply y.elim
   intro v' vs' y1 y2
   obtain ⟨a,e1,e⟩:=Option.bind_eq_some_iff.mp e
   obtain ⟨c,e2,e⟩:=Option.map_eq_some_iff.mp e
   obtain ⟨f,z2,z3⟩:=ih _ _ _ _ x2 y2 e2
   refine ⟨fun j=>Nat.casesOn j a f,fun j v v' h h'=>?_,?_⟩
   ·cases j with
    | zero=>rw [<-Option.some.inj h,<-Option.some.inj h'];exact hf _ _ _ _ _ x1 y1 e1
    | succ j=>exact z2 j v v' h h'
   ·rw [<-e,z3,List.length_cons,List.length_cons,Nat.succ_min_succ,List.range_succ_eq_map]
    have e4:(vs.length+1==vs'.length+1)=(vs.length==vs'.length):=by rw [Bool.eq_iff_iff];simp
    rw [e4,List.all_cons,List.all_map,Bool.and_assoc]
    rfl
theorem nK:∀(d:Nat) (A:Around) (r r':RV) (v v':Value) (b:Bool),A.units+d+1<cLine->Rep ρ s.heap r v->Rep ρ s.heap r' v'->eqv d r r'=some b->EqAt A s v v' b
 | 0,A,_,_,_,_,_,hu,x,y,e=>o8 (by lia) (fun _ _ _ _ _ _ e=>aP e) (fun _ _ _ _ _ _ _ e=>aP e) x y e
 | d+1,A,_,_,_,_,_,hu,x,y,e=>o8 (by lia) (kM (nD d)) (pO fun r r' v v' b=>nK d A.in1 r r' v v' b (by show A.units+1+d+1<cLine;lia)) x y e
theorem uC {d:Nat} {l l':List RV} {vs vs':List Value} {b:Bool} (x:RepL ρ s.heap l vs) (y:RepL ρ s.heap l' vs') (e:yH d l l'=some b) (A:Around) (hu:A.units+d+1<cLine) :
  ∃f:Nat->Bool,(∀j v v',vs[j]? = some v->vs'[j]? = some v'->EqAt A s v v' (f j))/\b=((List.range (min vs.length vs'.length)).all f&&vs.length==vs'.length):=
 pO (fun r r' v v' b=>nK d A r r' v v' b hu) l l' vs vs' b x y e
end
end
section
open PySem PySem.W PySem.Calls PyProof.Rows PySem.Spec
noncomputable def wi (s:Str):List RV->Option Bool
 | []=>some false
 | y::l=>y.asStr.bind fun y=>(wi s l).map fun b=>(y==s)||b
noncomputable def isNone:RV->Bool
 | .none=>true
 | _=>false
noncomputable def i2 (f:Int->Int->Bool) (a b:RV):Option Bool:=a.asInt.bind fun x=>b.asInt.map fun y=>f x y
noncomputable def zV (a b:RV):Option Bool:=match a with
 | .int x=>b.asInt.map fun y=>x==y
 | .str x=>b.asStr.map fun y=>x==y
 | .bool x=>b.asBool.map fun y=>x==y
 | .tup x=>b.asTup.bind fun y=>yH 2 x y
 | _=>none
noncomputable def Af (st:ai) (a b:RV):Option Bool:=a.asStr.bind fun s=>match b with
 | .tup l=>wi s l
 | .lst l=>wi s l
 | .obj i=>(dictAt st i).map fun es=>(es.lookup s).isSome
 | _=>none
noncomputable def xJ (op:CmpOp) (st:ai) (a b:RV):Option Bool:=
 match op with
 | .Lt=>i2 (fun a b=>decide (a<b)) a b
 | .LtE=>i2 (fun a b=>decide (a<=b)) a b
 | .Gt=>i2 (fun a b=>decide (a>b)) a b
 | .GtE=>i2 (fun a b=>decide (a>=b)) a b
 | .Eq=>zV a b
 | .NotEq=>(zV a b).map (!·)
 | .In=>Af st a b
 | .NotIn=>(Af st a b).map (!·)
 | .Is=>if isNone b then some (isNone a) else none
 | .IsNot=>if isNone b then some (!isNone a) else none
section
variable {c:Cx} {γ:Lo} {st:ai} {ρ ρ₀:Pl} {h h₀:Heap} {tk:Nat}
noncomputable def ek (s:Str):Value->Bool
 | .str y _=>y==s
 | _=>false
theorem sq {x:Str} {t:Tok} {s:Shared} (A:Around) {l:List RV} {vs:List Value} {b:Bool} (y:RepL ρ h l vs) (q:wi x l=some b):(∀y∈vs,SeqAt.EqAt A s y (.str x t) (ek x y))/\vs.any (ek x)=b:=by
 induction l generalizing vs b with
 | nil=>exact y.elim (R:=fun vs=>(∀y∈vs,SeqAt.EqAt A s y (.str x t) (ek x y))/\vs.any (ek x)=b) ⟨fun y m=>absurd m List.not_mem_nil,Option.some.inj q⟩
 | cons r l ih=>
  obtain ⟨z,hz,q⟩:=Option.bind_eq_some_iff.mp q
  obtain ⟨b',q1,q2⟩:=Option.map_eq_some_iff.mp q
  rw [bO hz] at y
  refine y.elim (R:=fun vs=>(∀y∈vs,SeqAt.EqAt A s y (.str x t) (ek x y))/\vs.any (ek x)=b) fun v vs y1 y2=>?_
  obtain ⟨h1,h2⟩:=ih y2 q1
  refine y1.elim (R:=fun v=>(∀y∈v::vs,SeqAt.EqAt A s y (.str x t) (ek x y))/\(v::vs).any (ek x)=b) fun t'=>⟨fun w hw=>?_,by rw [List.any_cons,h2,<-q2];rfl⟩
  exact (List.mem_cons.mp hw).elim (fun e=>e▸SeqAt.EqAt.str_str _ _ _ _) (h1 w)
theorem DRep.valueAt {x:Str} {es:List (Str×Value)} {l:List (Str×RV)} (y:DRep ρ h es l):(valueAt es x=none/\l.lookup x=none)\/∃v r,valueAt es x=some v/\l.lookup x=some r/\Rep ρ h r v:=by
 induction y with
 | nil=>exact .inl ⟨rfl,rfl⟩
 | @cons y v r es l a b ih=>
  by_cases q:y=x
  ·subst q
   exact .inr ⟨v,r,by simp [PySem.valueAt],by simp,a⟩
  ·have e1:PySem.valueAt ((y,v)::es) x=PySem.valueAt es x:=by simp [PySem.valueAt,q]
   have e2:List.lookup x ((y,r)::l)=l.lookup x:=by rw [List.lookup_cons,show (x==y)=false from beq_eq_false_iff_ne.mpr (Ne.symm q)]
   rw [e1,e2]
   exact ih
theorem Ok.dictAt {i:Nat} {a:Addr} {es:List (Str×RV)} (ok:Ok c ρ γ st h) (hi:ρ.vis[i]? = some a) (hs:st[i]? = some (.dict es)):∃kvs,h.DictOf (strKind pw c.w) a kvs/\DRep ρ h kvs es:=by
 apply (ok.sto.reps i a _ hi hs).elim
 exact fun es d r=>⟨es,d,r⟩
inductive xr (ρ:Pl) (h:Heap) (a:Addr) (l:List RV):Prop
 | mk (vs:List Value) (n:Nat) (t:h.get? a=some { cls:=.type "list",dict:=none,data:=.seq vs.toArray n,slots:= #[] }) (y:RepL ρ h l vs)
theorem Ok.listAt {i:Nat} {a:Addr} {l:List RV} (ok:Ok c ρ γ st h) (hi:ρ.vis[i]? = some a) (hs:st[i]? = some (.list l)):xr ρ h a l:=by
 apply (ok.sto.reps i a _ hi hs).elim
 exact fun vs n t y=>⟨vs,n,t,y⟩
theorem Ok.notSys {a:Addr} (ok:Ok c ρ γ st h) (m:a∈ρ.vis) (hm:∃o,(MH c.w).get? sysModules=some o):(a==sysModules)=false:=by
 refine beq_eq_false_iff_ne.mpr fun q=>?_
 obtain ⟨o,e⟩:=hm
 have:=(ok.sto.off a m).2
 rw [q,e] at this
 exact qp this
end
noncomputable def o4 (P:Params):=oi P true 766 94 103 255 (sv "law_sm0010_01" 1168)
noncomputable def wB (o:Option Obj):Bool:=match o with
 | some o=>(alive o).isSome
 | none=>false
theorem zB {w:World} {a:Addr} (ha:a<766) (g:wB ((o4 w.params).get a)=true):∃o,(MH w).get? a=some o:=by
 cases q:(o4 w.params).get a with
 | none=>rw [q] at g;exact aN g
 | some o=>
  rw [q] at g
  obtain ⟨o',e⟩:=Option.isSome_iff_exists.mp (show (alive o).isSome=true from g)
  exact ⟨o',(abs_get (life:={}) ha q).trans e⟩
theorem ew (w:World):∃o,(MH w).get? sysModules=some o:=zB (by decide) (by kernel_rfl)
section
variable {c:Cx} {γ:Lo} {st:ai} {ρ ρ₀:Pl} {h h₀:Heap} {tk:Nat}
theorem Op2.cmpInts {op:Value->Value->Sem Value} {f:Int->Int->Bool} {a b:RV} {z:Bool} (hz:i2 f a b=some z) (k:∀ρ h tk x y t t',Ok c ρ γ st h->TR c c.rv ρ γ h tk (op (.int x t) (.int y t')) (.ok (.bool (f x y)) st)):Op2 c γ op a b st (.bool z):=fun ρ h tk v₁ v₂ ok y₁ y₂=>by
 obtain ⟨x,hx,hz⟩:=Option.bind_eq_some_iff.mp hz
 obtain ⟨y,hy,hz⟩:=Option.map_eq_some_iff.mp hz
 rw [aO hx] at y₁
 rw [aO hy] at y₂
 rw [<-hz]
 apply y₁.elim
 intro t
 apply y₂.elim
 exact fun t'=>k ρ h tk x y t t' ok
theorem lL (b:Bool):(b==true)=b:=by cases b <;> rfl
theorem lF (b:Bool):(b==false) = !b:=by cases b <;> rfl
noncomputable def xC (w:Bool):CmpOp:=if w then .Eq else .NotEq
theorem rA (w:Bool) {a b:RV} {z:Bool} (hz:zV a b=some z):Op2 c γ (compareOp (xC w)) a b st (.bool (z==w)):=fun ρ h tk v₁ v₂ ok y₁ y₂=>by
 have hu:c.A.units+4<cLine:=by have:=c.units;lia
 have q:∀z,QW c ρ h (QR c.rv (.ok (.bool z) st) γ) (.bool z) ⟨h,c.g,c.d,tk,c.os⟩:=fun z=>TR.ends .refl ok (.bool z)
 cases a with
 | int x=>
  obtain ⟨y,hy,hz⟩:=Option.map_eq_some_iff.mp hz
  rw [aO hy] at y₂
  rw [<-hz]
  apply y₁.elim
  intro t
  apply y₂.elim
  intro t'
  cases w with
  | true=>rw [show ((x==y)==true)=(x==y) from lL _];exact P.eq_int (q _)
  | false=>rw [show ((x==y)==false)=(x != y) from lF _];exact P.ne_int (q _)
 | str x=>
  obtain ⟨y,hy,hz⟩:=Option.map_eq_some_iff.mp hz
  rw [bO hy] at y₂
  rw [<-hz]
  apply y₁.elim
  intro t
  apply y₂.elim
  intro t'
  cases w with
  | true=>rw [show ((x==y)==true)=(x==y) from lL _,<-SeqAt.str_beq];exact P.eq_str (q _)
  | false=>
   have e:(x.cps.toList != y.cps.toList)=(x != y):=by rw [bne,bne,SeqAt.str_beq]
   rw [show ((x==y)==false)=(x != y) from lF _,<-e];exact P.ne_str (q _)
 | bool x=>
  obtain ⟨y,hy,hz⟩:=Option.map_eq_some_iff.mp hz
  rw [cQ hy] at y₂
  rw [<-hz]
  apply y₁.elim
  apply y₂.elim
  cases w with
  | true=>rw [show ((x==y)==true)=(x==y) from lL _];exact eq_bool (q _)
  | false=>rw [show ((x==y)==false)=(x != y) from lF _];exact ne_bool (q _)
 | tup x=>
  obtain ⟨y,hy,hz⟩:=Option.bind_eq_some_iff.mp hz
  rw [gf hy] at y₂
  apply y₁.elim
  intro a₁ vs₁ n1 t1 l1
  apply y₂.elim
  intro a₂ vs₂ n2 t2 l2
  obtain ⟨f,h1,h2⟩:=uC (s:=⟨h,c.g,c.d,tk,c.os⟩) l1 l2 hz c.A.in1 (by show c.A.units+1+2+1<_;omega)
  have hf:∀(j:Nat) (j1:j<vs₁.toArray.size) (j2:j<vs₂.toArray.size),SeqAt.EqAt c.A.in1 ⟨h,c.g,c.d,tk,c.os⟩ vs₁.toArray[j] vs₂.toArray[j] (f j):=fun j j1 j2=>h1 j _ _ (by rw [List.size_toArray] at j1;exact List.getElem?_eq_getElem j1) (by rw [List.size_toArray] at j2;exact List.getElem?_eq_getElem j2)
  cases w with
  | true=>
   refine SeqAt.eq_tupleAt (e:=f) t1 t2 (by lia) hf ?_
   rw [List.size_toArray,List.size_toArray,<-h2,lL]
   exact q _
  | false=>
   refine SeqAt.RcNeAt.tuples (s:=⟨h,c.g,c.d,tk,c.os⟩) (e:=f) t1 t2 (by lia) hf _ _ _ _ ?_
   rw [List.size_toArray,List.size_toArray,<-h2,lF]
   exact q _
 | _=>exact aP hz
noncomputable def td (w:Bool):CmpOp:=if w then .In else .NotIn
theorem ru (w:Bool) {a b:RV} {z:Bool} (hz:Af st a b=some z):Op2 c γ (compareOp (td w)) a b st (.bool (z==w)):=fun ρ h tk v₁ v₂ ok y₁ y₂=>by
 obtain ⟨x,hx,hz⟩:=Option.bind_eq_some_iff.mp hz
 have q:∀z,QW c ρ h (QR c.rv (.ok (.bool z) st) γ) (.bool z) ⟨h,c.g,c.d,tk,c.os⟩:=fun z=>TR.ends .refl ok (.bool z)
 rw [bO hx] at y₁
 apply y₁.elim
 intro t
 cases b with
 | tup l=>
  apply y₂.elim
  intro a vs n t l
  obtain ⟨e1,e2⟩:=sq (t:=_) (s:=⟨h,c.g,c.d,tk,c.os⟩) c.A.in1 l hz
  cases w with
  | true=>exact SeqAt.in_tupleAt (ek _) t (fun y m=>e1 y (Array.mem_toList_iff.mpr m)) (by rw [List.any_toArray,e2,lL];exact q _)
  | false=>exact SeqAt.notIn_tupleAt (ek _) t (fun y m=>e1 y (Array.mem_toList_iff.mpr m)) (by rw [List.any_toArray,e2,lF];exact q _)
 | lst l=>
  apply y₂.elim
  intro a vs n t l
  obtain ⟨e1,e2⟩:=sq (t:=_) (s:=⟨h,c.g,c.d,tk,c.os⟩) c.A.in1 l hz
  cases w with
  | true=>exact SeqAt.in_listAt (ek _) t (fun y m=>e1 y (Array.mem_toList_iff.mpr m)) (by rw [List.any_toArray,e2,lL];exact q _)
  | false=>exact SeqAt.notIn_listAt (ek _) t (fun y m=>e1 y (Array.mem_toList_iff.mpr m)) (by rw [List.any_toArray,e2,lF];exact q _)
 | obj i=>
  obtain ⟨es,hs,hz⟩:=Option.map_eq_some_iff.mp hz
  apply y₂.elim
  intro a hi
  obtain ⟨kvs,d,r⟩:=ok.dictAt hi (bg hs)
  have e:(valueAt kvs x).isSome=(es.lookup x).isSome:=by
   rcases r.valueAt (x:=x) with ⟨e1,e2⟩ | ⟨v,r',e1,e2,_⟩ <;> rw [e1,e2] <;> rfl
  rw [<-hz,<-e]
  cases w with
  | true=>rw [lL];exact wpAny_in_of (strKind_is pw c.w x t) (ok.notSys (List.mem_of_getElem? hi) (ew _)) d.mapOf (TR.ends .refl ok (.bool _))
  | false=>rw [lF];exact wpAny_notIn_of (strKind_is pw c.w x t) (ok.notSys (List.mem_of_getElem? hi) (ew _)) d.mapOf (TR.ends .refl ok (.bool _))
 | _=>exact aP hz
theorem eS {r:RV} (h:isNone r=true):r=.none:=by
 cases r with
 | none=>rfl
 | _=>exact aN h
theorem nr {r:RV} {v:Value} (y:Rep ρ h r v):(v==Value.none)=isNone r:=by cases y <;> rfl
theorem pn {op:CmpOp} {a b:RV} {z:Bool} (hz:xJ op st a b=some z):Op2 c γ (compareOp op) a b st (.bool z):=by
 cases op with
 | Lt=>exact Op2.cmpInts hz fun ρ h tk x y t t' ok=>P.lt_int (TR.ends .refl ok (.bool _))
 | LtE=>exact Op2.cmpInts hz fun ρ h tk x y t t' ok=>P.le_int (TR.ends .refl ok (.bool _))
 | Gt=>exact Op2.cmpInts hz fun ρ h tk x y t t' ok=>P.gt_int (TR.ends .refl ok (.bool _))
 | GtE=>exact Op2.cmpInts hz fun ρ h tk x y t t' ok=>P.ge_int (TR.ends .refl ok (.bool _))
 | Eq=>exact lL z▸rA true hz
 | NotEq=>
  obtain ⟨x,hx,e⟩:=Option.map_eq_some_iff.mp hz
  exact e▸lF x▸rA false hx
 | In=>exact lL z▸ru true hz
 | NotIn=>
  obtain ⟨x,hx,e⟩:=Option.map_eq_some_iff.mp hz
  exact e▸lF x▸ru false hx
 | Is=>
  obtain ⟨q,e⟩:=Option.ite_none_right_eq_some.mp hz
  rw [eS q]
  refine fun ρ h tk v₁ v₂ ok y₁ y₂=>?_
  apply y₂.elim
  refine is_none ?_
  rw [nr y₁,Option.some.inj e]
  exact TR.ends .refl ok (.bool _)
 | IsNot=>
  obtain ⟨q,e⟩:=Option.ite_none_right_eq_some.mp hz
  rw [eS q]
  refine fun ρ h tk v₁ v₂ ok y₁ y₂=>?_
  apply y₂.elim
  refine isNot_none ?_
  rw [nr y₁,Option.some.inj e]
  exact TR.ends .refl ok (.bool _)
end
noncomputable def tX (l:List RV) (k:Int):Option RV:=if 0<=k/\k<2^63 then l[k.toNat]? else none
noncomputable def dA (st:ai) (a i:RV):Option RV:=
 match a with
 | .tup l=>i.asInt.bind fun k=>if -(2^63)<=k/\k<2^63 then (seqIndex? k l.length).bind (l[·]?) else none
 | .lst l=>i.asInt.bind (tX l)
 | .str x=>i.asInt.bind fun k=>if -(2^63)<=k/\k<2^63 then ((seqIndex? k x.length).bind (x.cps[·]?)).map fun n=>.str ⟨#[n]⟩ else none
 | .obj j=>(match i with
  | .int k=>(listAt st j).bind fun l=>tX l k
  | .str s=>(dictAt st j).bind fun es=>es.lookup s
  | _=>none)
 | _=>none
noncomputable def eT:Expr->Bool
 | .Slice .. =>false
 | _=>true
theorem eX {e:Expr} (h:eT e=true) (o i:Value):subscripted e false o i=operate [o,i] (getItem o i):=by
 cases e with
 | Slice=>exact aN h
 | _=>rfl
section
variable {c:Cx} {γ:Lo} {st:ai} {ρ ρ₀:Pl} {h h₀:Heap} {tk:Nat} {l r e:Expr} {pos:Pos}
theorem pF {l:List RV} {vs:List Value} {k:Int} {t:Tok} {a:Addr} {z:RV} {e s:Expr} (hs:eT s=true) (hz:tX l k=some z) (ok:Ok c ρ γ st h) (t':h.IsList a vs.toArray) (y:RepL ρ h l vs):TR c c.rv ρ γ h tk (subscriptTail e s (.ref a) (.int k t)) (.ok z st):=by
 obtain ⟨hk,hz⟩:=Option.ite_none_right_eq_some.mp hz
 obtain ⟨x,hx,yx⟩:=y.get hz
 exact tail_any t'.typeIs slot_list_getitem.lookup (wpAny_getItem_list t' hk.1 hk.2 (by rw [List.getElem?_toArray];exact hx) (TR.ends .refl ok yx)) (eX hs _ _)
theorem uN {a i z:RV} (hz:dA st a i=some z) {e s:Expr} (hs:eT s=true):Op2 c γ (fun o i=>subscriptTail e s o i) a i st z:=fun ρ h tk v₁ v₂ ok y₁ y₂=>by
 cases a with
 | tup l=>
  obtain ⟨k,hi,hz⟩:=Option.bind_eq_some_iff.mp hz
  obtain ⟨hk,hz⟩:=Option.ite_none_right_eq_some.mp hz
  obtain ⟨j,hj,hz⟩:=Option.bind_eq_some_iff.mp hz
  rw [aO hi] at y₂
  apply y₁.elim
  intro a vs n t y
  apply y₂.elim
  intro u
  obtain ⟨x,hx,yx⟩:=y.get hz
  exact item_tupleT t hk.1 hk.2 (by rw [y.length];exact hj) hx (TR.ends .refl ok yx) (eX hs _ _)
 | lst l=>
  obtain ⟨k,hi,hz⟩:=Option.bind_eq_some_iff.mp hz
  rw [aO hi] at y₂
  apply y₁.elim
  intro a vs n t y
  apply y₂.elim
  exact fun u=>pF hs hz ok t y
 | str x=>
  obtain ⟨k,hi,hz⟩:=Option.bind_eq_some_iff.mp hz
  obtain ⟨hk,hz⟩:=Option.ite_none_right_eq_some.mp hz
  obtain ⟨n,hn,e⟩:=Option.map_eq_some_iff.mp hz
  rw [aO hi] at y₂
  rw [<-e]
  apply y₁.elim
  intro t
  apply y₂.elim
  exact fun u=>tail_any (typeIs_str _ _ _) F.slot_str_getitem.lookup (P.getItem_str (by rw [Bool.or_eq_false_iff];exact ⟨decide_eq_false (Int.not_lt.mpr hk.1),decide_eq_false (Int.not_le.mpr hk.2)⟩) hn (TR.ends .refl ok (.str _ _))) (eX hs _ _)
 | obj j=>
  apply y₁.elim
  intro a hi
  cases i with
  | int k=>
   obtain ⟨l,hl,hz⟩:=Option.bind_eq_some_iff.mp hz
   apply y₂.elim
   intro u
   obtain ⟨vs,n,t,y⟩:=ok.listAt hi (listAt_eq hl)
   exact pF hs hz ok (dN t) y
  | str s=>
   obtain ⟨es,hl,hz⟩:=Option.bind_eq_some_iff.mp hz
   apply y₂.elim
   intro t
   obtain ⟨kvs,d,r⟩:=ok.dictAt hi (bg hl)
   rcases r.valueAt (x:=s) with ⟨e1,e2⟩ | ⟨v,r',e1,e2,yv⟩
   ·exact aP (e2.symm.trans hz)
   ·rw [<-Option.some.inj (e2.symm.trans hz)]
    exact tail_any d.mapOf.typeIs F.slot_dict_getitem.lookup (wpAny_getItem_of (strKind_is pw c.w _ t) d.mapOf e1 (TR.ends .refl ok yv)) (eX hs _ _)
  | _=>exact aP hz
 | _=>exact aP hz
theorem EvR.idx {m:Option (Out RV)} {n:ai->Option (Out RV)} {o:Out RV} (hm:aq m (fun a st₁=>aq (n st₁) fun b st₂=>(dA st₂ a b).map fun r=>.ok r st₂)=some o)
  (x:∀o,m=some o->EvR c γ st l o) (y:∀st₁ o,n st₁=some o->EvR c γ st₁ r o) (hs:eT r=true):EvR c γ st (.Subscript l r pos) o:=
 fun ρ h tk ok=>Subscript_ (TR.seq hm (fun o e=>x o e ρ h tk ok) .refl fun a v₁ ρQ st₁ h₁ tkQ hmJ ok₁ sp₁ _ y₁=>
  TR.seq hmJ (fun o e=>y st₁ o e ρQ h₁ tkQ ok₁) sp₁ fun b v₂ ρ₂ st₂ h₂ tkJ hmQ ok₂ sp₂ sp₃ y₂=>by
   obtain ⟨z,hz,e⟩:=Option.map_eq_some_iff.mp hmQ
   subst e
   exact (uN hz hs ρ₂ h₂ tkJ v₁ v₂ ok₂ (sp₃.rep y₁) y₂).from sp₂)
noncomputable def nh (a b:RV):Option RV:=a.asLst.bind fun l=>b.asInt.bind fun k=>if 0<=k/\l.length<=16777216 then some (.lst (l.drop k.toNat)) else none
noncomputable def im (a b:RV):Option RV:=a.asLst.bind fun l=>b.asInt.bind fun k=>if 0<=k/\l.length<=16777216 then some (.lst (l.take k.toNat)) else none
noncomputable def zC (a:RV):Option RV:=a.asLst.bind fun l=>if l.length<=16777216 then some (.lst l.reverse) else none
theorem fP {e s:Expr} {a:Addr} {vs ws:List Value} {ls:List RV} {vl vu vk:Value} {lo hi sk:Option Int} {ops:List Value} (ok:Ok c ρ γ st h) (t:h.IsList a vs.toArray) (hl:vs.length<=16777216)
  (pl:IsPart vl lo) (pu:IsPart vu hi) (pk:IsPart vk sk) (h0:sk≠some 0) (hp:slicePick vs.toArray lo hi sk=ws.toArray) (y:RepL ρ h ls ws)
  (hs:subscripted s false (.ref a) (.ref h.objs.size)=operate ops (getItem (.ref a) (.ref h.objs.size))) (sp:c.Step ρ₀ h₀ ρ h) :
  wpAny c.M c.A (subscriptTail e s (.ref a) (.ref h.objs.size)) (QW c ρ₀ h₀ (QR c.rv (.ok (RV.lst ls) st) γ)) (EW c ρ₀ h₀ (ER (.ok (RV.lst ls) st) γ)) ⟨h.push { cls:=.type "slice",data:=.fields #[vl,vu,vk] },c.g,c.d,tk,c.os⟩:=by
 refine tail_any (Heap.IsList.typeIs (s:=⟨h.push { cls:=.type "slice",data:=.fields #[vl,vu,vk] },c.g,c.d,tk,c.os⟩) (t.push _)) slot_list_getitem.lookup
  (wpAny_getItem_list_slice (t.push _) (Heap.IsSliceOf.new ..) pl pu pk h0 ?_ (by rw [List.size_toArray];exact hl)) hs
 obtain ⟨ok₁,sp₁⟩:=ok.grow (h':=h.push { cls:=.type "slice",data:=.fields #[vl,vu,vk] }) fun b o e=>Heap.get?_push_of_some _ e
 rw [hp]
 obtain ⟨ok₂,sp₂⟩:=ok₁.grow (h':=(h.push { cls:=.type "slice",data:=.fields #[vl,vu,vk] }).push { cls:=.type "list",data:=.seq ws.toArray }) fun b o e=>Heap.get?_push_of_some _ e
 exact TR.ends ((sp.trans sp₁).trans sp₂) ok₂ (.lst (ok₁.free_new Heap.new_none) ⟨_,Heap.get?_push_size _ rfl,rfl,_,rfl⟩ (sp₂.repL (sp₁.repL y)))
theorem j6 {vs:List Value} {k:Int} (h:0<=k):slicePick vs.toArray (some k) none none=(vs.drop k.toNat).toArray:=by
 have:=slicePick_from' vs.toArray k.toNat
 rw [show ((k.toNat:Nat):Int)=k by lia] at this
 exact this
theorem jX {vs:List Value} {k:Int} (h:0<=k):slicePick vs.toArray none (some k) none=(vs.take k.toNat).toArray:=by
 have:=slicePick_upto' vs.toArray k.toNat
 rw [show ((k.toNat:Nat):Int)=k by lia] at this
 exact this
variable {p:Pos}
theorem EvR.drop {m:Option (Out RV)} {n:ai->Option (Out RV)} {o:Out RV} (hm:aq m (fun a st₁=>aq (n st₁) fun b st₂=>(nh a b).map fun r=>.ok r st₂)=some o)
  (x:∀o,m=some o->EvR c γ st l o) (y:∀st₁ o,n st₁=some o->EvR c γ st₁ r o):EvR c γ st (.Subscript l (.Slice (some r) none none p) pos) o:=
 fun ρ h tk ok=>Subscript_ (TR.seq hm (fun o e=>x o e ρ h tk ok) .refl fun a v₁ ρQ st₁ h₁ tkQ hmJ ok₁ sp₁ _ y₁=>wpAny_Slice (evalPart_some_step
  (TR.seq hmJ (fun o e=>y st₁ o e ρQ h₁ tkQ ok₁) sp₁ fun b v₂ ρ₂ st₂ h₂ tkJ hmQ ok₂ sp₂ sp₃ y₂=>evalPart_none_step (evalPart_none_step (by
   obtain ⟨z,hz,e⟩:=Option.map_eq_some_iff.mp hmQ
   subst e
   have y₃:=sp₃.rep y₁
   obtain ⟨l',hl,hz⟩:=Option.bind_eq_some_iff.mp hz
   obtain ⟨k,hi,hz⟩:=Option.bind_eq_some_iff.mp hz
   obtain ⟨hk,hz⟩:=Option.ite_none_right_eq_some.mp hz
   rw [cj hl] at y₃
   rw [aO hi] at y₂
   rw [<-Option.some.inj hz]
   apply y₃.elim
   intro a vs n t yl
   apply y₂.elim
   exact fun u=>fP ok₂ t (by rw [yl.length];exact hk.2) (.int _ _) .none .none nofun (j6 hk.1) (yl.drop k.toNat) rfl sp₂)))))
theorem EvR.take {m:Option (Out RV)} {n:ai->Option (Out RV)} {o:Out RV} (hm:aq m (fun a st₁=>aq (n st₁) fun b st₂=>(im a b).map fun r=>.ok r st₂)=some o)
  (x:∀o,m=some o->EvR c γ st l o) (y:∀st₁ o,n st₁=some o->EvR c γ st₁ r o):EvR c γ st (.Subscript l (.Slice none (some r) none p) pos) o:=
 fun ρ h tk ok=>Subscript_ (TR.seq hm (fun o e=>x o e ρ h tk ok) .refl fun a v₁ ρQ st₁ h₁ tkQ hmJ ok₁ sp₁ _ y₁=>wpAny_Slice (evalPart_none_step (evalPart_some_step
  (TR.seq hmJ (fun o e=>y st₁ o e ρQ h₁ tkQ ok₁) sp₁ fun b v₂ ρ₂ st₂ h₂ tkJ hmQ ok₂ sp₂ sp₃ y₂=>evalPart_none_step (by
   obtain ⟨z,hz,e⟩:=Option.map_eq_some_iff.mp hmQ
   subst e
   have y₃:=sp₃.rep y₁
   obtain ⟨l',hl,hz⟩:=Option.bind_eq_some_iff.mp hz
   obtain ⟨k,hi,hz⟩:=Option.bind_eq_some_iff.mp hz
   obtain ⟨hk,hz⟩:=Option.ite_none_right_eq_some.mp hz
   rw [cj hl] at y₃
   rw [aO hi] at y₂
   rw [<-Option.some.inj hz]
   apply y₃.elim
   intro a vs n t yl
   apply y₂.elim
   exact fun u=>fP ok₂ t (by rw [yl.length];exact hk.2) .none (.int _ _) .none nofun (jX hk.1) (yl.take k.toNat) rfl sp₂)))))
theorem gc {α:Type}:∀(l:List α),(List.range l.length).filterMap (l[·]?)=l
 | []=>rfl
 | x::l=>by
  rw [List.length_cons,List.range_succ_eq_map,List.filterMap_cons,List.filterMap_map]
  exact congrArg (x :: ·) (gc l)
theorem cW {α β:Type} {f g:α->Option β}:∀{l:List α},(∀x∈l,f x=g x)->l.filterMap f=l.filterMap g
 | [],_=>rfl
 | x::l,h=>by
  rw [List.filterMap_cons,List.filterMap_cons,h x (.head _),cW fun y hy=>h y (.tail _ hy)]
theorem js (vs:List Value):slicePick vs.toArray none none (some (-1))=vs.reverse.toArray:=by
 show ((Builtin.Str.strSliceIndices none none (-1) vs.length).filterMap (vs.toArray[·]?)).toArray=_
 rw [picked_rev,List.filterMap_map]
 congr 1
 rw [<-List.length_reverse]
 refine Eq.trans ?_ (gc vs.reverse)
 refine cW fun k hk=>?_
 have hk':k<vs.length:=by simpa using hk
 simp [List.getElem?_reverse hk',Nat.sub_sub,Nat.add_comm]
theorem EvR.back {p₁ p₂:Pos} {k:Nat} {m:Option (Out RV)} {o:Out RV} (hm:aq m (fun a st₁=>(zC a).map fun r=>.ok r st₁)=some o)
  (x:∀o,m=some o->EvR c γ st l o):EvR c γ st (.Subscript l (.Slice none none (some (.UnaryOp .USub (.Constant (.int 1) k p₁) p₂)) p) pos) o:=
 fun ρ h tk ok=>Subscript_ (TR.seq hm (fun o e=>x o e ρ h tk ok) .refl fun a v₁ ρQ st₁ h₁ tkQ hmJ ok₁ sp₁ _ y₁=>wpAny_Slice (evalPart_none_step (evalPart_none_step (evalPart_some_step (by
  refine TR.known (EvR.neg (c:=c) (γ:=γ) (st:=st₁) (m:=some (.ok (.int 1) st₁)) (o:=.ok (.int (-1)) st₁) rfl (fun o e=>Option.some.inj e▸EvR.cint) ρQ h₁ tkQ ok₁) sp₁ fun v₂ ρ₂ h₂ tkJ ok₂ sp₂ sp₃ y₂=>?_
  obtain ⟨z,hz,e⟩:=Option.map_eq_some_iff.mp hmJ
  subst e
  have y₃:=sp₃.rep y₁
  obtain ⟨l',hl,hz⟩:=Option.bind_eq_some_iff.mp hz
  obtain ⟨hk,hz⟩:=Option.ite_none_right_eq_some.mp hz
  rw [cj hl] at y₃
  rw [<-Option.some.inj hz]
  apply y₃.elim
  intro a vs n t yl
  apply y₂.elim
  exact fun u=>fP ok₂ t (by rw [yl.length];exact hk) .none .none (.int _ _) nofun (js _) yl.reverse rfl sp₂)))))
end
inductive BI where
 | len | abs | min | max | isi
noncomputable def BI.id:BI->String
 | .len=>"len"
 | .abs=>"abs"
 | .min=>"min"
 | .max=>"max"
 | .isi=>"isinstance"
noncomputable def oneOf {α:Type} (l:List α):Option α:=match l with
 | []=>none
 | x::l=>match l with
  | []=>some x
  | _::_=>none
noncomputable def fz {α:Type} (l:List α):Option (α×α):=match l with
 | []=>none
 | x::l=>(oneOf l).map fun y=>(x,y)
theorem aR {α:Type} {l:List α} {x:α} (h:oneOf l=some x):l=[x]:=by
 cases l with
 | nil=>exact aP h
 | cons y l=>cases l with
  | nil=>rw [Option.some.inj h]
  | cons=>exact aP h
theorem cB {α:Type} {l:List α} {p:α×α} (h:fz l=some p):l=[p.1,p.2]:=by
 cases l with
 | nil=>exact aP h
 | cons y l=>
  obtain ⟨z,h1,h2⟩:=Option.map_eq_some_iff.mp h
  rw [aR h1,<-h2]
noncomputable def lenOf (n:Nat):Option RV:=if n<2^63 then some (.int n) else none
noncomputable def zO (st:ai) (a:RV):Option RV:=match a with
 | .str x=>lenOf x.length
 | .tup l=>lenOf l.length
 | .lst l=>lenOf l.length
 | .obj i=>(listAt st i).bind fun l=>lenOf l.length
 | _=>none
noncomputable def sC (a:RV):Option RV:=match a with
 | .int _=>some (.bool false)
 | .str _=>some (.bool true)
 | .tup _=>some (.bool false)
 | _=>none
noncomputable def wn (a:RV):Option RV:=match a with
 | .int _=>some (.bool false)
 | .str _=>some (.bool false)
 | .tup _=>some (.bool true)
 | _=>none
noncomputable def yc (a t:RV):Option RV:=match t with
 | .ty n=>if n="str" then sC a else if n="tuple" then wn a else none
 | _=>none
noncomputable def callB (b:BI) (st:ai) (l:List RV):Option RV:=
 match b with
 | .len=>(oneOf l).bind (zO st)
 | .abs=>(oneOf l).bind fun a=>a.asInt.map fun a=>.int (if a<0 then -a else a)
 | .min=>(fz l).bind fun p=>ii (fun a b=>some (.int (if b<a then b else a))) p.1 p.2
 | .max=>(fz l).bind fun p=>ii (fun a b=>some (.int (if b>a then b else a))) p.1 p.2
 | .isi=>(fz l).bind fun p=>yc p.1 p.2
section
variable {c:Cx} {γ:Lo} {st:ai} {ρ ρ₀:Pl} {h h₀:Heap} {tk:Nat}
theorem uq {a z:RV} {v:Value} (hz:zO st a=some z) (ok:Ok c ρ γ st h) (y:Rep ρ h a v):TR c c.rv ρ γ h tk (call (.builtin "len") [v]) (.ok z st):=by
 have list:∀{b:Addr} {vs:List Value} {l:List RV},lenOf l.length=some z->h.IsList b vs.toArray->RepL ρ h l vs->TR c c.rv ρ γ h tk (call (.builtin "len") [.ref b]) (.ok z st):=fun hz t yl=>by
  obtain ⟨hl,e⟩:=Option.ite_none_right_eq_some.mp hz
  rw [<-Option.some.inj e,<-yl.length] at *
  exact len_list t (by rw [List.size_toArray];lia) (by rw [List.size_toArray];exact TR.ends .refl ok (.int _ _))
 cases a with
 | str x=>
  obtain ⟨hl,e⟩:=Option.ite_none_right_eq_some.mp hz
  rw [<-Option.some.inj e]
  apply y.elim
  exact fun t=>P.len_str (by lia) (TR.ends .refl ok (.int _ _))
 | tup l=>
  obtain ⟨hl,e⟩:=Option.ite_none_right_eq_some.mp hz
  apply y.elim
  intro a vs n t yl
  rw [<-Option.some.inj e,<-yl.length]
  rw [<-yl.length] at hl
  exact len_tuple t (by rw [List.size_toArray];lia) (by rw [List.size_toArray];exact TR.ends .refl ok (.int _ _))
 | lst l=>
  apply y.elim
  exact fun a vs n t yl=>list hz t yl
 | obj i=>
  obtain ⟨l,hl,hz⟩:=Option.bind_eq_some_iff.mp hz
  apply y.elim
  intro a hi
  obtain ⟨vs,n,t,yl⟩:=ok.listAt hi (listAt_eq hl)
  exact list hz (dN t) yl
 | _=>exact aP hz
theorem vS {a b z:RV} {v v':Value} (hz:yc a b=some z) (ok:Ok c ρ γ st h) (y:Rep ρ h a v) (y':Rep ρ h b v'):TR c c.rv ρ γ h tk (call (.builtin "isinstance") [v,v']) (.ok z st):=by
 have q:∀{b:Bool} {t:Nat} {z:RV},some (RV.bool b)=some z->QW c ρ h (QR c.rv (.ok z st) γ) (.bool b) ⟨h,c.g,c.d,t,c.os⟩:=fun e=>TR.ends' (congrArg (Option.map fun z=>Out.ok z st) e) .refl ok (.bool _)
 cases b with
 | ty n=>
  apply y'.elim
  by_cases e:n="str"
  ·replace hz:sC a=some z:=(show (if n="str" then sC a else _)=sC a from if_pos e).symm.trans hz
   subst e
   cases a with
   | int x=>apply y.elim;exact fun t=>IsiPair.int_str (q hz)
   | str x=>apply y.elim;exact fun t=>IsiPair.str_str (q hz)
   | tup x=>
    apply y.elim
    intro a vs n t yl
    obtain ⟨o,ho,hc,_⟩:=t
    exact IsiPair.tuple_str ho hc (q hz)
   | _=>exact aP hz
  ·replace hz:(if n="tuple" then wn a else none)=some z:=(show (if n="str" then sC a else _)=(if n="tuple" then wn a else none) from if_neg e).symm.trans hz
   obtain ⟨e,hz⟩:=Option.ite_none_right_eq_some.mp hz
   subst e
   cases a with
   | int x=>apply y.elim;exact fun t=>IsiPair.int_tuple (q hz)
   | str x=>apply y.elim;exact fun t=>IsiPair.str_tuple (q hz)
   | tup x=>
    apply y.elim
    intro a vs n t yl
    obtain ⟨o,ho,hc,_⟩:=t
    exact IsiPair.tuple_tuple ho hc (q hz)
   | _=>exact aP hz
 | _=>exact aP hz
theorem tF {b:BI} {l:List RV} {z:RV} (hh:c.A.handled=none) (hz:callB b st l=some z) {vs:List Value} (ok:Ok c ρ γ st h) (y:c.rl ρ h l vs):TR c c.rv ρ γ h tk (call (.builtin b.id) vs) (.ok z st):=by
 have more:∀{h':Heap} {r:RV} {v:Value} {t:Nat},(∀b o,h.get? b=some o->h'.get? b=some o)->(∀ρ h,Rep ρ h r v)->QW c ρ h (QR c.rv (.ok r st) γ) v ⟨h',c.g,c.d,t,c.os⟩:=fun hk hr=>by
  obtain ⟨ok',sp⟩:=ok.grow hk
  exact TR.ends sp ok' (hr _ _)
 cases b with
 | len=>
  obtain ⟨a,hl,hz⟩:=Option.bind_eq_some_iff.mp hz
  rw [aR hl] at y
  apply y.one
  exact fun v y=>uq hz ok y
 | abs=>
  obtain ⟨a,hl,hz⟩:=Option.bind_eq_some_iff.mp hz
  obtain ⟨i,hi,e⟩:=Option.map_eq_some_iff.mp hz
  rw [aR hl,aO hi] at y
  rw [<-e]
  apply y.one
  intro v y
  apply y.elim
  exact fun t=>call_abs_int fun u tk=>TR.ends .refl ok (.int _ _)
 | min=>
  obtain ⟨p,hl,hz⟩:=Option.bind_eq_some_iff.mp hz
  obtain ⟨x,y',e1,e2,e⟩:=oM hz
  rw [cB hl,e1,e2] at y
  rw [<-Option.some.inj e]
  apply y.two
  intro v v' y1 y2
  apply y1.elim
  intro t
  apply y2.elim
  intro t'
  refine min_two_ints hh fun h' tk hk=>?_
  by_cases q:y'<x
  ·rw [if_pos q,if_pos q];exact more hk fun _ _=>.int _ _
  ·rw [if_neg q,if_neg q];exact more hk fun _ _=>.int _ _
 | max=>
  obtain ⟨p,hl,hz⟩:=Option.bind_eq_some_iff.mp hz
  obtain ⟨x,y',e1,e2,e⟩:=oM hz
  rw [cB hl,e1,e2] at y
  rw [<-Option.some.inj e]
  apply y.two
  intro v v' y1 y2
  apply y1.elim
  intro t
  apply y2.elim
  intro t'
  refine max_two_ints hh fun h' tk hk=>?_
  by_cases q:y'>x
  ·rw [if_pos q,if_pos q];exact more hk fun _ _=>.int _ _
  ·rw [if_neg q,if_neg q];exact more hk fun _ _=>.int _ _
 | isi=>
  obtain ⟨p,hl,hz⟩:=Option.bind_eq_some_iff.mp hz
  rw [cB hl] at y
  apply y.two
  exact fun v v' y1 y2=>vS hz ok y1 y2
end
theorem iL (w:World):(MH w).isNs mainGlobals=true:=by kernel_rfl
theorem rd (w:World):(MH w).isNs builtinsNs=true:=by kernel_rfl
theorem nW (w:World):(MH w).NoLimit:=.of_ok (by kernel_rfl)
noncomputable def wN:List (Str×Addr):=[("kind_of",72),("kind_of_name",79),("first_value",86),("figures_of",93),("rounded_by",100),("made",107),("whole_near",114),("fits",121),("whole_of",128),("decimal_of",135),("text_of",142),("checked_text",149),("suited",156),("Control",180),("field_text",198)]
noncomputable def wQ:List (Str×Addr):=[("no_field",205),("hide_fields",212),("lay_fields",219),("World",237),("kind_here",248),("get_name",255),("set_name",262),("variable_value",269),("fn_called",274),("d_negated",282),("alike",289),("d_add",296),("d_sub",303),("d_mul",310),("with_rest",317)]
noncomputable def wl:List (Str×Addr):=[("d_div",324),("is_whole",352),("settled",359),("whole_reckoned",366),("cut_quotient",373),("cut_rest",380),("reckoned",408),("parts_of_tree",513),("worth_of_texts",536),("worth_of_two",541),("worth_of_leaf",555),("worth_of_tree",562),("worth_worth",567),("worths",572),("WorkRun",685)]
noncomputable def xK:List (Str×Addr):=[("BasicError",41),("_law_draw",696),("_law_leaf",703),("_law_two",710),("_law_argument",715),("_law_kept",722),("_law_put",727),("_law_has",734),("_law_within",741),("_law_called",748),("_law_put_in_right",755),("_law_renamed_right",760)]
noncomputable def fnTab:List (Str×Addr):=(wN++(wQ++(wl++(xK))))
theorem wC (w:World):fnTab.map (fun p=>(MH w).nsMap mainGlobals p.1)=fnTab.map fun p=>some (.ref p.2):=by kernel_rfl
noncomputable def oj (i:Int) (o:Option Value):Bool:=az o fun v=>match v with
 | .int j _=>decide (i=j)
 | _=>false
noncomputable def intTab:List (Str×Int):=[("MOST_TEXT",255),("MOST_EXPONENT",99),("MOST_PILE",20)]
theorem int_tab (w:World):intTab.all (fun p=>oj p.2 ((MH w).nsMap mainGlobals p.1))=true:=by kernel_rfl
noncomputable def biTab:List (Str×BI):=[("len",.len),("abs",.abs),("min",.min),("max",.max),("isinstance",.isi)]
theorem xc (w:World):biTab.map (fun p=>((MH w).nsMap mainGlobals p.1,(MH w).nsMap builtinsNs p.1))=biTab.map fun p=>(none,some (.builtin p.2.id)):=by kernel_rfl
noncomputable def tyTab:List (Str×String):=[("str","str"),("tuple","tuple"),("zip","zip"),("range","range"),("reversed","reversed"),("dict","dict"),("super","super")]
theorem tP (w:World):tyTab.map (fun p=>((MH w).nsMap mainGlobals p.1,(MH w).nsMap builtinsNs p.1))=tyTab.map fun p=>(none,some (.type p.2)):=by kernel_rfl
theorem jm {ps:List Str} {vs:List Value} (nd:ps.Nodup) (hl:vs.length=ps.length):ps.filterMap (fun n=>((ps.zip vs).lookup n).map (n,·))=ps.zip vs:=by
 induction ps generalizing vs with
 | nil=>cases vs with
  | nil=>rfl
  | cons=>exact sS hl
 | cons p ps ih=>cases vs with
  | nil=>exact hO hl
  | cons v vs=>
   have nd':=List.nodup_cons.mp nd
   rw [List.filterMap_cons]
   simp only [List.zip_cons_cons,List.lookup_cons,beq_self_eq_true,Option.map_some]
   congr 1
   refine Eq.trans (cW fun n hn=>?_) (ih nd'.2 (Nat.succ.inj hl))
   have:(n==p)=false:=beq_eq_false_iff_ne.mpr fun q=>nd'.1 (q▸hn)
   rw [this]
theorem uZ {ps:List Str} {vs:List Value} {n:Str} (hl:vs.length=ps.length) (hn:n∈ps):((ps.zip vs).lookup n).isNone=false:=by
 induction ps generalizing vs with
 | nil=>exact fx hn
 | cons p ps ih=>cases vs with
  | nil=>exact hO hl
  | cons v vs=>
   rw [List.zip_cons_cons,List.lookup_cons]
   cases q:n==p with
   | true=>rfl
   | false=>exact (List.mem_cons.mp hn).elim (fun e=>nomatch (beq_iff_eq.mpr e).symm.trans q) fun hn=>ih (Nat.succ.inj hl) hn
theorem forIn_zip_nil {α β γ δ:Type} {l:List α} {n:Nat} {r:γ} {f:α×β->γ->Sem (ForInStep γ)} {k:γ->Sem δ}:(forIn (l.zip (List.drop n [])) r f >>= k)=k r:=by
 rw [List.drop_nil]
 cases l <;> rfl
theorem oJ {fd:FuncData} {ps:List Str} {vs:List Value} (h1:fd.params.posonlyargs=[]) (h2:fd.params.args.map (·.arg)=ps) (h3:fd.params.vararg=none) (h4:fd.params.kwonlyargs=[]) (h5:fd.params.kwarg=none)
  (h6:fd.defaults=.none) (nd:ps.Nodup) (hl:vs.length=ps.length):bindArgs fd ⟨vs,[]⟩=pure (ps.zip vs):=by
 cases fd with | mk nm qn params body scope gl clo dv=>
 cases params with | mk po as va ko kd kw df=>
 dsimp only at h1 h2 h3 h4 h5 h6
 subst h1 h3 h4 h5 h6
 show (if (decide (vs.length>(as.map (·.arg)).length)&&true)=true then _ else _)=_
 refine (if_neg ?_).trans ?_
 ·rw [h2,hl,Bool.and_true,decide_eq_true_iff];exact Nat.lt_irrefl _
 show (if (!(((as.map (·.arg)).take ((as.map (·.arg)).length-(List.drop (0-(as.map (·.arg)).length) ([]:List Value)).length)).filter fun n=>(((as.map (·.arg)).zip vs).lookup n).isNone).isEmpty)=true then _ else _)=_
 refine (if_neg ?_).trans ?_
 ·rw [h2,List.drop_nil,List.length_nil,Nat.sub_zero,List.take_length,List.filter_eq_nil_iff.mpr fun n hn=>by rw [uZ hl hn];exact Bool.false_ne_true];exact Bool.false_ne_true
 show (forIn (((as.map Arg.arg).drop ((as.map Arg.arg).length-(List.drop (0-(as.map Arg.arg).length) ([]:List Value)).length)).zip (List.drop (0-(as.map Arg.arg).length) ([]:List Value))) _ _ >>= _)=_
 refine forIn_zip_nil.trans ?_
 show (pure (((as.map Arg.arg)++[]).filterMap fun n=>(((as.map Arg.arg).zip vs).lookup n).map (n,·)):Sem (List (Str×Value)))=_
 rw [List.append_nil,show as.map Arg.arg=ps from h2,jm nd hl]
noncomputable def rO (d:Data):Option FuncData:=match d with
 | .func fd=>some fd
 | _=>none
theorem pY {d:Data} {fd:FuncData} (h:rO d=some fd):d=.func fd:=by
 cases d with
 | func f=>rw [<-Option.some.inj h]
 | _=>exact aP h
noncomputable def rF (h:Heap) (a:Addr):Option FuncData:=(h.get? a).bind fun o=>rO o.data
noncomputable def kS:List Str->Bool
 | []=>true
 | x::l=> !l.contains x&&kS l
theorem dc {l:List Str} (h:kS l=true):l.Nodup:=by
 induction l with
 | nil=>exact .nil
 | cons x l ih=>
  have h:=Bool.and_eq_true_iff.mp h
  exact List.nodup_cons.mpr ⟨fun m=>Bool.false_ne_true ((congrArg not (List.contains_iff_mem.mpr m)).symm.trans h.1),ih h.2⟩
noncomputable def rL:ScopeKind->Bool
 | .function=>true
 | _=>false
theorem sd {k:ScopeKind} (h:rL k=true):k=.function:=by
 cases k with
 | function=>rfl
 | _=>exact aN h
noncomputable def vW (o:Option NameKind):Bool:=az o fun k=>match k with
 | .local=>true
 | .cell=>true
 | _=>false
theorem ri {o:Option NameKind} (h:vW o=true):o=some .local\/o=some .cell:=by
 obtain ⟨k,e,h⟩:=aj h
 subst e
 cases k with
 | «local»=>exact .inl rfl
 | cell=>exact .inr rfl
 | _=>exact aN h
noncomputable def v7:Value->Bool
 | .none=>true
 | _=>false
theorem sx {v:Value} (h:v7 v=true):v=.none:=by
 cases v with
 | none=>rfl
 | _=>exact aN h
noncomputable def bodyOf (fd:FuncData):List Stmt:=match fd.body with
 | .stmts b=>b
 | .expr _=>[]
noncomputable def gE (fd:FuncData):Bool:=match fd.body with
 | .stmts _=>true
 | .expr _=>false
noncomputable def pe (h:Heap) (fd:FuncData) (params more:List Str):Bool:=
 (fd.closure.isEmpty&&decide (fd.globals=mainGlobals)&&decide (fd.builtins=builtinsNs) && !fd.scope.isCoroutine && !fd.scope.isGenerator&&rL fd.scope.kind&&gE fd) &&
 ((params++more).all (fun x=> !(x==("__debug__":Str))&&vW (fd.scope.names.lookup x))&&kS (params++more)&&kS ((fd.scope.names.filter (·.2==.cell)).map (·.1))) &&
 (h.codeRecOk fd.code fd.qualname&&fd.params.posonlyargs.isEmpty&&(fd.params.args.map (·.arg)==params)&&fd.params.vararg.isNone&&fd.params.kwonlyargs.isEmpty&&fd.params.kwarg.isNone)
noncomputable def xk (h:Heap) (fd:FuncData) (params more:List Str):Bool:=pe h fd params more&&v7 fd.defaults
theorem i4 {h:Heap} {a:Addr} {fd:FuncData} (e:rF h a=some fd):∃o,h.get? a=some o/\o.data=.func fd:=
 (Option.bind_eq_some_iff.mp e).elim fun o y=>⟨o,y.1,pY y.2⟩
theorem iO {fd:FuncData} (h:gE fd=true):fd.body=.stmts (bodyOf fd):=by
 unfold bodyOf
 unfold gE at h
 cases q:fd.body with
 | stmts b=>rfl
 | expr b=>rw [q] at h;exact aN h
structure zj (h:Heap) (fd:FuncData) (params more:List Str):Prop where
 clo:fd.closure=[]
 gl:fd.globals=mainGlobals
 bl:fd.builtins=builtinsNs
 co:fd.scope.isCoroutine=false
 gen:fd.scope.isGenerator=false
 kind:fd.scope.kind=.function
 stm:gE fd=true
 lk:∀x∈params++more,(x==("__debug__":Str))=false/\(fd.scope.names.lookup x=some .local\/fd.scope.names.lookup x=some .cell)
 nd:(params++more).Nodup
 ndc:((fd.scope.names.filter (·.2==.cell)).map (·.1)).Nodup
 rec_:h.CodeRec fd.code fd.qualname
 p1:fd.params.posonlyargs=[]
 p2:fd.params.args.map (·.arg)=params
 p3:fd.params.vararg=none
 p4:fd.params.kwonlyargs=[]
 p5:fd.params.kwarg=none
theorem lu {h:Heap} {fd:FuncData} {params more:List Str} (ok:pe h fd params more=true):zj h fd params more:=by
 simp only [pe,Bool.and_eq_true] at ok
 obtain ⟨⟨⟨⟨⟨⟨⟨⟨a1,a2⟩,a3⟩,a4⟩,a5⟩,a6⟩,a7⟩,⟨b1,b2⟩,b3⟩,⟨⟨⟨⟨c1,c2⟩,c3⟩,c4⟩,c5⟩,c6⟩:=ok
 refine ⟨List.isEmpty_iff.mp a1,of_decide_eq_true a2,of_decide_eq_true a3,by simpa using a4,by simpa using a5,(sd a6),a7,fun x hx=>?_,dc b2,dc b3,.of_ok c1,List.isEmpty_iff.mp c2,beq_iff_eq.mp c3,Option.isNone_iff_eq_none.mp c4,List.isEmpty_iff.mp c5,Option.isNone_iff_eq_none.mp c6⟩
 have:=List.all_eq_true.mp b1 x hx
 rw [Bool.and_eq_true] at this
 refine ⟨by simpa using this.1,?_⟩
 have h2:=this.2
 exact ri h2
noncomputable def FnAt.ofD {w:World} {a:Addr} {fd:FuncData} {params more:List Str} (e:rF (MH w) a=some fd) (ok:zj (MH w) fd params more) (dv:List Value) (dr:List RV) (drep:∀ρ h,RepL ρ h dr dv)
  (binds:∀(s:Shared) (vs:List Value),kept w s.heap->vs.length+dv.length=params.length->BindsTo s fd ⟨vs,[]⟩ (params.zip (vs++dv))):FnAt w a params more (bodyOf fd) where
 fd:=fd
 o:=(i4 e).choose
 there:=(i4 e).choose_spec.1
 data:=(i4 e).choose_spec.2
 hbody:=iO ok.stm
 rec_:=ok.rec_
 dv:=dv
 dr:=dr
 drep:=drep
 binds:=binds
 clo:=ok.clo
 gl:=ok.gl
 bl:=ok.bl
 co:=ok.co
 gen:=ok.gen
 kind:=ok.kind
 lk:=ok.lk
 nd:=ok.nd
 ndc:=ok.ndc
theorem mU {w:World} {fd:FuncData} {params more:List Str} (ok:xk (MH w) fd params more=true) (s:Shared) (vs:List Value) (hk:kept w s.heap) (hl:vs.length+([]:List Value).length=params.length):BindsTo s fd ⟨vs,[]⟩ (params.zip (vs++[])):=by
 rw [xk,Bool.and_eq_true] at ok
 obtain ⟨ok,c7⟩:=ok
 have f:=lu ok
 refine .of_eq ?_
 rw [List.append_nil]
 exact oJ f.p1 f.p2 f.p3 f.p4 f.p5 (sx c7) (List.nodup_append.mp f.nd).1 (by simpa using hl)
theorem oX {w:World} {a:Addr} {fd:FuncData} (e:rF (MH w) a=some fd):isFn w a:=let ⟨o,h1,h2⟩:=i4 e;⟨o,fd,h1,h2⟩
theorem gV {w:World} {x:Str} {v:Value} {r:RV} (e:(MH w).nsMap mainGlobals x=some v) (hr:∀(h:Heap) (ρ:Pl),kept w h->(∀a o,(MH w).get? a=some o->Off ρ a)->Rep ρ h r v):cX w x r:=fun h k=>
 ⟨_,_,v,(Heap.Ns.of_isNs (iL w)).keeps k,(Heap.Ns.of_isNs (rd w)).keeps k,.inl e,fun ρ hρ=>hr h ρ k hρ⟩
theorem pU {w:World} {x:Str} {v:Value} {r:RV} (e0:(MH w).nsMap mainGlobals x=none) (e:(MH w).nsMap builtinsNs x=some v) (hr:∀(h:Heap) (ρ:Pl),Rep ρ h r v):cX w x r:=fun h k=>
 ⟨_,_,v,(Heap.Ns.of_isNs (iL w)).keeps k,(Heap.Ns.of_isNs (rd w)).keeps k,.inr ⟨e0,e⟩,fun ρ hρ=>hr h ρ⟩
theorem y0 {H:Heap} {T:List (Str×Addr)} (ht:T.map (fun p=>H.nsMap mainGlobals p.1)=T.map fun p=>some (.ref p.2)) {x:Str} {a:Addr} (m:(x,a)∈T):H.nsMap mainGlobals x=some (.ref a):=List.map_inj_left.mp ht _ m
theorem qc {i:Int} {o:Option Value} (h:oj i o=true):∃t,o=some (.int i t):=by
 obtain ⟨v,e,h⟩:=aj h
 subst e
 cases v with
 | int j t=>exact ⟨t,by rw [of_decide_eq_true h]⟩
 | _=>exact aN h
theorem w9 {H:Heap} {T:List (Str×Int)} (ht:T.all (fun p=>oj p.2 (H.nsMap mainGlobals p.1))=true) {x:Str} {i:Int} (m:(x,i)∈T):∃t,H.nsMap mainGlobals x=some (.int i t):=qc (List.all_eq_true.mp ht _ m)
theorem u7 {H:Heap} {T:List (Str×BI)} (ht:T.map (fun p=>(H.nsMap mainGlobals p.1,H.nsMap builtinsNs p.1))=T.map fun p=>(none,some (.builtin p.2.id))) {x:Str} {b:BI} (m:(x,b)∈T) :
  H.nsMap mainGlobals x=none/\H.nsMap builtinsNs x=some (.builtin b.id):=by
 have e:(H.nsMap mainGlobals x,H.nsMap builtinsNs x)=(none,some (.builtin b.id)):=List.map_inj_left.mp ht _ m
 exact ⟨(Prod.mk.inj e).1,(Prod.mk.inj e).2⟩
theorem wh {H:Heap} {T:List (Str×String)} (ht:T.map (fun p=>(H.nsMap mainGlobals p.1,H.nsMap builtinsNs p.1))=T.map fun p=>(none,some (.type p.2))) {x:Str} {b:String} (m:(x,b)∈T) :
  H.nsMap mainGlobals x=none/\H.nsMap builtinsNs x=some (.type b):=by
 have e:(H.nsMap mainGlobals x,H.nsMap builtinsNs x)=(none,some (.type b)):=List.map_inj_left.mp ht _ m
 exact ⟨(Prod.mk.inj e).1,(Prod.mk.inj e).2⟩
theorem f9 {w:World} {x:Str} {a:Addr} (m:(x,a)∈fnTab):cX w x (.stat a):=gV (y0 (H:=MH w) (wC w) m) fun h ρ _ _=>.stat a
theorem tw {w:World} {x:Str} {i:Int} (m:(x,i)∈intTab):cX w x (.int i):=by
 obtain ⟨t,e⟩:=w9 (H:=MH w) (int_tab w) m
 exact gV e fun h ρ _ _=>.int _ _
theorem qL {w:World} {x:Str} {b:BI} (m:(x,b)∈biTab):cX w x (.bi b.id):=by
 have e:=u7 (H:=MH w) (xc w) m
 exact pU e.1 e.2 fun h ρ=>.bi _
theorem fj {w:World} {x:Str} {b:String} (m:(x,b)∈tyTab):cX w x (.ty b):=by
 have e:=wh (H:=MH w) (tP w) m
 exact pU e.1 e.2 fun h ρ=>.ty _
theorem aM {α:Type} {x:Str} {a:α} {l:List (Str×α)} (h:l.lookup x=some a):(x,a)∈l:=by
 induction l with
 | nil=>exact cH h
 | cons p l ih=>
  obtain ⟨y,b⟩:=p
  rw [List.lookup_cons] at h
  cases q:x==y with
  | true=>rw [q] at h;cases h;cases beq_iff_eq.mp q;exact .head _
  | false=>rw [q] at h;exact .tail _ (ih h)
inductive CObj (h:Heap) (C N:Addr) (mro:List Value) (new:String):Prop
 | mk (nm q:Str) (bs:List Value) (sn:List Str) (sub:List Value) (col:Option Bool) (dd:Option Addr) (k0 k1 k2 k3 k5:Option Value) (e:h.get? C=some (excClassObj nm q C N bs mro true sn sub false col dd k0 k1 k2 k3 k5 new))
noncomputable def qD (o:Option Obj):ClassData:=match o with
 | some o=>(match o.data with
  | .cls cd=>cd
  | _=>default)
 | none=>default
noncomputable def slotAt (o:Option Obj) (i:Nat):Option Value:=match o with
 | some o=>(o.slots[i]?).join
 | none=>none
noncomputable def dictOf (o:Option Obj):Option Addr:=match o with
 | some o=>o.dict
 | none=>none
theorem iA {H:Heap} {C N:Addr} {mro:List Value} {new:String} (o:Option Obj) (e:H.get? C=some (excClassObj (qD o).name (qD o).qualname C N (qD o).bases mro true (qD o).slotNames (qD o).subclasses false (qD o).collection (dictOf o) (slotAt o 0) (slotAt o 1) (slotAt o 2) (slotAt o 3) (slotAt o 5) new)):CObj H C N mro new:=
 ⟨_,_,_,_,_,_,_,_,_,_,_,_,e⟩
theorem CObj.keeps {h h':Heap} {C N:Addr} {mro:List Value} {new:String} (X:CObj h C N mro new) (k:∀b o,h.get? b=some o->h'.get? b=some o):CObj h' C N mro new:=by
 obtain ⟨nm,q,bs,sn,sub,col,dd,k0,k1,k2,k3,k5,e⟩:=X
 exact ⟨nm,q,bs,sn,sub,col,dd,k0,k1,k2,k3,k5,k _ _ e⟩
theorem CObj.cls {h:Heap} {C N:Addr} {mN:Str->Option Value} (X:CObj h C N [.type "object"] "object.__new__") (hn:h.Ns N mN):ClsAt h C N mN:=by
 obtain ⟨nm,q,bs,sn,sub,col,dd,k0,k1,k2,k3,k5,e⟩:=X
 exact ⟨⟨nm,q,bs,sn,sub,col,dd,k0,k1,k2,k3,k5,e⟩,hn⟩
theorem mL {h:Heap} {C N:Addr} {mN:Str->Option Value} (X:ClsAt h C N mN):CObj h C N [.type "object"] "object.__new__":=by
 obtain ⟨nm,q,bs,sn,sub,col,dd,k0,k1,k2,k3,k5,e⟩:=X.obj
 exact ⟨nm,q,bs,sn,sub,col,dd,k0,k1,k2,k3,k5,e⟩
noncomputable def iu:Option Obj->Addr
 | some ⟨_,_,.cls cd,_⟩=>cd.ns
 | _=>0
noncomputable def fZ (k:Str):Bool:=match fastLookup "object" k with
 | some none=>true
 | _=>false
theorem iq {k:Str} (h:fZ k=true):typeLookup (.type "object") k=pure none:=by
 rw [typeLookup_type,builtinLookup_eq_fast]
 unfold fZ at h
 split at h
 ·rename_i e;rw [e]
 ·exact aN h
noncomputable def classOk (H:Heap) (C:Addr) (lay:List Str):Bool:=
 let N:=iu (H.get? C)
 H.isNs N&&(H.nsMap N "__getattribute__").isNone&&(H.nsMap N "__setattr__").isNone&&(H.nsMap N "__getattr__").isNone &&
  lay.all fun k=>fZ k&&(H.nsMap N k).isNone
theorem jo (w:World):CObj (MH w) 237 (iu ((MH w).get? 237)) [.type "object"] "object.__new__":=iA ((MH w).get? 237) (by kernel_rfl)
theorem jk (w:World):CObj (MH w) 685 (iu ((MH w).get? 685)) [.type "object"] "object.__new__":=iA ((MH w).get? 685) (by kernel_rfl)
theorem gA (w:World):CObj (MH w) 180 (iu ((MH w).get? 180)) [.type "object"] "object.__new__":=iA ((MH w).get? 180) (by kernel_rfl)
theorem ni (w:World):classOk (MH w) 237 layW=true:=by kernel_rfl
theorem n7 (w:World):classOk (MH w) 685 layR=true:=by kernel_rfl
theorem i7 (w:World):classOk (MH w) 180 yD=true:=by kernel_rfl
structure mi (w:World) (C:Addr):Prop where
 at_:∃N,ClsAt (MH w) C N ((MH w).nsMap N)/\(MH w).nsMap N "__getattribute__"=none/\(MH w).nsMap N "__setattr__"=none/\(MH w).nsMap N "__getattr__"=none/\∀k∈aV C,typeLookup (.type "object") k=pure none/\(MH w).nsMap N k=none
theorem jb {w:World} {C:Addr} (h:classOk (MH w) C (aV C)=true) (X:CObj (MH w) C (iu ((MH w).get? C)) [.type "object"] "object.__new__"):mi w C:=by
 generalize hH:MH w=H at h X
 unfold classOk at h
 simp only [Bool.and_eq_true,Option.isNone_iff_eq_none] at h
 obtain ⟨⟨⟨⟨h2,h3⟩,h4⟩,h5⟩,h6⟩:=h
 refine ⟨⟨iu (H.get? C),?_⟩⟩
 rw [hH]
 exact ⟨X.cls (.of_isNs h2),h3,h4,h5,fun k hk=>by
  have:=List.all_eq_true.mp h6 k hk
  rw [Bool.and_eq_true,Option.isNone_iff_eq_none] at this
  exact ⟨iq this.1,this.2⟩⟩
theorem qW (w:World):mi w 237:=jb (ni w) (jo w)
theorem vO (w:World):mi w 685:=jb (n7 w) (jk w)
theorem mY (w:World):mi w 180:=jb (i7 w) (gA w)
noncomputable def ft (C:Addr):Bool:=C==237||C==685||C==180
theorem nz {w:World} {C:Addr} (h:ft C=true):mi w C:=by
 unfold ft at h
 simp only [Bool.or_eq_true,beq_iff_eq] at h
 rcases h with (rfl | rfl) | rfl
 ·exact qW w
 ·exact vO w
 ·exact mY w
noncomputable def AObj.asInst:AObj->Option (Addr×Nat)
 | .inst C d=>d.map fun j=>(C,j)
 | _=>none
theorem qy {r:AObj} {p:Addr×Nat} (h:r.asInst=some p):r=.inst p.1 (some p.2):=by
 cases r with
 | inst C d=>
  obtain ⟨j,e1,e2⟩:=Option.map_eq_some_iff.mp h
  rw [e1,<-e2]
 | _=>exact aP h
noncomputable def AObj.asAttrs:AObj->Option (Addr×List RV)
 | .attrs C vs=>some (C,vs)
 | _=>none
theorem nR {r:AObj} {p:Addr×List RV} (h:r.asAttrs=some p):r=.attrs p.1 p.2:=by
 cases r with
 | attrs C vs=>rw [<-Option.some.inj h]
 | _=>exact aP h
noncomputable def fieldsOf (st:ai) (C:Addr) (r:RV):Option (Nat×List RV):=r.asObj.bind fun i=>(st[i]?.bind AObj.asInst).bind fun p=>(st[p.2]?.bind AObj.asAttrs).bind fun q=>if p.1=C/\q.1=C then some (p.2,q.2) else none
noncomputable def eH (st:ai) (C:Addr) (k:Nat) (r:RV):Option RV:=(fieldsOf st C r).bind fun p=>p.2[k]?
inductive zo (st:ai) (C:Addr) (r:RV) (p:Nat×List RV):Prop
 | mk (i:Nat) (e:r=.obj i) (e1:st[i]? = some (.inst C (some p.1))) (e2:st[p.1]? = some (.attrs C p.2))
theorem di {st:ai} {C:Addr} {r:RV} {p:Nat×List RV} (h:fieldsOf st C r=some p):zo st C r p:=by
 obtain ⟨i,h1,h⟩:=Option.bind_eq_some_iff.mp h
 obtain ⟨a,h2,h⟩:=Option.bind_eq_some_iff.mp h
 obtain ⟨o,h2,h3⟩:=Option.bind_eq_some_iff.mp h2
 obtain ⟨q,h4,h⟩:=Option.bind_eq_some_iff.mp h
 obtain ⟨o',h4,h5⟩:=Option.bind_eq_some_iff.mp h4
 obtain ⟨⟨g1,g2⟩,h⟩:=Option.ite_none_right_eq_some.mp h
 have h:=Option.some.inj h
 rw [qy h3,g1] at h2
 rw [nR h5,g2] at h4
 subst h
 exact ⟨i,ck h1,h2,h4⟩
section
variable {c:Cx} {γ:Lo} {st:ai} {ρ ρ₀:Pl} {h h₀:Heap} {tk:Nat} {e:Expr} {pos:Pos} {an:Str}
inductive wx (ρ:Pl) (h:Heap) (C:Addr) (j:Nat) (vs:List RV) (a:Addr):Prop
 | mk (d:Addr) (m:Str->Option Value) (o:Obj) (hj:ρ.vis[j]? = some d) (I:h.Inst a C m) (hne:d≠a) (ho:h.get? a=some o) (hc:o.cls=.ref C) (hd:o.dict=some d) (hn:∀c,o.data≠.cls c) (ns:h.Ns1 d m) (hl:vs.length<=(aV C).length)
  (hv:∀(j:Nat) k r,(aV C)[j]? = some k->vs[j]? = some r->∃v,m k=some v/\Rep ρ h r v) (hu:∀k,k∉(aV C).take vs.length->m k=none)
theorem Ok.instAt {i j:Nat} {a:Addr} {C:Addr} {vs:List RV} (ok:Ok c ρ γ st h) (hi:ρ.vis[i]? = some a) (h1:st[i]? = some (.inst C (some j))) (h2:st[j]? = some (.attrs C vs)):wx ρ h C j vs a:=by
 apply (ok.sto.reps i a _ hi h1).elim
 intro d o e e1 e2 e3 e4 hj
 apply (ok.sto.reps j d _ hj h2).elim
 intro m n l r u
 exact ⟨d,m,o,hj,⟨o,e,e1,e3,.inr ⟨d,e2,e4,n⟩⟩,e4,e,e1,e2,e3,n,l,r,u⟩
noncomputable def gQ:RV->Bool
 | .bi _=>true
 | _=>false
theorem Rep.handed {r:RV} {v:Value} (y:Rep ρ h r v) (hr:gQ r=false):handedOut v=pure v:=
 y.elim (R:=fun v=>handedOut v=pure v) (by cases r with
  | bi n=>exact vC hr
  | int i=>exact fun t=>rfl
  | str i=>exact fun t=>rfl
  | tup l=>exact fun a vs _ _ _=>rfl
  | lst l=>exact fun a vs _ _ _=>rfl
  | obj l=>exact fun a _=>rfl
  | _=>rfl)
theorem mO {C:Addr} {k:Nat} {a r:RV} {v₁:Value} {Q:Value->Shared->Prop} {E:Value->Shared->Prop} (hr:eH st C k a=some r) (hb:gQ r=false) (hC:ft C=true) (hk:(aV C)[k]? = some an) (ok:Ok c ρ γ st h) (y:Rep ρ h a v₁)
  (hq:∀v,Rep ρ h r v->Q v ⟨h,c.g,c.d,tk+1,c.os⟩):wpAny c.M c.A (getAttr v₁ an true) Q E ⟨h,c.g,c.d,tk,c.os⟩:=by
 obtain ⟨p,hf,hr2⟩:=Option.bind_eq_some_iff.mp hr
 obtain ⟨i,e,e1,e2⟩:=di hf
 subst e
 apply y.elim
 intro x hi
 obtain ⟨d,mm,o,hj,I,_,_,_,_,_,_,_,hv,_⟩:=ok.instAt hi e1 e2
 obtain ⟨v,hv1,yv⟩:=hv k an r hk hr2
 obtain ⟨N,X,g1,g2,g3,g4⟩:=(nz (w:=c.w) hC).at_
 obtain ⟨l1,l2⟩:=g4 an (List.mem_of_getElem? hk)
 have X':=X.keeps ok.mod
 obtain ⟨nm,q,bs,sn,sub,col,dd,k0,k1,k2,k3,k5,hCo⟩:=mL X'
 exact load_attr hCo X'.ns g1 l2 l1 I hv1 (yv.handed hb) (hq v yv)
theorem AY {r:RV} {α:Type} {x:Option α} {o:α} (h:(if gQ r then none else x)=some o):gQ r=false/\x=some o:=by
 cases q:gQ r with
 | true=>rw [q] at h;exact aP h
 | false=>rw [q] at h;exact ⟨rfl,h⟩
theorem EvR.attr {C:Addr} {k:Nat} {m:Option (Out RV)} {o:Out RV} (hm:aq m (fun a st₁=>(eH st₁ C k a).bind fun r=>if gQ r then none else some (.ok r st₁))=some o)
  (x:∀o,m=some o->EvR c γ st e o) (hC:ft C=true) (hk:(aV C)[k]? = some an)
  (he:eval (.Attribute e an pos) c.env=(do
   let o<-eval e c.env
   standAt pos.atName
   let r<-holding [o] (getAttr o an true)
   letTemporaryGo e o r
   pure r)):EvR c γ st (.Attribute e an pos) o:=fun ρ h tk ok=>
 Attribute_any_ (TR.seq hm (fun o e=>x o e ρ h tk ok) .refl fun a v₁ ρQ st₁ h₁ tkQ hmJ ok₁ sp₁ _ y₁=>by
  obtain ⟨r,hr,hmQ⟩:=Option.bind_eq_some_iff.mp hmJ
  obtain ⟨hb,hmQ⟩:=AY hmQ
  exact mO hr hb hC hk ok₁ y₁ fun v yv=>TR.ends' hmQ sp₁ ok₁ yv) he
noncomputable def xd (k:Nat) (v:RV) (vs:List RV):Option (List RV):=if k<vs.length then some (vs.set k v) else if k=vs.length then some (vs++[v]) else none
noncomputable def j3 (st:ai) (C:Addr) (k:Nat) (a v:RV):Option ai:=(fieldsOf st C a).bind fun p=>(xd k v p.2).map fun vs=>st.set p.1 (.attrs C vs)
inductive Ax (L:List Str) (an:Str) (k:Nat) (v:RV) (vs vs':List RV):Prop
 | mk (a1:vs'.length<=L.length) (a2:∀(j:Nat) r,vs'[j]? = some r->(j=k/\r=v)\/(j≠k/\vs[j]? = some r)) (a3:∀n,n∉L.take vs'.length->n≠an/\n∉L.take vs.length)
theorem uT {L:List Str} {an:Str} {k:Nat} {v:RV} {vs vs':List RV} (hk:L[k]? = some an) (hl:vs.length<=L.length) (h:xd k v vs=some vs'):Ax L an k v vs vs':=by
 have inTake:∀n:Nat,k<n->an∈L.take n:=fun n hn=>List.mem_of_getElem? ((List.getElem?_take_of_lt hn).trans hk)
 have hkl:=(List.getElem?_eq_some_iff.mp hk).1
 by_cases hlt:k<vs.length
 ·have h:=Option.some.inj ((if_pos hlt).symm.trans h)
  subst h
  refine ⟨(List.length_set ..).symm▸hl,fun jj r e=>?_,fun n hn=>?_⟩
  ·by_cases q:k=jj
   ·subst q
    rw [List.getElem?_set_self hlt] at e
    exact .inl ⟨rfl,(Option.some.inj e).symm⟩
   ·rw [List.getElem?_set_ne q] at e
    exact .inr ⟨fun z=>q z.symm,e⟩
  ·rw [List.length_set] at hn
   exact ⟨fun z=>hn (z▸inTake _ hlt),hn⟩
 ·have h:=(if_neg hlt).symm.trans h
  obtain ⟨he,h⟩:=Option.ite_none_right_eq_some.mp h
  have h:=Option.some.inj h
  subst h he
  refine ⟨by rw [List.length_append];exact hkl,fun jj r e=>?_,fun n hn=>?_⟩
  ·rcases Nat.lt_or_ge jj vs.length with q | q
   ·rw [List.getElem?_append_left q] at e
    exact .inr ⟨Nat.ne_of_lt q,e⟩
   ·have hb:=(List.getElem?_eq_some_iff.mp e).1
    rw [List.length_append] at hb
    have hj:=Nat.le_antisymm (Nat.le_of_lt_succ hb) q
    subst hj
    rw [List.getElem?_concat_length] at e
    exact .inl ⟨rfl,(Option.some.inj e).symm⟩
  ·rw [List.length_append] at hn
   exact ⟨fun z=>hn (z▸inTake _ (Nat.lt_succ_self _)),fun z=>hn (List.take_subset_take_left L (Nat.le_succ _) z)⟩
theorem qu (C:Addr):(aV C).Nodup:=by
 unfold aV
 split
 ·exact dc (by decide +kernel)
 ·split
  ·exact dc (by decide +kernel)
  ·split
   ·exact dc (by decide +kernel)
   ·exact .nil
theorem pZ (C:Addr):(aV C).length<=100:=by
 unfold aV
 split
 ·decide
 ·split
  ·decide
  ·split
   ·decide
   ·decide
theorem o7 {C:Addr} {k:Nat} {a v:RV} {st':ai} {v₁ v₂:Value} (hz:j3 st C k a v=some st') (hC:ft C=true) (hk:(aV C)[k]? = some an) (ok:Ok c ρ γ st h) (y₁:Rep ρ h a v₁) (y₂:Rep ρ h v v₂) :
  TR c same ρ γ h tk (setAttr v₁ an v₂) (Out.ok () st'):=by
 obtain ⟨p,hf,hz2⟩:=Option.bind_eq_some_iff.mp hz
 obtain ⟨vs',hp,hz2⟩:=Option.map_eq_some_iff.mp hz2
 obtain ⟨i,e,e1,e2⟩:=di hf
 subst e
 apply y₁.elim
 intro x hi
 obtain ⟨d,mm,ox,hj,I,hne,hx,hxc,hxd,hxn,hns,hl,hv,hu⟩:=ok.instAt hi e1 e2
 obtain ⟨N,X,g1,g2,g3,g4⟩:=(nz (w:=c.w) hC).at_
 obtain ⟨l1,l2⟩:=g4 an (List.mem_of_getElem? hk)
 have X':=X.keeps ok.mod
 obtain ⟨nm,q,bs,sn,sub,col,dd,k0,k1,k2,k3,k5,hCo⟩:=mL X'
 have hxC:x≠C:=fun e=>by
  obtain ⟨_,_,_,_,_,_,_,_,_,_,_,_,hCm⟩:=mL X
  exact ok.mod_off C _ hCm (e▸List.mem_of_getElem? hi)
 obtain ⟨a1,a2,a3⟩:=uT hk hl hp
 refine store_attr (ns:=aV C) PySem.F.store_object hCo X'.ns g2 l2 l1 hxC I (fun h' tk' I' hkp hsame=>?_) (fun n hn=>?_) (Nat.le_trans (pZ C) (by decide))
 ·obtain ⟨o₁,e₁,c₁,d₁,s₁,dk⟩:=hsame _ hx
  have eo:o₁=ox:=by
   obtain ⟨a1,a2,a3,a4⟩:=o₁
   obtain ⟨b1,b2,b3,b4⟩:=ox
   simp only at c₁ d₁ s₁ dk hxd
   rw [c₁,d₁,s₁,dk d hxd,hxd]
  subst eo
  have hk':∀b o,b≠d->h.get? b=some o->h'.get? b=some o:=fun b o hb e=>by
   by_cases hbx:b=x
   ·subst hbx
    exact e₁.trans (hx.symm.trans e)
   ·exact hkp b o hbx (fun o₀ dx e₀ ed q=>hb (q.trans (Option.some.inj (ed.symm.trans ((congrArg Obj.dict (Option.some.inj (e₀.symm.trans hx))).trans hxd))))) e
  have hns':h'.Ns1 d (fun y=>if y=an then some v₂ else mm y):=by
   obtain ⟨o',e',_,_,hd'⟩:=I'
   have eo:=Option.some.inj (e'.symm.trans e₁)
   subst eo
   rcases hd' with ⟨hn0,_⟩ | ⟨d',hd',_,hns'⟩
   ·exact aP (hn0.symm.trans hxd)
   ·exact Option.some.inj (hd'.symm.trans hxd)▸hns'
  obtain ⟨ok',sp⟩:=ok.set (o:=.attrs C vs') hj hk' (hns'.elim fun o y=>y.elim fun _ y=>y.elim fun _ y=>⟨o,y.1⟩) fun rp=>.attrs hns' a1 (fun jj kk r b1 b2=>by
   rcases a2 jj r b2 with ⟨b3,b4⟩ | ⟨b3,b4⟩
   ·subst b3 b4
    exact ⟨v₂,if_pos (Option.some.inj (b1.symm.trans hk)),rp y₂⟩
   ·obtain ⟨vv,z1,z2⟩:=hv jj kk r b1 b4
    exact ⟨vv,(if_neg fun q=>b3 ((List.getElem?_inj (List.getElem?_eq_some_iff.mp b1).1 (qu C)).mp (b1.trans ((congrArg some q).trans hk.symm)))).trans z1,rp z2⟩) fun n hn=>(if_neg (a3 n hn).1).trans (hu n (a3 n hn).2)
  exact hz2▸TR.ends sp ok' rfl
 ·exact Classical.byContradiction fun q=>hn (hu n fun m=>q (List.mem_of_mem_take m))
end
noncomputable def bU (l:List (Str×RV)) (k:Str):List (Str×RV):=l.filter fun p=>decide (p.1≠k)
noncomputable def ay (l:List (Str×RV)) (k:Str) (r:RV):List (Str×RV):=if l.any (fun p=>decide (p.1=k)) then l.map (fun p=>if p.1=k then (p.1,r) else p) else l++[(k,r)]
section
variable {ρ:Pl} {h:Heap}
theorem DRep.any {k:Str} {es:List (Str×Value)} {l:List (Str×RV)} (y:DRep ρ h es l):es.any (fun p=>decide (p.1=k))=l.any (fun p=>decide (p.1=k)):=by
 induction y with
 | nil=>rfl
 | cons a b ih=>rw [List.any_cons,List.any_cons,ih]
theorem DRep.snoc {k:Str} {v:Value} {r:RV} (y:Rep ρ h r v) {es:List (Str×Value)} {l:List (Str×RV)} (d:DRep ρ h es l):DRep ρ h (es++[(k,v)]) (l++[(k,r)]):=by
 induction d with
 | nil=>exact .cons y .nil
 | cons a b ih=>exact .cons a ih
theorem DRep.put {k:Str} {v:Value} {r:RV} (y:Rep ρ h r v) {es:List (Str×Value)} {l:List (Str×RV)} (d:DRep ρ h es l):DRep ρ h (es.map fun p=>if p.1=k then (p.1,v) else p) (l.map fun p=>if p.1=k then (p.1,r) else p):=by
 induction d with
 | nil=>exact .nil
 | @cons x _ _ _ _ a b ih=>
  rw [List.map_cons,List.map_cons]
  by_cases q:x=k
  ·rw [if_pos q,if_pos q];exact .cons y ih
  ·rw [if_neg q,if_neg q];exact .cons a ih
theorem DRep.stored {k:Str} {v:Value} {r:RV} {es:List (Str×Value)} {l:List (Str×RV)} (d:DRep ρ h es l) (y:Rep ρ h r v):DRep ρ h (PySem.stored es k v) (ay l k r):=by
 unfold PySem.stored ay
 rw [d.any]
 by_cases q:l.any (fun p=>decide (p.1=k))=true
 ·rw [if_pos q,if_pos q];exact d.put y
 ·rw [if_neg q,if_neg q];exact d.snoc y
theorem DRep.without {k:Str} {es:List (Str×Value)} {l:List (Str×RV)} (d:DRep ρ h es l):DRep ρ h (PySem.without es k) (bU l k):=by
 induction d with
 | nil=>exact .nil
 | @cons x _ _ _ _ a b ih=>
  unfold PySem.without bU
  rw [List.filter_cons,List.filter_cons]
  by_cases q:x=k
  ·rw [if_neg fun z=>(of_decide_eq_true z:x≠k) q,if_neg fun z=>(of_decide_eq_true z:x≠k) q];exact ih
  ·rw [if_pos (decide_eq_true q),if_pos (decide_eq_true q)];exact .cons a ih
theorem DRep.length {es:List (Str×Value)} {l:List (Str×RV)} (d:DRep ρ h es l):es.length=l.length:=by
 induction d with
 | nil=>rfl
 | cons a b ih=>exact congrArg Nat.succ ih
end
inductive CM where
 | append | pop | extend | get | take
noncomputable def CM.id:CM->String
 | .append=>"list.append"
 | .pop=>"list.pop"
 | .extend=>"list.extend"
 | .get=>"dict.get"
 | .take=>"dict.pop"
noncomputable def wu (l:List RV):Option (RV×RV):=((oneOf l).map fun k=>(k,RV.none)).or (fz l)
noncomputable def dH (m:CM) (st:ai) (a:RV) (l:List RV):Option (RV×ai):=a.asObj.bind fun i=>match m with
 | .append=>(listAt st i).bind fun xs=>(oneOf l).bind fun x=>if xs.length<16777216 then some (.none,st.set i (.list (xs++[x]))) else none
 | .pop=>(listAt st i).bind fun xs=>xs.getLast?.bind fun x=>if l.isEmpty=true/\xs.length<16777216 then some (x,st.set i (.list xs.dropLast)) else none
 | .extend=>(listAt st i).bind fun xs=>(oneOf l).bind fun y=>y.asLst.bind fun ys=>if xs.length+ys.length<16777216 then some (.none,st.set i (.list (xs++ys))) else none
 | .get=>(dictAt st i).bind fun es=>(wu l).bind fun p=>p.1.asStr.map fun k=>((es.lookup k).getD p.2,st)
 | .take=>(dictAt st i).bind fun es=>(fz l).bind fun p=>p.1.asStr.bind fun k=>if es.length<16777216 then some ((es.lookup k).getD p.2,cond (es.lookup k).isSome (st.set i (.dict (bU es k))) st) else none
theorem dP {st:ai} {i:Nat} {l:List RV} (h:st[i]? = some (.list l)):listAt st i=some l:=by
 unfold listAt;rw [h];rfl
theorem cy {st:ai} {i:Nat} {l:List (Str×RV)} (h:st[i]? = some (.dict l)):dictAt st i=some l:=by
 unfold dictAt;rw [h];rfl
theorem vI {l:List RV} {p:RV×RV} (h:wu l=some p):(l=[p.1]/\p.2=.none)\/l=[p.1,p.2]:=by
 unfold wu at h
 cases q:oneOf l with
 | none=>rw [q] at h;exact .inr (cB h)
 | some k=>rw [q] at h;rw [<-Option.some.inj h];exact .inl ⟨aR q,rfl⟩
section
variable {c:Cx} {γ:Lo} {st st':ai} {ρ ρ₀:Pl} {h h₀:Heap} {tk:Nat}
theorem nE {i:Nat} {a:Addr} {xs:List RV} {x:RV} {v:Value} (ok:Ok c ρ γ st h) (hi:ρ.vis[i]? = some a) (hs:st[i]? = some (.list xs)) (hl:xs.length<16777216) (y:Rep ρ h x v) :
  TR c c.rv ρ γ h tk (call (.builtin "list.append") [.ref a,v]) (.ok .none (st.set i (.list (xs++[x])))):=by
 obtain ⟨vs,n,e,yl⟩:=ok.listAt hi hs
 refine wpAny_list_append_plain ⟨n,e⟩ (fun h' hp hsb=>?_) (by rw [List.size_toArray,yl.length];exact Nat.le_of_lt hl)
 obtain ⟨n',e'⟩:=hp
 rw [List.push_toArray] at e'
 obtain ⟨ok',sp⟩:=ok.set (o:=.list (xs++[x])) hi (fun b o hb e=>(hsb.2 b hb).trans e) ⟨_,e'⟩ fun rp=>.list (vs:=vs++[v]) e' ((yl.map rp).append (.cons (rp y) .nil))
 exact TR.ends sp ok' .none
theorem tJ {i:Nat} {a:Addr} {es:List (Str×RV)} {k:Str} {t:Tok} (ok:Ok c ρ γ st h) (hi:ρ.vis[i]? = some a) (hs:st[i]? = some (.dict es)) :
  TR c c.rv ρ γ h tk (call (.builtin "dict.get") [.ref a,.str k t]) (.ok ((es.lookup k).getD .none) st):=by
 obtain ⟨kvs,d,r⟩:=ok.dictAt hi hs
 refine call_meetsIn F.slot_dict_get d.mapOf.typeIs F.entry_dict_get (F.args_dict_get_2 _ _) (meets_dict_get (strKind pw c.w) a (strKind_is pw c.w k t) (ok.notSys (List.mem_of_getElem? hi) (ew _))) ⟨_,d.mapOf,?_⟩
 rcases r.valueAt (x:=k) with ⟨e1,e2⟩ | ⟨v,r',e1,e2,y⟩
 ·rw [e1,e2];exact TR.ends .refl ok .none
 ·rw [e1,e2];exact TR.ends .refl ok y
theorem lq (l:Addr) (items:Array Value) (n:Nat) (b:Addr) (items2:Array Value) (n2:Nat) (dd2:Option Addr) (sl2:Array (Option Value)) (hc1:items.size<=sizeLine) (hs2:items.size+items2.size<=sizeLine) :
  Meets (Builtin.«list.extend» ⟨[.ref l,.ref b],[]⟩) (fun _ R s=>s.heap.get? l=some { cls:=.type "list",dict:=none,data:=.seq items n,slots:= #[] }/\s.heap.get? b=some { cls:=.type "list",dict:=dd2,data:=.seq items2 n2,slots:=sl2 } /\
   R (.ok (.ret Value.none)) { s with heap:=s.heap.update l (Obj.mapSeq fun x=>x++items2),toks:=s.toks }):=
 .of_wp fun prog w A R s h=>by
  obtain ⟨hp,g,d,tk,os⟩:=s;obtain ⟨hl,hb,h⟩:=h;have f1:=AutoSeq1.idx_int;have f2:=AutoSeq1.sub_tuple_tuple;have f3:=AutoSeq1.sub_list_list;have f4:=AutoSeq1.sub_tuple_list;have f5:=AutoSeq1.sub_list_tuple
  have hz':(items++items2).size<=sizeLine+1:=by rw [Array.size_append];exact Nat.le_succ_of_le hs2
  have hc0:¬(!items.isEmpty&&Builtin.List.listTooLong (items.size+items2.size))=true:=by
   rw [show Builtin.List.listTooLong (items.size+items2.size)=false from decide_eq_false (Nat.not_lt.mpr hs2),Bool.and_false]
   exact Bool.false_ne_true
  wp_walk using (wpAny_updateSeq hl rfl (hz:=hc1) (_hz':=hz')),AutoSeq1.wpAny_loadPart' hl,AutoSeq1.wpAny_loadPart' hb;exact ⟨_,rfl,h⟩
theorem qA (l:Addr) (items:Array Value) (n:Nat) (k:Nat) (x:Value) (hx:((seqIndex? (-1) items.size).bind fun k=>items[k]?.map (k,·))=some (k,x)) (hne:¬ items.isEmpty=true) (hc1:items.size<=sizeLine) :
  Meets (Builtin.«list.pop» ⟨[.ref l],[]⟩) (fun _ R s=>s.heap.get? l=some { cls:=.type "list",dict:=none,data:=.seq items n,slots:= #[] } /\
   R (.ok (.ret x)) { s with heap:=s.heap.update l (Obj.mapSeq fun x=>x.eraseIdxIfInBounds k),toks:=s.toks }):=
 .of_wp fun prog w A R s h=>by
  obtain ⟨hp,g,d,tk,os⟩:=s;obtain ⟨hl,h⟩:=h;have f1:=AutoSeq1.idx_int;have f2:=AutoSeq1.sub_tuple_tuple;have f3:=AutoSeq1.sub_list_list;have f4:=AutoSeq1.sub_tuple_list;have f5:=AutoSeq1.sub_list_tuple
  have hz':(items.eraseIdxIfInBounds k).size<=sizeLine+1:=by
   unfold Array.eraseIdxIfInBounds
   by_cases q:k<items.size
   ·rw [dif_pos q,Array.size_eraseIdx];exact Nat.le_succ_of_le (Nat.le_trans (Nat.sub_le _ _) hc1)
   ·rw [dif_neg q];exact Nat.le_succ_of_le hc1
  wp_walk using AutoSeq1.wpAny_loadPart' hl
  rw [hx]
  wp_walk using (wpAny_updateSeq hl rfl (hz:=hc1) (_hz':=hz')),AutoSeq1.wpAny_loadPart' hl;exact ⟨_,rfl,h⟩
theorem ml {i:Nat} {a b:Addr} {xs ys:List RV} {ws:List Value} (ok:Ok c ρ γ st h) (hi:ρ.vis[i]? = some a) (hs:st[i]? = some (.list xs)) (hl:xs.length+ys.length<16777216) (yb:h.IsList b ws.toArray) (y:RepL ρ h ys ws) :
  TR c c.rv ρ γ h tk (call (.builtin "list.extend") [.ref a,.ref b]) (.ok .none (st.set i (.list (xs++ys)))):=by
 obtain ⟨vs,n,e,yl⟩:=ok.listAt hi hs
 obtain ⟨⟨cls2,dd2,data2,sl2⟩,ho2,hc2,n2,hd2⟩:=yb
 simp only at hc2 hd2
 subst hc2 hd2
 refine call_meets F.slot_list_extend ⟨_,e,rfl⟩ F.entry_list_extend (F.args_list_extend_2 _ _) (lq a vs.toArray n b ws.toArray n2 dd2 sl2 (by rw [List.size_toArray,yl.length,sizeLine_eq];exact Nat.le_of_lt (Nat.lt_of_le_of_lt (Nat.le_add_right _ _) hl)) (by rw [List.size_toArray,List.size_toArray,yl.length,y.length,sizeLine_eq];exact Nat.le_of_lt hl)) ⟨e,ho2,?_⟩
 have e':∃n',(h.update a (Obj.mapSeq fun x=>x++ws.toArray)).get? a=some { cls:=.type "list",dict:=none,data:=.seq (vs++ws).toArray n',slots:= #[] }:=by
  rw [Heap.get?_update_self _ e rfl]
  exact ⟨if ws=[] then n else n+1,by simp [Obj.mapSeq]⟩
 obtain ⟨n',e'⟩:=e'
 obtain ⟨ok',sp⟩:=ok.set (o:=.list (xs++ys)) hi (fun b o hb e=>(Heap.get?_update_other _ _ (Ne.symm hb)).trans e) ⟨_,e'⟩ fun rp=>.list (vs:=vs++ws) e' ((yl.map rp).append (y.map rp))
 exact TR.ends sp ok' .none
theorem RepL.last {l:List RV} {vs:List Value} {r:RV} (y:RepL ρ h l vs) (e:l.getLast? = some r):∃ws v,vs=ws++[v]/\Rep ρ h r v/\RepL ρ h l.dropLast ws:=by
 induction l generalizing vs with
 | nil=>exact aP e
 | cons a l ih=>
  refine y.elim (R:=fun vs=>∃ws v,vs=ws++[v]/\Rep ρ h r v/\RepL ρ h (a::l).dropLast ws) fun v vs y1 y2=>?_
  cases l with
  | nil=>exact y2.elim (R:=fun vs=>∃ws v',v::vs=ws++[v']/\Rep ρ h r v'/\RepL ρ h [] ws) ⟨[],v,rfl,Option.some.inj e▸y1,.nil⟩
  | cons b l=>
   obtain ⟨ws,v',e1,e2,e3⟩:=ih y2 (List.getLast?_cons_cons.symm.trans e)
   exact ⟨v::ws,v',congrArg (List.cons v) e1,e2,.cons y1 e3⟩
theorem vx {ws:List Value} {v:Value}:((seqIndex? (-1) (ws++[v]).toArray.size).bind fun k=>(ws++[v]).toArray[k]?.map (k,·))=some (ws.length,v):=by
 have e3:seqIndex? (-1) (ws++[v]).toArray.size=some ws.length:=by
  unfold seqIndex?
  simp
  lia
 rw [e3,Option.bind_some]
 simp
theorem sX {i:Nat} {a:Addr} {xs:List RV} {r:RV} (ok:Ok c ρ γ st h) (hi:ρ.vis[i]? = some a) (hs:st[i]? = some (.list xs)) (hl:xs.length<16777216) (hr:xs.getLast? = some r) :
  TR c c.rv ρ γ h tk (call (.builtin "list.pop") [.ref a]) (.ok r (st.set i (.list xs.dropLast))):=by
 obtain ⟨vs,n,e,yl⟩:=ok.listAt hi hs
 have z1:=yl.length
 obtain ⟨ws,v,e1,y,yd⟩:=yl.last hr
 subst e1
 refine call_meets F.slot_list_pop ⟨_,e,rfl⟩ F.entry_list_pop (F.args_list_pop_1 _) (qA a (ws++[v]).toArray n ws.length v vx (by simp) (by rw [List.size_toArray,z1,sizeLine_eq];exact Nat.le_of_lt hl)) ⟨e,?_⟩
 have e':(h.update a (Obj.mapSeq fun x=>x.eraseIdxIfInBounds ws.length)).get? a=some { cls:=.type "list",dict:=none,data:=.seq ws.toArray (n+1),slots:= #[] }:=by
  rw [Heap.get?_update_self _ e rfl]
  have:(ws++[v]).eraseIdx ws.length=ws:=by rw [List.eraseIdx_append_of_length_le (Nat.le_refl _),Nat.sub_self];exact List.append_nil ws
  simp [Obj.mapSeq,this]
 obtain ⟨ok',sp⟩:=ok.set (o:=.list xs.dropLast) hi (fun b o hb e=>(Heap.get?_update_other _ _ (Ne.symm hb)).trans e) ⟨_,e'⟩ fun rp=>.list (vs:=ws) e' (yd.map rp)
 exact TR.ends sp ok' (sp.rep y)
theorem p7 {i:Nat} {a:Addr} {es:List (Str×RV)} {k:Str} {t:Tok} {d:RV} {vd:Value} (ok:Ok c ρ γ st h) (hi:ρ.vis[i]? = some a) (hs:st[i]? = some (.dict es)) (yd:Rep ρ h d vd) :
  TR c c.rv ρ γ h tk (call (.builtin "dict.get") [.ref a,.str k t,vd]) (.ok ((es.lookup k).getD d) st):=by
 obtain ⟨kvs,dd,r⟩:=ok.dictAt hi hs
 refine call_meetsIn F.slot_dict_get dd.mapOf.typeIs F.entry_dict_get (F.args_dict_get_3 _ _ _) (meets_dict_get_default (strKind pw c.w) a (strKind_is pw c.w k t) (ok.notSys (List.mem_of_getElem? hi) (ew _)) vd) ⟨_,dd.mapOf,?_⟩
 rcases r.valueAt (x:=k) with ⟨e1,e2⟩ | ⟨v,r',e1,e2,y⟩
 ·rw [e1,e2];exact TR.ends .refl ok yd
 ·rw [e1,e2];exact TR.ends .refl ok y
end
noncomputable def fq:List Value:=[.type "Exception",.type "BaseException",.type "object"]
noncomputable abbrev ExcAt (h:Heap) (C N:Addr):Prop:=CObj h C N fq "Exception.__new__"
inductive zp (H:Heap):Prop
 | mk (N:Addr) (mN:Str->Option Value) (X:ExcAt H 41 N) (hn:H.Ns N mN) (n1:mN "__setattr__"=none) (n2:mN "code"=none) (n3:mN "told"=none) (n4:mN "__init__"=some (.ref 38)) (n5:mN "__getattribute__"=none) (n6:mN "__getattr__"=none)
theorem xe (w:World):zp (MH w):=⟨iu ((MH w).get? 41),(MH w).nsMap (iu ((MH w).get? 41)),iA ((MH w).get? 41) (by kernel_rfl),.of_isNs (by kernel_rfl),by kernel_rfl,by kernel_rfl,by kernel_rfl,by kernel_rfl,by kernel_rfl,by kernel_rfl⟩
theorem fg (w:World) (H:Heap) (hH:MH w=H):zp H:=hH▸xe w
theorem pA {o:Expr} {name:Str} {apos pos:Pos} {args:List Expr} {env:Env} (hst:(backTo pos (starEach args env)).all (fun x=> !x.1)=true) (hn:args.length<29) (hline:(apos.endLine==pos.line)=true) :
  eval (.Call (.Attribute o name apos) args [] pos) env=(do
   let ov<-attributeBase o name env (eval o env)
   standAt apos.atName
   let (f,first)<-holding [ov] (getMethod ov name (do return (<-importBound o env).getD true))
   callWith pos f first (backTo pos (starEach args env)) []):=by
 have hform:methodCallForm (args.length+([]:List Keyword).length) (backTo pos (starEach args env)) (backToKw pos (keywordEach [] env))=true:=by
  unfold methodCallForm
  rw [hst]
  show (true&&true&&decide (args.length+0+0<30))=true
  simp;lia
 have hpos:methodCallPos true o env apos pos=pure pos:=by unfold methodCallPos;simp [hline]
 rw [arm_eval_Call]
 show (do
  let ov<-attributeBase o name env (eval o env)
  standAt apos.atName
  methodCall o name apos pos env ov (args.length+([]:List Keyword).length) (backTo pos (starEach args env)) (backToKw pos (keywordEach [] env)))=_
 unfold methodCall
 rw [hform]
 simp only [hpos,pure_bind]
 rfl
noncomputable def rc (w:World):FuncData:=(rF (MH w) 38).get (by kernel_rfl)
theorem uS (w:World):rF (MH w) 38=some (rc w):=(Option.some_get _).symm
noncomputable def rQ (H:Heap) (d:Value):Bool:=match d with
 | .ref T=>az (H.get? T) fun o=>match o.data with
  | .seq vs _=>(oneOf vs.toList).isSome
  | _=>false
 | _=>false
theorem xl (w:World):rQ (MH w) (rc w).defaults=true:=by kernel_rfl
noncomputable def pL:List Stmt:=[.Expr (.Call (.Attribute (.Call (.Name "super" ⟨10,8,10,13⟩) [] [] ⟨10,8,10,15⟩) "__init__" ⟨10,8,10,24⟩) [.Name "code" ⟨10,25,10,29⟩] [] ⟨10,8,10,30⟩) ⟨10,8,10,30⟩,.Assign [.Attribute (.Name "self" ⟨11,8,11,12⟩) "code" ⟨11,8,11,17⟩] (.Name "code" ⟨11,20,11,24⟩) ⟨11,8,11,24⟩,.Assign [.Attribute (.Name "self" ⟨12,8,12,12⟩) "told" ⟨12,8,12,17⟩] (.Name "told" ⟨12,20,12,24⟩) ⟨12,8,12,24⟩]
noncomputable def isStr (f:Str) (v:Value):Bool:=match v with
 | .str x _=>f==x
 | _=>false
noncomputable def mK (H:Heap) (f:Str) (v:Value):Bool:=match v with
 | .ref c=>az (H.get? c) fun o=>match o.data with
  | .fields vs=>az vs[2]? (isStr f)
  | _=>false
 | _=>false
theorem m9 {H:Heap} {f:Str} {v:Value} (h:mK H f v=true):∃c o vs x t,v=.ref c/\H.get? c=some o/\o.data=.fields vs/\vs[2]? = some (.str x t)/\(f==x)=true:=by
 cases v with
 | ref c=>
  obtain ⟨o,e,h⟩:=aj h
  have hd:∃vs,o.data=.fields vs/\az vs[2]? (isStr f)=true:=by
   generalize o.data=D at h
   cases D with
   | fields vs=>exact ⟨vs,rfl,h⟩
   | _=>exact aN h
  obtain ⟨vs,e2,h⟩:=hd
  obtain ⟨x,e3,h⟩:=aj h
  cases x with
  | str x t=>exact ⟨c,o,vs,x,t,rfl,e,e2,e3,h⟩
  | _=>exact aN h
 | _=>exact aN h
noncomputable def uQ (a:Addr) (d:Data):Bool:=match d with
 | .cell x=>az x fun v=>match v with
  | .ref b=>decide (b=a)
  | _=>false
 | _=>false
noncomputable def rn (a:Addr) (o:Option Obj):Bool:=az o fun o=>uQ a o.data
theorem mz {h:Heap} {c a:Addr} (x:rn a (h.get? c)=true):h.IsCell c (some (.ref a)):=by
 obtain ⟨o,e,x⟩:=aj x
 refine ⟨o,e,?_⟩
 generalize o.data=D at x
 cases D with
 | cell y=>
  obtain ⟨v,e,x⟩:=aj x
  cases v with
  | ref b=>rw [e,of_decide_eq_true x]
  | _=>exact aN x
 | _=>exact aN x
theorem nV (w:World):(MH w).nsMap mainGlobals "super"=none/\(MH w).nsMap builtinsNs "super"=some (.type "super"):=wh (H:=MH w) (tP w) (by decide +kernel)
theorem qV:(pw.main.scope.names.lookup ("super":Str)).isSome=false:=by kernel_rfl
theorem nC (w:World):(MH w).isNs cStatics=true/\(MH w).nsMap cStatics "thirdparty.any"=none:=⟨by kernel_rfl,by kernel_rfl⟩
theorem jw {w:World} {M:Model} {h:Heap} (k:kept w h) {C:Addr}:Looks M h (opaqueClassAbove (.ref C)) none:=fun A Q E s hk q=>by
 have hn:=((Heap.Ns.of_isNs (nC w).1).keeps k).keeps hk
 unfold opaqueClassAbove anyOpaqueLoaded
 refine wpAny_bind (wpAny_bind (wpAny_nsGet hn ?_))
 rw [(nC w).2]
 exact wpAny_pure (wpAny_pure q)
theorem xj:classOwn (.type "Exception") "__init__"=pure (some (.builtin "Exception.__init__")):=by kernel_rfl
theorem pq:typeOf (.builtin "Exception.__init__")=pure (.type "wrapper_descriptor"):=by show builtinType _=_;rw [builtinType_eq_fast];kernel_rfl
theorem xi_slot:Slot "wrapper_descriptor" "__get__" "wrapper_descriptor.__get__":=
 .of (owner:="wrapper_descriptor") (n:="__get__") (by rw [typeLookup_type,builtinLookup_eq_fast];kernel_rfl) (by decide +kernel) (by decide +kernel) (by decide +kernel)
  (by first | exact .inl (by decide +kernel) | exact .inr (by decide +kernel)) (by rw [isSubtype_type];kernel_rfl)
theorem rY:entryFor table "wrapper_descriptor.__get__"=some Builtin.«wrapper_descriptor.__get__»:=entryFor_of_tree (by kernel_rfl)
theorem vE (a b c:Value):argsOk "wrapper_descriptor.__get__" ⟨[a,b,c],[]⟩:=by unfold argsOk;kernel_rfl
noncomputable abbrev bF (e:Addr):Obj:={ cls:=.type "method-wrapper",data:=.fields #[.builtin "Exception.__init__",.ref e] }
section
variable {prog:Program} {w:World} {A:Around} {E:Value->Shared->Prop} {h:Heap} {g:Array GenState} {d:Drawn} {t:Nat} {os:OsState} {e so N:Addr} {oe:Obj}
theorem vf {Q:Bool->Shared->Prop} (X:ExcAt h 41 N) (he:h.get? e=some oe) (hc:oe.cls=.ref 41) (hq:Q true ⟨h,g,d,t,os⟩):wpAny (model prog w) A (isInstance (.ref e) (.type "Exception")) Q E ⟨h,g,d,t,os⟩:=by
 obtain ⟨nm,q,bs,sn,sub,col,dd,k0,k1,k2,k3,k5,hC⟩:=X
 have hcB:(Value.ref 41::fq).contains (.type "Exception")=true:=by decide +kernel
 unfold isInstance
 repeat (first | (with_reducible refine wpAny_loadPart_at he ?_;rw [hc]) | (with_reducible refine wpAny_isSubtype_exc hC ?_;rw [hcB]) | wp_step)
 exact hq
theorem wR {Q:Fin->Shared->Prop} (X:ExcAt h 41 N) (he:h.get? e=some oe) (hc:oe.cls=.ref 41) (hq:Q (.done (.ret (.ref h.objs.size))) ⟨h.push (bF e),g,d,t,os⟩) :
  wpAny (model prog w) A (Builtin.«wrapper_descriptor.__get__» ⟨[.builtin "Exception.__init__",.ref e,.ref 41],[]⟩) Q E ⟨h,g,d,t,os⟩:=by
 unfold Builtin.«wrapper_descriptor.__get__»
 refine wpAny_bind (wpAny_of_eq (a:=(.builtin "Exception.__init__",some (.ref e),some (.ref 41))) (by first | rfl | kernel_rfl) ?_)
 refine wpAny_bind (wpAny_bind (wpAny_of_eq (a:=(("__init__":Str),Value.type "Exception")) (by kernel_rfl) ?_))
 refine wpAny_bind (vf X he hc ?_)
 refine wpAny_pure ?_
 unfold newFields
 refine wpAny_bind (wpAny_newObj_type ?_ (by size_fits))
 exact wpAny_pure hq
theorem ze {tk:Tok} {Q:Fin->Shared->Prop} (k:kept w h) (X:ExcAt h 41 N)
  (hso:h.get? so=some { cls:=.type "super",dict:=none,data:=.fields #[.ref 41,.ref e,.ref 41],slots:= #[] }) (he:h.get? e=some oe) (hc:oe.cls=.ref 41) (hxC:e≠41)
  (hq:Q (.done (.ret (.ref h.objs.size))) ⟨h.push (bF e),g,d,t,os⟩) :
  wpAny (model prog w) A (Builtin.«super.__getattribute__» ⟨[.ref so,.str "__init__" tk],[]⟩) Q E ⟨h,g,d,t,os⟩:=by
 obtain ⟨nm,q,bs,sn,sub,col,dd,k0,k1,k2,k3,k5,hC⟩:=id X
 have hlk:=xi_slot.lookup
 have hTf:(⟨h,g,d,t,os⟩:Shared).TypeIs (.builtin "Exception.__init__") "wrapper_descriptor":=pq
 have hne:(Value.ref e==Value.ref 41)=false:=by simp [hxC]
 have hdt:({ cls:=.type "super",dict:=none,data:=.fields #[.ref 41,.ref e,.ref 41],slots:= #[] }:Obj).data=.fields #[.ref 41,.ref e,.ref 41]:=rfl
 have f0:(#[.ref 41,.ref e,.ref 41]:Array Value)[0]? = some (.ref 41):=rfl
 have f1:(#[.ref 41,.ref e,.ref 41]:Array Value)[1]? = some (.ref e):=rfl
 have f2:(#[.ref 41,.ref e,.ref 41]:Array Value)[2]? = some (.ref 41):=rfl
 have hno:Looks (model prog w) h (opaqueClassAbove (.ref 41)) none:=jw k
 have hn:(("__init__":Str)==("__class__":Str))=false:=by decide +kernel
 have hl:(((Value.ref 41::fq).dropWhile (· != Value.ref 41)).drop 1)=fq:=rfl
 unfold Builtin.«super.__getattribute__»
 repeat (first
  | (with_reducible refine wpAny_field hso hdt f0 ?_) | (with_reducible refine wpAny_field hso hdt f1 ?_) | (with_reducible refine wpAny_field hso hdt f2 ?_)
  | (with_reducible refine ks_wpAny_notOpaque hno ?_)
  | (with_reducible refine wpAny_mroOf_exc hC ?_;rw [hl];unfold fq;rw [List.forIn_cons])
  | (with_reducible refine wpAny_of_eq xj ?_)
  | (with_reducible refine wpAny_of_eq pq ?_)
  | (with_reducible refine wpAny_call_entry xi_slot hTf rY ?_ (vE _ _ _))
  | (with_reducible refine wR X he hc ?_)
  | (with_reducible refine ⟨_,rfl,?_⟩)
  | (simp only [hn,hne,Bool.or_false,Bool.false_eq_true,if_false])
  | wp_step
  | dsimp only)
 all_goals exact hq
theorem qo {pl:Sem Bool} {Q:Value×List Value->Shared->Prop} (k:kept w h) (X:ExcAt h 41 N)
  (hso:h.get? so=some { cls:=.type "super",dict:=none,data:=.fields #[.ref 41,.ref e,.ref 41],slots:= #[] }) (he:h.get? e=some oe) (hc:oe.cls=.ref 41) (hxC:e≠41)
  (hq:Q (.ref h.objs.size,[]) ⟨h.push (bF e),g,d,t+1,os⟩):wpAny (model prog w) A (getMethod (.ref so) "__init__" pl) Q E ⟨h,g,d,t,os⟩:=by
 have hlk:=F.ks_slot_super_ga.lookup
 have hcan:=F.ks_canon_super_ga
 have hT:∀t',(⟨h,g,d,t',os⟩:Shared).TypeIs (.ref so) "super":=fun _=>⟨_,hso,rfl⟩
 unfold getMethod
 refine wpAny_bind (wpAny_specialOf (hT _) hlk ?_)
 show wpAny _ _ (if (Manifest.canonical "super.__getattribute__" != "object.__getattribute__")=true then _ else _) _ _ _
 rw [if_pos hcan]
 unfold getAttr getAttrBy
 refine wpAny_bind (wpAny_bind (wpAny_mkText (wpAny_holding (wpAny_bind (wpAny_typeOf (hT _) (wpAny_bind (wpAny_of_eq hlk ?_)))))))
 show wpAny _ _ (getAttrByItsOwn (.ref so) (.str "__init__" t) (.type "super") (.builtin "super.__getattribute__") true false) _ _ _
 unfold getAttrByItsOwn hookBefore callGetattribute boundAndCalled
 refine wpAny_bind (wpAny_of_eq (show (if onTheHeap (.type "super") then typeLookup (.type "super") "__getattr__" else pure none)=pure none from rfl) ?_)
 refine wpAny_bind (wpAny_attempt (wpAny_holding ?_))
 show wpAny _ _ (bindSpecial (.builtin "super.__getattribute__") (.ref so) >>= _) _ _ _
 refine wpAny_bind (wpAny_of_eq (F.ks_slot_super_ga.bind _) ?_)
 refine wpAny_mono (Q:=fun v s'=>v=.ref h.objs.size/\s'=⟨h.push (bF e),g,d,t+1,os⟩) (E:=fun _ _=>False)
  (wpAny_call_entry F.ks_slot_super_ga (hT _) F.ks_entry_super_ga (ze k X hso he hc hxC ⟨_,rfl,rfl,rfl⟩) (F.ks_gaArgs_super _ _)) (fun v s' hv=>?_) fun _ _ z=>z.elim
 obtain ⟨rfl,rfl⟩:=hv
 exact wpAny_pure (wpAny_pure hq)
theorem rG {M:Model} {rest:List Value} {Q:Unit->Shared->Prop} (X:ExcAt h 41 N) (he:h.get? e=some oe) (hc:oe.cls=.ref 41) (hq:Q () ⟨h,g,d,t,os⟩) :
  wpAny M A (checkBoundCall "Exception.__init__" ⟨.ref e::rest,[]⟩) Q E ⟨h,g,d,t,os⟩:=by
 obtain ⟨nm,q,bs,sn,sub,col,dd,k0,k1,k2,k3,k5,hC⟩:=X
 have F:=F.excBase_Exception
 have hcB:(Value.ref 41::fq).contains (.type "Exception")=true:=by decide +kernel
 have hshort:=F.noStar
 simp only [checkBoundCall,F.initKind,F.initSplit,F.initRow]
 repeat (first | (with_reducible refine wpAny_loadPart_at he ?_;rw [hc]) | with_reducible refine wpAny_loadPart_at hC ?_ | (with_reducible refine wpAny_isSubtype_exc hC ?_;rw [hcB]) | wp_step)
 refine wpAny_onRaise ?_
 rw [show ∀(a b:String) (n:Nat),Bind.check ⟨.positional,"*","Exception",.self,[⟨"args",.varPos,false⟩]⟩ a b n (List.map (fun x=>x.fst) ({ pos:=Value.ref e::rest }:Args).kw)=pure () from
  fun a b n=>check_star_args _ _ _ _ _ _]
 exact wpAny_pure hq
theorem vq {m:Addr} {vs:Array Value} {t0:Addr} {v:Value} {Q:Value->Shared->Prop} (X:ExcAt h 41 N) (hm:h.get? m=some (bF e)) (he:h.get? e=some oe) (hc:oe.cls=.ref 41) (hd:oe.data=.fields vs) (h0:vs[0]? = some (.ref t0))
  (hq:Q .none ⟨(h.push { cls:=.type "tuple",data:=.seq #[v] }).update e (Obj.mapFields (·.setIfInBounds 0 (.ref h.objs.size))),g,d,t,os⟩) :
  wpAny (model prog w) A (call (.ref m) [v]) Q E ⟨h,g,d,t,os⟩:=by
 refine wpAny_call (codeAny_of_tree ?_)
 show wpAny _ _ (callAny (.ref m) _) _ _ _
 unfold callAny
 refine wpAny_bind (wpAny_load hm ?_)
 refine wpAny_bind (rG X he hc ?_)
 refine wpAny_pure ⟨Code.quiet_builtin _ (by decide +kernel),codeAny_builtin F.excBase_Exception.initEntry ?_⟩
 unfold Builtin.«BaseException.__init__»
 dsimp only
 rw [if_neg (by simp)]
 unfold newTuple Builtin.BaseException.bexcPut
 have hsz:0<vs.size:=(Array.getElem?_eq_some_iff.mp h0).1
 have heJ:=Heap.get?_push_of_some (h:=h) { cls:=.type "tuple",data:=.seq [v].toArray } he
 refine wpAny_bind (wpAny_newObj_type (wpAny_bind (wpAny_bind (wpAny_field heJ hd h0 (wpAny_bind (wpAny_setField heJ hd hsz ?_))))) (by size_fits))
 exact wpAny_letGo (wpAny_pure hq)
theorem ng {M:Model} {pos:Pos} {u:Addr} {args:List (Bool×Sem Value)} {Q:Value->Shared->Prop} {s:Shared} (hplain:args.any (·.1)=false)
  (h:wpAny M A (evalArgs (.ref u) true args []) (fun x s₁=>s₁.heap.get? u=some (bF e)/\wpAny M A (call (.ref u) x.pos x.kw) Q E s₁) E s):wpAny M A (callWith pos (.ref u) [] args []) Q E s:=by
 unfold callWith
 refine wpAny_bind (wpAny_holding (wpAny_mono h (fun x s₁ h₁=>wpAny_bind (wpAny_standAt ?_)) fun _ _ x=>x))
 obtain ⟨ho,hcall⟩:=h₁
 simp only [hplain,List.any_nil,Bool.or_false]
 refine wpAny_bind (m:=keeperOf (.ref u)) ?_
 unfold keeperOf
 refine wpAny_bind (wpAny_load ho ?_)
 simp only [bF,show (Value.type "method-wrapper" != Value.type "method")=true by decide,show (Value.type "method-wrapper"==Value.type "builtin_function_or_method"||Value.type "method-wrapper"==Value.type "method-wrapper")=true by decide,if_true]
 refine wpAny_pure ?_
 exact wpAny_bind (wpAny_mono hcall (fun r s₂ hr=>wpAny_bind (wpAny_holding (wpAny_point (wpAny_pure hr)))) fun _ _ x=>x)
end
end
section
open PySem PySem.W PySem.Calls PyProof.Rows PySem.Spec
open PySem.Builtin PySem.Builtin.ObjectAttr
theorem args_cons {l:List Arg} {x:Str} {r:List Str} (h:l.map (·.arg)=x::r):∃n k l',l=⟨x,n,k⟩::l'/\l'.map (·.arg)=r:=by
 cases l with
 | nil=>exact qm h
 | cons a l=>
  have h:=List.cons.inj h
  obtain ⟨x',n,k⟩:=a
  exact ⟨n,k,l,by rw [show x'=x from h.1],h.2⟩
section
variable {fd:FuncData} {s:Shared} {x y z d:Value} {T:Addr} {o:Obj} {n:Nat}
theorem qj (h1:fd.params.posonlyargs=[]) (h2:fd.params.args.map (·.arg)=(["self","code","told"]:List Str)) (h3:fd.params.vararg=none) (h4:fd.params.kwonlyargs=[]) (h5:fd.params.kwarg=none)
  (hd:fd.defaults=.ref T) (ho:s.heap.get? T=some o) (hs:o.data=.seq #[d] n):BindsTo s fd ⟨[x,y],[]⟩ [("self",x),("code",y),("told",d)]:=by
 obtain ⟨n0,k0,l,e,h2⟩:=args_cons h2
 obtain ⟨n1,k1,l,e1,h2⟩:=args_cons h2
 obtain ⟨n2,k2,l,e2,h2⟩:=args_cons h2
 have ez:=List.map_eq_nil_iff.mp h2
 subst ez e2 e1
 cases fd with | mk name qn params=>
 cases params with | mk po as va ko kd kw df=>
 dsimp only at h1 e h3 h4 h5
 subst h1 e h3 h4 h5
 exact BindsTo.of_defaults hd ho hs rfl rfl
theorem nx (h1:fd.params.posonlyargs=[]) (h2:fd.params.args.map (·.arg)=(["self","code","told"]:List Str)) (h3:fd.params.vararg=none) (h4:fd.params.kwonlyargs=[]) (h5:fd.params.kwarg=none)
  (hd:fd.defaults=.ref T) (ho:s.heap.get? T=some o) (hs:o.data=.seq #[d] n):BindsTo s fd ⟨[x,y,z],[]⟩ [("self",x),("code",y),("told",z)]:=by
 obtain ⟨n0,k0,l,e,h2⟩:=args_cons h2
 obtain ⟨n1,k1,l,e1,h2⟩:=args_cons h2
 obtain ⟨n2,k2,l,e2,h2⟩:=args_cons h2
 have ez:=List.map_eq_nil_iff.mp h2
 subst ez e2 e1
 cases fd with | mk name qn params=>
 cases params with | mk po as va ko kd kw df=>
 dsimp only at h1 e h3 h4 h5
 subst h1 e h3 h4 h5
 exact BindsTo.of_defaults hd ho hs rfl rfl
end
theorem qw {H:Heap} {d:Value} (h:rQ H d=true):∃T o v n,d=.ref T/\H.get? T=some o/\o.data=.seq #[v] n:=by
 cases d with
 | ref T=>
  obtain ⟨o,e,h⟩:=aj h
  have hv:∃v n,o.data=.seq #[v] n:=by
   generalize o.data=D at h
   cases D with
   | seq vs n=>
    obtain ⟨v,e1⟩:=Option.isSome_iff_exists.mp h
    exact ⟨v,n,congrArg (Data.seq · n) (show vs = #[v] from congrArg List.toArray (aR e1))⟩
   | _=>exact aN h
  obtain ⟨v,n,e1⟩:=hv
  exact ⟨T,o,v,n,rfl,e,e1⟩
 | _=>exact aN h
section
variable {w:World} {A:Around} {E:Value->Shared->Prop} {h:Heap} {g:Array GenState} {d:Drawn} {t:Nat} {os:OsState} {e N:Addr} {v:Value} {vs:Array Value} {sl:Array (Option Value)}
theorem rq {tk:Tok} {Q:Fin->Shared->Prop} {mN:Str->Option Value} (X:ExcAt h 41 N) (hn:h.Ns N mN) (hna:mN "code"=none) (hx:h.get? e=some ⟨.ref 41,none,.fields vs,sl⟩)
  (hq:∀h' tk' dd,h.get? dd=none->h'.get? e=some ⟨.ref 41,some dd,.fields vs,sl⟩->h'.Ns1 dd (fun y=>if y="code" then some v else none)->(∀b o,b≠e->h.get? b=some o->h'.get? b=some o)->Q (.done (.ret .none)) ⟨h',g,d,tk',os⟩) :
  wpAny (model pw w) A (Builtin.«object.__setattr__» ⟨[.ref e,.str "code" tk,v],[]⟩) Q E ⟨h,g,d,t,os⟩:=by
 obtain ⟨nm,q,bs,sn,sub,col,dd,k0,k1,k2,k3,k5,hC⟩:=X
 have SF:=F.store_Exception
 have hB:typeLookup (.type "Exception") "code"=pure none:=by rw [typeLookup_type,builtinLookup_eq_fast];kernel_rfl
 have hpass:=SF.passes (.ref e)
 have hxQ:(h.push { cls:=.type "dict",data:=.dict #[] }).get? e=some ⟨.ref 41,none,.fields vs,sl⟩:=Heap.get?_push_of_some _ hx
 have hes:e≠h.objs.size:=Nat.ne_of_lt (Heap.lt_size hx)
 have hgd:((h.push { cls:=.type "dict",data:=.dict #[] }).update e fun o=>{ cls:=o.cls,dict:=some h.objs.size,data:=o.data,slots:=o.slots }).get? h.objs.size=some { cls:=.type "dict",data:=.dict #[] }:=
  (Heap.get?_update_ne _ _ _ _ hes.symm).trans (Heap.get?_push_at rfl rfl)
 have hge:((h.push { cls:=.type "dict",data:=.dict #[] }).update e fun o=>{ cls:=o.cls,dict:=some h.objs.size,data:=o.data,slots:=o.slots }).get? e=some ⟨.ref 41,some h.objs.size,.fields vs,sl⟩:=
  Heap.get?_update_self _ hxQ rfl
 have hgo:∀b o,b≠e->h.get? b=some o->((h.push { cls:=.type "dict",data:=.dict #[] }).update e fun o=>{ cls:=o.cls,dict:=some h.objs.size,data:=o.data,slots:=o.slots }).get? b=some o:=fun b o hb eb=>
  (Heap.get?_update_ne _ _ _ _ hb).trans (Heap.get?_push_of_some _ eb)
 generalize hH:((h.push { cls:=.type "dict",data:=.dict #[] }).update e fun o=>{ cls:=o.cls,dict:=some h.objs.size,data:=o.data,slots:=o.slots })=H at hgd hge hgo
 have hnd:H.Ns1 h.objs.size (fun _=>none):=Heap.Ns1.of_empty ⟨_,#[],_,hgd,rfl,fun e he=>absurd he (by simp),fun _=>rfl⟩
 unfold Builtin.«object.__setattr__»
 repeat (first | rw [refuse_eq] | (rw [refuseLoop_ref];unfold fq;rw [hpass]) | (with_reducible refine wpAny_loadPart_at hx ?_) | with_reducible refine wpAny_mroOf_exc hC ?_ | (with_reducible refine wpAny_typeLookup_exc hC hn SF.mro hB ?_;rw [hna]) | (rw [hH];with_reducible refine wpAny_nsSet1 hnd ?_;intro h' hn' hs) | wp_step)
 obtain ⟨oD,esD,epD,hoD,hdD,hcD⟩:=hn'.count (Within.cons "code" v Within.nil)
 refine wpAny_loadPart hoD ?_
 rw [show oD.data.pastItsLine=none from by rw [hdD];exact pastItsLine_dict (Nat.le_trans hcD (by rw [List.length_cons,List.length_nil,sizeLine_eq];lia))]
 refine wpAny_pure (wpAny_pure ?_)
 exact hq h' _ _ (Heap.get?_none_of_le (Nat.le_refl _)) ((hs.2 e hes).trans hge) hn' fun b o hb eb=>(hs.2 b (Nat.ne_of_lt (Heap.lt_size eb))).trans (hgo b o hb eb)
theorem uj {sa owner:String} (SF:StoreFacts "Exception" fq sa owner) {tk:Tok} {R:Result->Shared->Prop} {mN:Str->Option Value} (X:ExcAt h 41 N) (hn:h.Ns N mN) (hna:mN "code"=none) (hx:h.get? e=some ⟨.ref 41,none,.fields vs,sl⟩)
  (hq:∀h' tk' dd,h.get? dd=none->h'.get? e=some ⟨.ref 41,some dd,.fields vs,sl⟩->h'.Ns1 dd (fun y=>if y="code" then some v else none)->(∀b o,b≠e->h.get? b=some o->h'.get? b=some o)->R (.ok (.ret .none)) ⟨h',g,d,tk',os⟩) :
  codeAny (model pw w) A (.call (.builtin sa) ⟨[.ref e,.str "code" tk,v],[]⟩) R ⟨h,g,d,t,os⟩:=by
 obtain ⟨nm,q,bs,sn,sub,col,dd,k0,k1,k2,k3,k5,hC⟩:=id X
 exact codeAny_call_builtin SF.slot.plain SF.entry (wpAny_check_sa SF hC hx rfl (rq X hn hna hx hq))
theorem vn {sa owner:String} (SF:StoreFacts "Exception" fq sa owner) {Q:Unit->Shared->Prop} {mN:Str->Option Value} (X:ExcAt h 41 N) (hn:h.Ns N mN) (hns:mN "__setattr__"=none) (hna:mN "code"=none) (hx:h.get? e=some ⟨.ref 41,none,.fields vs,sl⟩)
  (hq:∀h' tk' dd,h.get? dd=none->h'.get? e=some ⟨.ref 41,some dd,.fields vs,sl⟩->h'.Ns1 dd (fun y=>if y="code" then some v else none)->(∀b o,b≠e->h.get? b=some o->h'.get? b=some o)->Q () ⟨h',g,d,tk',os⟩) :
  wpAny (model pw w) A (setAttr (.ref e) "code" v) Q E ⟨h,g,d,t,os⟩:=by
 obtain ⟨nm,q,bs,sn,sub,col,dd,k0,k1,k2,k3,k5,hC⟩:=id X
 have f3:=SF.slot.bind (.ref e)
 unfold setAttr callSpecial? specialOf
 repeat (any_goals (first | assumption | (with_reducible refine wpAny_loadPart_at hx ?_) | (with_reducible refine wpAny_typeLookup_exc hC hn SF.mro SF.slot.lookup ?_;rw [hns]) | wp_step))
 refine uj SF X hn hna hx fun h' tk' dd a1 a2 a3 a4=>?_
 repeat (any_goals (first | assumption | wp_step))
 exact hq h' tk' dd a1 a2 a3 a4
end
structure Bk (H:Heap) (fd:FuncData):Prop where
 fn:∃o,H.get? 38=some o/\o.data=.func fd
 dflt:∃T o v n,fd.defaults=.ref T/\H.get? T=some o/\o.data=.seq #[v] n
 h1:fd.params.posonlyargs=[]
 h2:fd.params.args.map (·.arg)=(["self","code","told"]:List Str)
 h3:fd.params.vararg=none
 h4:fd.params.kwonlyargs=[]
 h5:fd.params.kwarg=none
 cell:∀x∈fd.scope.names,x.2≠.cell
 co:fd.scope.isCoroutine=false
 gen:fd.scope.isGenerator=false
 kind:fd.scope.kind=.function
 body:fd.body=.stmts (bodyOf fd)
 rec_:H.CodeRec fd.code fd.qualname
 k1:fd.scope.names.lookup ("super":Str)=some .globalImplicit
 k2:fd.scope.names.lookup ("__class__":Str)=some .free
 k3:fd.scope.names.lookup ("self":Str)=some .local
 k4:fd.scope.names.lookup ("code":Str)=some .local
 k5:fd.scope.names.lookup ("told":Str)=some .local
 bd:bodyOf fd=pL
 file:mK H pw.main.file fd.code=true
 clo:fd.closure=[(("__class__":Str),25)]
 c25:H.IsCell 25 (some (.ref 41))
 gl:fd.globals=mainGlobals
 bl:fd.builtins=builtinsNs
theorem AQ (w:World):Bk (MH w) (rc w) where
 fn:=i4 (uS w)
 dflt:=qw (xl w)
 h1:=by kernel_rfl
 h2:=by kernel_rfl
 h3:=by kernel_rfl
 h4:=by kernel_rfl
 h5:=by kernel_rfl
 cell:=fun x hx q=>by
  have:(rc w).scope.names.all (fun x=> !(x.2==.cell))=true:=by kernel_rfl
  have:=List.all_eq_true.mp this x hx
  rw [q] at this
  exact aN this
 co:=by kernel_rfl
 gen:=by kernel_rfl
 kind:=by kernel_rfl
 body:=iO (by kernel_rfl)
 rec_:=.of_ok (by kernel_rfl)
 k1:=by kernel_rfl
 k2:=by kernel_rfl
 k3:=by kernel_rfl
 k4:=by kernel_rfl
 k5:=by kernel_rfl
 bd:=by kernel_rfl
 file:=by kernel_rfl
 clo:=by kernel_rfl
 c25:=mz (by kernel_rfl)
 gl:=by kernel_rfl
 bl:=by kernel_rfl
section
variable {w:World} {A:Around} {E:Value->Shared->Prop} {h:Heap} {g:Array GenState} {d:Drawn} {t:Nat} {os:OsState} {e N:Addr} {v:Value} {vs:Array Value} {sl:Array (Option Value)}
theorem qz {k:Str} {u:Tok} {t0:Addr} {args:List Value} {Q:Value->Shared->Prop} (hroom:A.depth<recursionLimit) (kp:kept w h) (he:h.get? e=some { cls:=.ref 41,data:=.fields #[.ref t0,.none,.none,.none,.bool false,.none] })
  (hM:(MH w).get? e=none) (hargs:args=[.str k u]\/∃v,args=[.str k u,v])
  (hq:∀h' tk',(∀b o,b≠e->h.get? b=some o->h'.get? b=some o)->(∃dd,h.get? dd=none/\Raw h' e (.ref 41) (some dd)/\CodeAt h' dd k)->Q .none ⟨h',g,d,tk',os⟩) :
  wpAny (model pw w) A (call (.ref 38) (.ref e::args)) Q E ⟨h,g,d,t,os⟩:=by
 have f:=AQ w
 have lim:=nW w
 have xx:=fg w
 have kpH:∀b o,(MH w).get? b=some o->h.get? b=some o:=kp
 generalize hH:MH w=H at f lim hM kpH
 generalize rc w=fd at f
 obtain ⟨N,mN,X,hN,n1,n2,n3,_⟩:=xx H hH
 obtain ⟨oF,hF,hFd⟩:=f.fn
 obtain ⟨T,oT,dv,nT,hT1,hT2,hT3⟩:=f.dflt
 have hb:=f.bd
 obtain ⟨ca,oc,cvs,cf,ct,hc1,hc2,hc3,hc4,hc5⟩:=m9 f.file
 have hne41:e≠41:=fun q=>by
  obtain ⟨nm,q',bs,sn,sub,col,dd,k0,k1,k2,k3,k5,hC⟩:=X
  rw [q,hC] at hM;cases hM
 have kH:∀{h':Heap},(∀b o,b≠e->h.get? b=some o->h'.get? b=some o)->∀b o,H.get? b=some o->h'.get? b=some o:=fun kk b o eb=>kk b o (fun q=>by rw [q,hM] at eb;cases eb) (kpH b o eb)
 have kx:∀{h':Heap},(∀b o,b≠e->h.get? b=some o->h'.get? b=some o)->kept w h':=fun kk=>by
  have:=kH kk
  rw [<-hH] at this
  exact this
 obtain ⟨v3,hbind⟩:∃v3,BindsTo ⟨h,g,d,t,os⟩ fd ⟨.ref e::args,[]⟩ [("self",.ref e),("code",.str k u),("told",v3)]:=by
  rcases hargs with rfl | ⟨v,rfl⟩
  ·exact ⟨_,qj f.h1 f.h2 f.h3 f.h4 f.h5 hT1 (kpH _ _ hT2) hT3⟩
  ·exact ⟨_,nx f.h1 f.h2 f.h3 f.h4 f.h5 hT1 (kpH _ _ hT2) hT3⟩
 refine wpAny_call (ks_codeAny_call_defAt (fd:=fd) (body:=bodyOf fd) hroom (kpH _ _ hF) hFd (lim.keeps kpH) (f.rec_.keeps kpH) f.body hbind f.cell (fun x hx=>?_) (fun h₀ hns hk=>?_) f.co f.gen f.kind)
 ·rcases List.mem_cons.mp hx with rfl | hx
  ·exact f.k3
  ·rcases List.mem_cons.mp hx with rfl | hx
   ·exact f.k4
   ·rw [List.mem_singleton.mp hx]
    exact f.k5
 have heL:e≠h.objs.size:=Nat.ne_of_lt (Heap.lt_size he)
 have hmself:(fun x=>([(("self":Str),Value.ref e),("code",.str k u),("told",v3)].reverse.lookup x)) "self"=some (.ref e):=by kernel_rfl
 have hmcode:(fun x=>([(("self":Str),Value.ref e),("code",.str k u),("told",v3)].reverse.lookup x)) "code"=some (.str k u):=by kernel_rfl
 have hmtold:(fun x=>([(("self":Str),Value.ref e),("code",.str k u),("told",v3)].reverse.lookup x)) "told"=some v3:=by kernel_rfl
 generalize (fun x=>([(("self":Str),Value.ref e),("code",.str k u),("told",v3)].reverse.lookup x))=m at hns hmself hmcode hmtold
 obtain ⟨ar,har,hars⟩:∃ar,(fd.params.posonlyargs++fd.params.args).head? = some ar/\ar.arg=("self":Str):=by
  rw [f.h1,List.nil_append]
  have:=f.h2
  cases q:fd.params.args with
  | nil=>rw [q] at this;cases this
  | cons x l=>rw [q] at this;exact ⟨x,rfl,(List.cons.inj this).1⟩
 have hek:∀x,(callEnv fd h.objs.size 38).kindOf x=fd.scope.names.lookup x:=fun _=>rfl
 have hcells:(callEnv fd h.objs.size 38).cells.lookup ("__class__":Str)=some 25:=by
  show fd.closure.lookup _=_
  rw [f.clo]
  kernel_rfl
 have hgl:(callEnv fd h.objs.size 38).globals=mainGlobals:=f.gl
 have hbl:(callEnv fd h.objs.size 38).builtins=builtinsNs:=f.bl
 have hloc:(callEnv fd h.objs.size 38).locals=h.objs.size:=rfl
 have hcode:(callEnv fd h.objs.size 38).code=.ref ca:=hc1
 have hfu:(callEnv fd h.objs.size 38).func=some 38:=rfl
 have hkind:(callEnv fd h.objs.size 38).scope.kind=.function:=f.kind
 have hin:interactive (callEnv fd h.objs.size 38)=false:=by unfold interactive;simp [hkind]
 generalize callEnv fd h.objs.size 38=env at hek hcells hgl hbl hloc hcode hfu hkind hin
 rw [hb]
 unfold pL
 have hkQ:∀b o,H.get? b=some o->h₀.get? b=some o:=fun b o eb=>hk b o (kpH b o eb)
 obtain ⟨nm,cq,cbs,csn,csub,ccol,cdd,ck0,ck1,ck2,ck3,ck5,hD⟩:=id X
 have hmg:H.Ns mainGlobals ((MH w).nsMap mainGlobals):=by rw [<-hH];exact .of_isNs (iL w)
 have hmb:H.Ns builtinsNs ((MH w).nsMap builtinsNs):=by rw [<-hH];exact .of_isNs (rd w)
 have hsup:=nV w
 refine ks_wpAt_execs_cons (ks_wpAt_Expr_any (hi:=hin) (ks_wpAt_MethodCall (he:=pA (by rfl) (by decide) rfl) ?_))
 refine ks_wpAt_super_base (f:=38) ((hek _).trans f.k1) ((hek _).trans f.k2) (by decide +kernel) hfu (hkQ _ _ hF) hFd har hcode (hkQ _ _ hc2) hc3 hc4 hc5 qV ?_
 refine ks_loadName_global hkind ((hek _).trans f.k1) (loadGlobal_builtin (by rw [hgl];exact hmg.keeps hkQ) hsup.1 (by rw [hbl];exact hmb.keeps hkQ) hsup.2 ⟨rfl,?_⟩)
 refine wpAny_loadName_free hkind ((hek _).trans f.k2) hcells (IsCell.at f.c25 fun o eb=>hkQ _ _ eb) ?_
 refine wpAny_loadName_local hkind (by rw [hars];exact (hek _).trans f.k3) (by rw [hloc];exact hns) (by rw [hars];exact hmself) ?_
 have heE:=hk _ _ he
 have hDQ:=hkQ _ _ hD
 refine ks_wpAny_isType_cls hDQ rfl ⟨rfl,?_⟩
 have X₀:ExcAt h₀ 41 N:=⟨nm,cq,cbs,csn,csub,ccol,cdd,ck0,ck1,ck2,ck3,ck5,hDQ⟩
 have hNQ:=hN.keeps hkQ
 refine ks_wpAny_call_super hDQ rfl heE rfl (fun c q=>by cases q) (fun A' Q' E' s' k' q'=>?_) fun h₁ hs₁ hkZ=>?_
 ·obtain ⟨h',g',d',t',os'⟩:=s'
  have hcB:(Value.ref 41::fq).contains (.ref 41)=true:=by decide +kernel
  refine wpAny_isSubtype_exc (k' _ _ hDQ) ?_
  rw [hcB]
  exact q'
 have kkZ:∀b o,b≠e->h.get? b=some o->h₁.get? b=some o:=fun b o _ eb=>hkZ _ _ (hk b o eb)
 refine qo (kx kkZ) (X₀.keeps hkZ) hs₁ (hkZ _ _ heE) rfl hne41 ?_
 have hkJ:∀b o,h₀.get? b=some o->(h₁.push (bF e)).get? b=some o:=fun b o eb=>Heap.get?_push_of_some _ (hkZ b o eb)
 refine ng (e:=e) (by rfl) (bo (by rfl) (wpAny_items_cons (wpAny_Name (wpAny_loadName_local hkind ((hek _).trans f.k4) (by rw [hloc];exact hns.keeps hkJ) hmcode (wpAny_items_nil ⟨Heap.get?_push_size _ rfl,?_⟩)) (by decide +kernel))))
 refine vq (X₀.keeps hkJ) (Heap.get?_push_size _ rfl) (hkJ _ _ heE) rfl rfl (t0:=t0) rfl ?_
 refine wpAt_of_wpAny ?_
 generalize hhQ:((h₁.push (bF e)).push { cls:=.type "tuple",data:=.seq #[.str k u] }).update e (Obj.mapFields (·.setIfInBounds 0 (.ref (h₁.push (bF e)).objs.size)))=h₃
 have hkE:∀b o,b≠e->h₀.get? b=some o->h₃.get? b=some o:=fun b o hb eb=>by
  rw [<-hhQ,Heap.get?_update_other _ _ (Ne.symm hb)]
  exact Heap.get?_push_of_some _ (hkJ b o eb)
 have heQ:∃vs sl,h₃.get? e=some ⟨.ref 41,none,.fields vs,sl⟩/\vs[1]? = some .none/\vs[2]? = some .none:=by
  rw [<-hhQ,Heap.get?_update_self _ (Heap.get?_push_of_some _ (hkJ _ _ heE)) rfl]
  exact ⟨_,_,rfl,rfl,rfl⟩
 obtain ⟨vsQ,slQ,heQ,hv1,hv2⟩:=heQ
 have kkQ:∀b o,b≠e->h.get? b=some o->h₃.get? b=some o:=fun b o hb eb=>hkE b o hb (hk _ _ eb)
 have kHJ:=kH kkQ
 have hLZ:h₀.Ns env.locals m:=by rw [hloc];exact hns
 have hLQ:h₃.Ns env.locals m:=by
  obtain ⟨o,es,ep,e1,r⟩:=hLZ
  exact ⟨o,es,ep,hkE _ _ (by rw [hloc];exact Ne.symm heL) e1,r⟩
 refine wpAny_execs_cons (plainObj_wpAny_Assign_Attribute (wpAny_Name (wpAny_loadName_local hkind ((hek _).trans f.k4) hLQ hmcode (wpAny_Name (wpAny_loadName_local hkind ((hek _).trans f.k3) hLQ hmself
  (vn F.store_Exception (X.keeps kHJ) (hN.keeps kHJ) n1 n2 heQ fun h₄ tkA dd b1 b2 b3 b4=>?_)) (by decide +kernel))) (by decide +kernel)))
 have kkJ:∀b o,b≠e->h.get? b=some o->h₄.get? b=some o:=fun b o hb eb=>b4 b o hb (kkQ b o hb eb)
 have kHQ:=kH kkJ
 have hLJ:h₄.Ns env.locals m:=by
  obtain ⟨o,es,ep,e1,r⟩:=hLQ
  exact ⟨o,es,ep,b4 _ _ (by rw [hloc];exact Ne.symm heL) e1,r⟩
 have hdd:h.get? dd=none:=by
  cases q:h.get? dd with
  | none=>rfl
  | some o=>
   by_cases z:dd=e
   ·rw [z,heQ] at b1;cases b1
   ·have:=kkQ dd o z q;rw [b1] at this;cases this
 have hdde:dd≠e:=fun q=>by rw [q,heQ] at b1;cases b1
 obtain ⟨nm',q',bs',sn',sub',col',dd',k0',k1',k2',k3',k5',hCJ⟩:=X.keeps kHQ
 refine wpAny_execs_cons (plainObj_wpAny_Assign_Attribute (wpAny_Name (wpAny_loadName_local hkind ((hek _).trans f.k5) hLJ hmtold (wpAny_Name (wpAny_loadName_local hkind ((hek _).trans f.k3) hLJ hmself
  (store_attr (ns:=["code"]) F.store_Exception hCJ (hN.keeps kHQ) n1 n3 (by rw [typeLookup_type,builtinLookup_eq_fast];kernel_rfl) hne41 ⟨_,b2,rfl,fun c q=>(by cases q),.inr ⟨dd,rfl,hdde,b3⟩⟩ (fun h₅ tkS IQ c1 c2=>?_)
   (fun y hy=>by by_cases z:y="code";exact (by simp [z]);exact absurd (by simp [z]) hy) (by decide))) (by decide +kernel))) (by decide +kernel)))
 refine wpAny_execs_nil ?_
 refine hq h₅ _ (fun b o hb eb=>c1 b o hb (fun o₀ dx e₀ ed=>?_) (kkJ b o hb eb)) ⟨dd,hdd,?_⟩
 ·rw [b2] at e₀;cases e₀;cases ed
  exact fun q=>by rw [q,hdd] at eb;cases eb
 ·obtain ⟨o₁,d1,d2,d3,d4,d5⟩:=c2 _ b2
  have d6:=d5 dd rfl
  refine ⟨⟨o₁,vsQ,d1,d2,d6,d3,hv1,hv2⟩,?_⟩
  obtain ⟨o',e1,_,_,e4⟩:=IQ
  rw [d1] at e1
  cases e1
  rcases e4 with ⟨e5,_⟩ | ⟨d',e5,e6,od,es,ep,y1,y2,y3,y4,y5⟩
  ·rw [d6] at e5;cases e5
  ·rw [d6] at e5
   cases e5
   exact ⟨od,es,ep,u,y1,y2,y3,y4,by rw [y5];rfl⟩
end
end
section
open PySem PySem.W PySem.Calls PyProof.Rows PySem.Spec
noncomputable abbrev FQ (c:Cx) (o:SOut):Flow->Pl->Lo->ai->Heap->Prop:=fun fl ρ' γ' st' h'=>match fl with
 | .next=>o=.next γ' st'
 | .ret v=>∃r,c.rv ρ' h' r v/\o=.ret r st'
 | _=>False
noncomputable abbrev FX (o:SOut):Str->Lo->ai->Prop:=fun k γ' st'=>o=.exc k γ' st'
noncomputable def SX (c:Cx) (γ:Lo) (st:ai) (s:Stmt) (o:SOut):Prop:=∀ρ h tk,Ok c ρ γ st h->W c ρ h tk (exec s c.env) (FQ c o) (FX o)
noncomputable def fQ (x:Option SOut) (f:Lo->ai->Option SOut):Option SOut:=match x with
 | some (.next γ st)=>f γ st
 | y=>y
theorem SR.nil {c:Cx} {γ:Lo} {st:ai}:SR c γ st [] (.next γ st):=fun ρ h tk ok=>wpAny_execs_nil (W.ends .refl ok rfl)
theorem SX.go {c:Cx} {ρ:Pl} {h:Heap} {tk:Nat} {t:Sem Flow} {m:Option SOut} {f:Lo->ai->Option SOut} {o:SOut} {Qr:Flow->Shared->Prop} {E:Value->Shared->Prop} (hm:fQ m f=some o) (x:∀o,m=some o->W c ρ h tk t (FQ c o) (FX o))
  (kn:∀ρQ γQ st₁ h₁ t₁,f γQ st₁=some o->c.Step ρ h ρQ h₁->Ok c ρQ γQ st₁ h₁->Qr .next ⟨h₁,c.g,c.d,t₁,c.os⟩) (kr:∀v ρQ γQ st₁ h₁ t₁,c.Step ρ h ρQ h₁->Ok c ρQ γQ st₁ h₁->FQ c o (.ret v) ρQ γQ st₁ h₁->Qr (.ret v) ⟨h₁,c.g,c.d,t₁,c.os⟩)
  (kx:∀e s',EW c ρ h (FX o) e s'->E e s'):wpAny c.M c.A t Qr E ⟨h,c.g,c.d,tk,c.os⟩:=by
 cases m with
 | none=>exact aP hm
 | some q=>
  refine wpAny_mono (x q rfl) (fun fl s' z=>?_) fun v s' e=>kx v s' (e.mono fun k γ' st' z=>?_)
  ·obtain ⟨h₁,t₁,ρQ,γQ,st₁,sp,ok₁,q'⟩:=z
   cases fl with
   | next=>
    rw [show q=_ from q'] at hm
    exact kn _ _ _ _ _ hm sp ok₁
   | ret v=>
    obtain ⟨r,yr,q'⟩:=q'
    rw [q'] at hm
    exact kr _ _ _ _ _ _ sp ok₁ ⟨r,yr,(Option.some.inj hm).symm⟩
   | brk=>exact q'.elim
   | cont=>exact q'.elim
  ·rw [show q=_ from z] at hm
   exact (Option.some.inj hm).symm
theorem SR.cons {c:Cx} {γ:Lo} {st:ai} {s:Stmt} {l:List Stmt} {m:Option SOut} {f:Lo->ai->Option SOut} {o:SOut} (hm:fQ m f=some o) (x:∀o,m=some o->SX c γ st s o) (y:∀γQ st₁ o,f γQ st₁=some o->SR c γQ st₁ l o) :
  SR c γ st (s::l) o:=fun ρ h tk ok=>
 wpAny_execs_cons (SX.go hm (fun o e=>x o e ρ h tk ok) (fun ρQ γQ st₁ h₁ t₁ hf sp ok₁=>(y _ _ _ hf ρQ h₁ t₁ ok₁).from sp) (fun v ρQ γQ st₁ h₁ t₁ sp ok₁ q=>⟨h₁,t₁,ρQ,γQ,st₁,sp,ok₁,q⟩) fun e s' x=>x)
noncomputable def dg {α:Type} (x:Option (Out α)) (γ:Lo) (f:α->ai->Option SOut):Option SOut:=match x with
 | some (.ok a st)=>f a st
 | some (.exc k st)=>some (.exc k γ st)
 | none=>none
section
variable {c:Cx} {ρ ρ₀:Pl} {γ:Lo} {st st₁:ai} {h h₀:Heap} {tk:Nat} {α β:Type} {rel:Pl->Heap->β->α->Prop} {t:Sem α} {o:SOut}
theorem SX.seq {m:Option (Out β)} {f:β->ai->Option SOut} {Qr:α->Shared->Prop} (hm:dg m γ f=some o) (x:∀o,m=some o->TR c rel ρ γ h tk t o) (sp:c.Step ρ₀ h₀ ρ h)
  (k:∀r v ρQ st₁ h₁ tkQ,f r st₁=some o->Ok c ρQ γ st₁ h₁->c.Step ρ₀ h₀ ρQ h₁->c.Step ρ h ρQ h₁->rel ρQ h₁ r v->Qr v ⟨h₁,c.g,c.d,tkQ,c.os⟩) :
  wpAny c.M c.A t Qr (EW c ρ₀ h₀ (FX o)) ⟨h,c.g,c.d,tk,c.os⟩:=by
 cases m with
 | none=>exact aP hm
 | some q=>
  cases q with
  | ok a s₁=>
   refine wpAny_mono (x _ rfl) (fun v s' z=>z.elim fun h₁ t₁ ρQ γQ st₁ sp₁ ok q=>?_) fun v s' ee=>(ee.mono fun k γ' st' z=>eu z.2).from sp
   obtain ⟨e2,r,y,e3⟩:=q
   obtain ⟨e4,e5⟩:=jN e3
   subst e2 e4 e5
   exact k _ _ _ _ _ _ hm ok (sp.trans sp₁) sp₁ y
  | exc kk s₁=>
   refine wpAny_mono (x _ rfl) (fun v s' z=>z.elim fun h₁ t₁ ρQ γQ st₁ sp₁ ok q=>by obtain ⟨_,_,_,e⟩:=q;exact eu e.symm) fun v s' ee=>(ee.mono fun k γ' st' z=>?_).from sp
   rw [z.1]
   have e:=z.2
   injection e with e1 e2
   rw [<-e1,<-e2]
   exact (Option.some.inj hm).symm
theorem SX.ret {e:Expr} {pos:Pos} {m:Option (Out RV)} (hm:dg m γ (fun r st₁=>some (.ret r st₁))=some o) (x:∀o,m=some o->EvR c γ st e o):SX c γ st (.Return (some e) pos) o:=fun ρ h tk ok=>
 wpAny_Return_some (SX.seq hm (fun o e=>x o e ρ h tk ok) .refl fun r v ρQ st₁ h₁ tkQ hmJ ok₁ sp₁ _ y=>W.ends sp₁ ok₁ ⟨r,y,(Option.some.inj hmJ).symm⟩)
end
theorem nX {w:World} {h:Heap} {M:Model} (k:kept w h):Looks M h (keeperOf (.ref 41)) .machine:=fun A Q E s hk q=>by
 obtain ⟨N,mN,X,_⟩:=fg w _ rfl
 obtain ⟨nm,cq,bs,sn,sub,col,dd,k0,k1,k2,k3,k5,hC⟩:=X
 obtain ⟨hp,g,d,t,os⟩:=s
 exact wpAny_keeperOf_exc (hk _ _ (k _ _ hC)) q
section
variable {c:Cx} {ρ ρ₀:Pl} {γ:Lo} {st:ai} {h h₀:Heap} {tk:Nat} {env:Env}
theorem mZ {x:Sem Value} {Q:Flow->Shared->Prop} {E:Value->Shared->Prop} {s:Shared} {w:World} {A:Around} (hh:A.handled=none)
  (hx:wpAny (model pw w) A x (fun v s₁=>∃e dd,v=.ref e/\kept w s₁.heap/\Raw s₁.heap e (.ref 41) dd/\E (.ref e) s₁) E s):wpAny (model pw w) A (raiseStmt env (some x) none) Q E s:=by
 obtain ⟨N,mN,X,_⟩:=fg w _ rfl
 obtain ⟨nm,cq,bs,sn,sub,col,dd,k0,k1,k2,k3,k5,hCQ⟩:=X
 have hcB:(Value.ref 41::fq).contains (.type "BaseException")=true:=by decide +kernel
 unfold raiseStmt
 refine wpAny_bind (wpAny_mono hx (fun v s₁ h₁=>?_) fun _ _ x=>x)
 obtain ⟨e,dd,rfl,kp,⟨oe,vs,he,hc,_,hd,hv1,_⟩,hE⟩:=h₁
 obtain ⟨hp,g,d,tk,os⟩:=s₁
 have hC:=kp _ _ hCQ
 obtain ⟨oc,od,odt,osl⟩:=oe
 simp only at hc hd
 subst hc hd
 repeat (first | with_reducible refine wpAny_loadPart_at he ?_ | with_reducible refine wpAny_loadPart_at hC ?_ | (with_reducible refine wpAny_isSubtype_exc hC ?_;rw [hcB]) | (with_reducible refine wpAny_field he rfl hv1 ?_) | wp_step)
 exact wpAny_raiseNew_none hh hE
noncomputable def fY (o:Option Obj):Bool:=match o with
 | some o=>(match o.cls with
  | .type t=>decide (t="function")
  | _=>false)
 | none=>false
theorem u2 (w:World):fY ((MH w).get? 38)=true:=by kernel_rfl
theorem fG {h:Heap} {a:Addr} {o:Obj} (x:fY (h.get? a)=true) (e:h.get? a=some o):o.cls=.type "function":=by
 rw [e] at x
 obtain ⟨c,d,e,f⟩:=o
 cases c with
 | type t=>exact congrArg Value.type (of_decide_eq_true x)
 | _=>exact aN x
theorem zH (w:World) (o:Obj) (e:(MH w).get? 38=some o):o.cls=.type "function":=fG (u2 w) e
noncomputable def oR (n:Nat) (γ:Lo) (l:List RV) (st:ai):Option SOut:=match l with
 | []=>none
 | x::r=>x.asStr.bind fun k=>if r.length<=1/\0<n then some (.exc k γ st) else none
theorem SX.raise {x:Str} {np cpos pos:Pos} {args:List Expr} {m:Option (Out (List RV))} {o:SOut} (hm:dg m γ (oR c.n γ)=some o) (hh:c.A.handled=none)
  (hf:EvR c γ st (.Name x np) (.ok (.stat 41) st)) (y:∀o,m=some o->ElR c γ st cpos args o) (hst:(backTo cpos (starEach args c.env)).all (fun x=> !x.1)=true) :
  SX c γ st (.Raise (some (.Call (.Name x np) args [] cpos)) none pos) o:=fun ρ h tk ok=>by
 show wpAny c.M c.A (exec (.Raise (some (.Call (.Name x np) args [] cpos)) none pos) c.env) _ _ _
 rw [arm_exec_Raise]
 refine wpAny_bind (wpAny_standAt (mZ (w:=c.w) hh (wpAny_bind (wpAny_Call_ofName ?_))))
 refine TR.known (hf ρ h tk ok) .refl fun v ρQ h₁ tkQ ok₁ sp₁ _ yf=>?_
 apply yf.elim
 refine callWith_of (P:=kept c.w) (bM hst) (fun h k=>⟨_,.inr (.inl rfl),nX k⟩) (bo hst ?_)
 refine SX.seq hm (fun o e=>y o e ρQ h₁ tkQ ok₁) sp₁ fun rs vs ρ₂ st₂ h₂ tkJ hmQ ok₂ sp₂ _ yr=>⟨ok₂.mod,?_⟩
 cases rs with
 | nil=>exact aP hmQ
 | cons x r=>
 obtain ⟨k,hk,hmQ⟩:=Option.bind_eq_some_iff.mp hmQ
 obtain ⟨⟨hr,hn⟩,e⟩:=Option.ite_none_right_eq_some.mp hmQ
 obtain rfl:=Option.some.inj e
 rw [bO hk] at yr
 apply yr.elim
 intro v l y1 y2
 apply y1.elim
 intro u
 have hl:l.length<=1:=by rw [y2.length];exact hr
 have lim:=nW c.w
 obtain ⟨N,mN,X,hN,n1,n2,n3,n4,_⟩:=fg c.w _ rfl
 obtain ⟨nm,cq,bs,sn,sub,col,dd,k0,k1,k2,k3,k5,hC⟩:=X
 obtain ⟨oF,hF,hFd⟩:=(AQ c.w).fn
 have hFc:=zH c.w oF hF
 have hroom:c.A.depth+1<recursionLimit:=by have:=c.room;lia
 refine wpAny_call_exc_init F.excBase_Exception (ok₂.mod _ _ hC) (hN.keeps ok₂.mod) n4 (ok₂.mod _ _ hF) hFc (fun h' e hme=>?_) (Nat.le_trans (Nat.succ_le_succ hl) (by decide))
 obtain ⟨t0,ht1,ht2,ht3⟩:=hme.there
 have kp':kept c.w h':=fun b o eb=>hme.keeps _ _ (ok₂.mod b o eb)
 refine qz (k:=k) (u:=u) (args:=.str k u::l) (by rw [depth_under_make];exact hroom) kp' ht1 (ok₂.mh_free hme.new) ?_ fun h₃ tkZ kk ⟨d',hd1,hd2,hd3⟩=>⟨rfl,?_⟩
 ·cases l with
  | nil=>exact .inl rfl
  | cons v l=>cases l with
   | nil=>exact .inr ⟨v,rfl⟩
   | cons _ _=>exact absurd hl (Nat.not_le.mpr (Nat.succ_lt_succ (Nat.succ_pos _)))
 have kall:∀b o,h₂.get? b=some o->h₃.get? b=some o:=fun b o eb=>kk b o (fun q=>by rw [q,hme.new] at eb;exact cH eb) (hme.keeps _ _ eb)
 obtain ⟨ok₃,sp₃⟩:=ok₂.grow kall
 have hd0:h₂.get? d'=none:=by
  cases q:h₂.get? d' with
  | none=>rfl
  | some o=>have:=hme.keeps _ _ q;rw [hd1] at this;exact cH this
 have sp:c.Step ρ h ρ₂ h₃:=sp₂.trans sp₃
 refine wpAny_bind (wpAny_standAt (wpAny_pure ⟨e,some d',rfl,ok₃.mod,hd2,h₃,_,ρ₂,γ,st₂,e,k,.none,sp,ok₃,.inl rfl,⟨e,d',.inr ⟨rfl,rfl,hd2⟩,hd3,sp₂.old hme.new,sp₂.old hme.new,sp₂.old hd0,ok₂.free_off hme.new,ok₂.free_off hme.new,ok₂.free_off hd0⟩,rfl⟩))
end
section
variable {w:World} {A:Around} {E:Value->Shared->Prop} {h:Heap} {g:Array GenState} {d:Drawn} {t:Nat} {os:OsState} {e N dx:Addr} {v:Value} {vs:Array Value} {sl:Array (Option Value)} {mN mA:Str->Option Value} {B:String}
theorem sL {tk:Tok} {Q:Fin->Shared->Prop} (X:ExcAt h 41 N) (hn:h.Ns N mN) (hna:mN "code"=none) (hx:h.get? e=some ⟨.ref 41,some dx,.fields vs,sl⟩) (hd:h.Ns dx mA) (hv:mA "code"=some v) (hh:handedOut v=pure v)
  (hq:Q (.done (.ret v)) ⟨h,g,d,t,os⟩):wpAny (model pw w) A (Builtin.«object.__getattribute__» ⟨[.ref e,.str "code" tk],[]⟩) Q E ⟨h,g,d,t,os⟩:=by
 obtain ⟨nm,q,bs,sn,sub,col,dd,k0,k1,k2,k3,k5,hC⟩:=id X
 have hB:typeLookup (.type "Exception") "code"=pure none:=by rw [typeLookup_type,builtinLookup_eq_fast];kernel_rfl
 have hmro:mroOf (.type "Exception")=pure fq:=F.attrBase_Exception.mro
 unfold Builtin.«object.__getattribute__»
 repeat (any_goals (first | assumption | (with_reducible refine wpAny_loadPart_at hx ?_) | (with_reducible refine wpAny_typeLookup_exc hC hn hmro hB ?_;rw [hna]) | (with_reducible refine wpAny_nsGet hd ?_;rw [hv]) | wp_step))
theorem ry {M:Model} {nameV:Value} {oe:Obj} {Q:Unit->Shared->Prop} (X:ExcAt h 41 N) (hx:h.get? e=some oe) (hc:oe.cls=.ref 41) (hq:Q () ⟨h,g,d,t,os⟩) :
  wpAny M A (checkBuiltinCall "BaseException.__getattribute__" ⟨[.ref e,nameV],[]⟩) Q E ⟨h,g,d,t,os⟩:=by
 obtain ⟨nm,q,bs,sn,sub,col,dd,k0,k1,k2,k3,k5,hC⟩:=id X
 have hk:builtinKind "BaseException.__getattribute__"=some .slot:=by decide +kernel
 have hsplit:splitId "BaseException.__getattribute__"=some ("BaseException","__getattribute__"):=by decide +kernel
 have hcB:(Value.ref 41::fq).contains (.type "BaseException")=true:=by decide +kernel
 have ha:=F.args_bexc_ga (.ref e) nameV
 simp only [checkBuiltinCall,hk,hsplit]
 refine wpAny_bind ?_
 ·unfold isInstance
  repeat (first | (with_reducible refine wpAny_loadPart_at hx ?_;rw [hc]) | (with_reducible refine wpAny_isSubtype_exc hC ?_;rw [hcB]) | wp_step)
  exact hq
theorem uW {tk:Tok} {R:Result->Shared->Prop} (FB:ExcAttrBase "Exception" fq) (X:ExcAt h 41 N) (hn:h.Ns N mN) (hna:mN "code"=none) (hx:h.get? e=some ⟨.ref 41,some dx,.fields vs,sl⟩) (hd:h.Ns dx mA) (hv:mA "code"=some v)
  (hh:handedOut v=pure v) (hq:R (.ok (.ret v)) ⟨h,g,d,t,os⟩):codeAny (model pw w) A (.call (.builtin "BaseException.__getattribute__") ⟨[.ref e,.str "code" tk],[]⟩) R ⟨h,g,d,t,os⟩:=
 codeAny_call_builtin FB.ga.plain F.entry_bexc_ga (ry X hx rfl (sL X hn hna hx hd hv hh hq))
theorem yn {tk:Tok} {fill expr:Bool} {Q:Value->Shared->Prop} (FB:ExcAttrBase "Exception" fq) (X:ExcAt h 41 N) (hn:h.Ns N mN) (hna:mN "code"=none) (hg1:mN "__getattribute__"=none) (hg2:mN "__getattr__"=none)
  (hx:h.get? e=some ⟨.ref 41,some dx,.fields vs,sl⟩) (hd:h.Ns dx mA) (hv:mA "code"=some v) (hh:handedOut v=pure v) (hq:Q v ⟨h,g,d,t,os⟩) :
  wpAny (model pw w) A (getAttrBy (.ref e) (.str "code" tk) fill expr) Q E ⟨h,g,d,t,os⟩:=by
 obtain ⟨nm,q,bs,sn,sub,col,dd,k0,k1,k2,k3,k5,hC⟩:=id X
 have f3:=FB.ga.bind (.ref e)
 have hx0:(expr&&onTheHeap (Value.builtin "BaseException.__getattribute__"))=false:=by cases expr <;> rfl
 have hx2:(Value.builtin "BaseException.__getattribute__"==Value.builtin "object.__getattribute__")=false:=by decide +kernel
 have hx1:(onTheHeap (Value.ref 41)&&Value.builtin "BaseException.__getattribute__"==Value.builtin "object.__getattribute__")=false:=by rw [hx2];rfl
 repeat (any_goals (first | assumption | (with_reducible refine wpAny_loadPart_at hx ?_) | (with_reducible refine wpAny_typeLookup_exc hC hn FB.mro FB.ga.lookup ?_;rw [hg1]) | (with_reducible refine wpAny_typeLookup_exc hC hn FB.mro FB.noGetattr ?_;rw [hg2]) | wp_step))
 refine uW FB X hn hna hx hd hv hh ?_
 repeat (any_goals (first | assumption | wp_step))
theorem vJ {expr:Bool} {Q:Value->Shared->Prop} (FB:ExcAttrBase "Exception" fq) (X:ExcAt h 41 N) (hn:h.Ns N mN) (hna:mN "code"=none) (hg1:mN "__getattribute__"=none) (hg2:mN "__getattr__"=none)
  (hx:h.get? e=some ⟨.ref 41,some dx,.fields vs,sl⟩) (hd:h.Ns dx mA) (hv:mA "code"=some v) (hh:handedOut v=pure v) (hq:Q v ⟨h,g,d,t+1,os⟩):wpAny (model pw w) A (getAttr (.ref e) "code" expr) Q E ⟨h,g,d,t,os⟩:=by
 unfold getAttr
 repeat (any_goals (first | assumption | with_reducible apply yn FB X hn hna hg1 hg2 hx hd hv hh | wp_step))
end
noncomputable def Cx.mark (c:Cx) (e:Addr):Cx:={ c with A:=c.A.mark (some (.ref e)),afr:=c.afr,room:=c.room,units:=c.units }
section
variable {c:Cx} {ρ ρ' ρ₀:Pl} {γ γE:Lo} {st stJ:ai} {h h' h₀:Heap} {tk:Nat} {e T:Addr}
theorem Ok.mark (ok:Ok c ρ γ st h) (hx:∃oe vs,e∉ρ.vis/\h.get? e=some oe/\oe.data=.fields vs/\vs[2]? = some .none):Ok (c.mark e) ρ γ st h:=
 ⟨ok.keys,ok.loc,ok.cel,ok.sto,ok.mod,ok.ff,ok.own,fun x hq=>by
  obtain ⟨oe,vs,a1,a2,a3,a4⟩:=hx
  have hq':some (Value.ref e)=some x:=hq
  cases hq'
  exact ⟨e,oe,vs,rfl,a1,a2,a3,a4⟩⟩
theorem Ok.unmark (ok:Ok (c.mark e) ρ γ st h) (hh:xU c.A.handled ρ h):Ok c ρ γ st h:=⟨ok.keys,ok.loc,ok.cel,ok.sto,ok.mod,ok.ff,ok.own,hh⟩
theorem Ok.stands (ok:Ok c ρ γ st h) (sp:c.Step ρ h ρ' h') {a:Addr} {o:Obj} {vs:Array Value} (n:a∉ρ.vis) (e:h.get? a=some o) (hd:o.data=.fields vs):h'.get? a=some o/\a∉ρ'.vis:=
 sp.keep a o n (fun m=>by obtain ⟨_,o',e',d⟩:=ok.own a m;rw [e] at e';cases e';exact d.1 _ hd) (fun m=>by obtain ⟨_,o',e',d⟩:=ok.ff.at_ a (c.rest_fr a m);rw [e] at e';cases e';exact d.1 _ hd) e
theorem Ok.hnd_step (ok:Ok c ρ γ st h) (sp:c.Step ρ h ρ' h'):xU c.A.handled ρ' h':=fun x hx=>by
 obtain ⟨a,oe,vs,e1,e2,e3,e4,e5⟩:=ok.hnd x hx
 obtain ⟨z1,z2⟩:=ok.stands sp e2 e3 e4
 exact ⟨a,oe,vs,e1,z2,z1,e4,e5⟩
theorem Ok.note (ok₀:Ok c ρ₀ γE stJ h₀) (ok:Ok c ρ γ st h) (sp:c.Step ρ₀ h₀ ρ h) (he0:h₀.get? e=none) (hT0:h₀.get? T=none) (heρ:e∉ρ.vis) (hTρ:T∉ρ.vis)
  (fe:∃oe vs,h.get? e=some oe/\oe.data=.fields vs) (fT:∃oT ts,h.get? T=some oT/\oT.data=.fields ts)
  (k1:∀b o,b∉aE (c.fenv::c.outer)->b≠e->b≠T->h.get? b=some o->h'.get? b=some o)
  (k2:∀b o,b≠e->b≠T->h.get? b=some o->∃sl,h'.get? b=some { o with slots:=sl }) (k3:∀b o,h.get? b=some o->∃o',h'.get? b=some o'):Ok c ρ γ st h'/\c.Step ρ₀ h₀ ρ h':=by
 obtain ⟨oe,evs,ge,de⟩:=fe
 obtain ⟨oT,tvs,gT,dT⟩:=fT
 have nf:∀b o,h.get? b=some o->(∀vs,o.data≠.fields vs)->b≠e/\b≠T:=fun b o eb n=>⟨fun q=>by rw [q,ge] at eb;cases eb;exact n _ de,fun q=>by rw [q,gT] at eb;cases eb;exact n _ dT⟩
 have ks:∀b o,h.get? b=some o->be o->h'.get? b=some o:=fun b o eb q=>by
  have n:∀vs,o.data≠.fields vs:=fun vs z=>by obtain ⟨_,_,y⟩:=q;rw [y] at z;cases z
  refine k1 b o (fun m=>?_) (nf b o eb n).1 (nf b o eb n).2 eb
  obtain ⟨_,o',e',d⟩:=ok.ff.at_ b m
  rw [eb] at e';cases e';exact d.2 q
 have fr:∀b,b∈c.own\/b∈c.rest->∀o,h.get? b=some o->∃sl,h'.get? b=some { o with slots:=sl }:=fun b hb o eb=>by
  obtain ⟨_,o',e',d⟩:=ok.frame_at hb
  rw [eb] at e';cases e'
  exact k2 b o (nf b o eb d.1).1 (nf b o eb d.1).2 eb
 have dz:∀b∈aE (c.fenv::c.outer),∀o,h.get? b=some o->Dull o->∃o',h'.get? b=some o'/\Dull o':=fun b hb o eb d=>by
  obtain ⟨sl,z⟩:=k2 b o (nf b o eb d.1).1 (nf b o eb d.1).2 eb
  exact ⟨_,z,d⟩
 have old:∀b o,h₀.get? b=some o->b≠e/\b≠T:=fun b o eb=>⟨fun q=>(by rw [q,he0] at eb;cases eb),fun q=>(by rw [q,hT0] at eb;cases eb)⟩
 have rp:∀{r:RV} {v:Value},Rep ρ h r v->Rep ρ h' r v:=fun y=>y.mono Pre.refl.1 fun a o f eb q=>⟨f,ks a o eb q⟩
 obtain ⟨m,hn,hl⟩:=ok.loc
 refine ⟨⟨ok.keys,⟨m,Ns.slots hn (fr _ (.inl c.L_own)),hl.mono rp fun x a ea v z=>IsCell.slots z (fr _ (c.cells_in _ _ ea))⟩,fun x a ea=>?_,⟨ok.sto.len,ok.sto.nd,ok.sto.off,fun i a o e1 e2=>?_,fun b m=>let ⟨q1,q2,o,q3,q4⟩:=ok.sto.hid b m;⟨q1,q2,o,ks b o q3 q4,q4⟩⟩,fun b o eb=>?_,ok.ff.mono dz,fun b hb=>?_,fun x hx=>?_⟩,
  ⟨sp.pre,fun b o s n1 n2 eb=>?_,fun b o s q eb=>?_,fun b hb o eb=>?_,fun b o eb=>?_⟩⟩
 ·obtain ⟨cv,z⟩:=ok.cel x a ea
  exact ⟨cv,IsCell.slots z (fr _ (c.cells_in _ _ ea))⟩
 ·have hm:=List.mem_of_getElem? e1
  exact (ok.sto.reps i a o e1 e2).mono Pre.refl.1 (fun b o f eb q=>⟨f,ks b o eb q⟩) fun o eb=>k1 a o (fun q=>(c.cover a q).elim (ok.off_own hm) (ok.off_rest hm)) (fun q=>heρ (q▸hm)) (fun q=>hTρ (q▸hm)) eb
 ·refine k1 b o (fun q=>by have:=(ok.ff.at_ b q).1;rw [eb] at this;cases this) (old b o (ok₀.mod b o eb)).1 (old b o (ok₀.mod b o eb)).2 (ok.mod b o eb)
 ·obtain ⟨a1,o,eb,d⟩:=ok.own b hb
  obtain ⟨sl,z⟩:=fr b (.inl hb) o eb
  exact ⟨a1,_,z,d⟩
 ·obtain ⟨a,ox,vs,e1,e2,e3,e4,e5⟩:=ok₀.hnd x hx
  obtain ⟨z1,z2⟩:=ok₀.stands sp e2 e3 e4
  refine ⟨a,ox,vs,e1,z2,k1 a ox (fun q=>?_) (old a ox e3).1 (old a ox e3).2 z1,e4,e5⟩
  obtain ⟨_,o',e',d⟩:=ok.ff.at_ a q
  rw [z1] at e';cases e';exact d.1 _ e4
 ·obtain ⟨z1,z2⟩:=sp.keep b o s n1 n2 eb
  exact ⟨k1 b o (fun q=>(c.cover b q).elim n1 n2) (old b o eb).1 (old b o eb).2 z1,z2⟩
 ·obtain ⟨z1,z2⟩:=sp.seqs b o s q eb
  exact ⟨ks b o z1 q,z2⟩
 ·obtain ⟨sl,z⟩:=sp.outs b hb o eb
  obtain ⟨sl',z'⟩:=k2 b _ (old b o eb).1 (old b o eb).2 z
  exact ⟨sl',z'⟩
 ·obtain ⟨o',z⟩:=sp.alive b o eb
  exact k3 b o' z
theorem Ok.outer (ok:Ok c ρ γ st h) {m m':Str->Option Value} {n:Str} (hm:h.Ns c.L m) (hm':h'.Ns c.L m') (hs:Heap.SameBut c.L h h') (hn:n∉c.names) (hmm:∀x,x≠n->m' x=m x):Ok c ρ γ st h'/\c.Step ρ h ρ h':=by
 obtain ⟨m₁,hmJ,hl⟩:=ok.loc
 have hmu:∀x,m₁ x=m x:=fun x=>by
  obtain ⟨o,es,ep,a1,a2,a3,a4⟩:=hm
  obtain ⟨o',es',ep',b1,b2,b3,b4⟩:=hmJ
  rw [a1] at b1;cases b1
  rw [a2] at b2;cases b2
  rw [<-a4,<-b4]
 have hLc:∀{x:Str} {a:Addr},c.env.cells.lookup x=some a->a≠c.L:=fun e=>c.above _ _ (mem_of_lookup e)
 have keep:∀b o,b∉[c.L]->h.get? b=some o->h'.get? b=some o:=fun b o q e=>(hs.2 b (by simpa using q)).trans e
 have hL':∃o,h'.get? c.L=some o/\Dull o:=hm'.imp fun oL y=>y.elim fun es y=>y.elim fun ep y=>⟨y.1,.dict y.2.1⟩
 exact ok.become (zs:=[c.L]) (fun z m=>.inl (by rw [List.mem_singleton.mp m];exact c.L_own)) keep (fun z m=>by rw [List.mem_singleton.mp m];exact ⟨_,hL'.choose_spec.1⟩)
  (fun z m _=>by rw [List.mem_singleton.mp m];exact hL') .refl (fun b m=>.inl m)
  (fun x a e=>(ok.cel x a e).imp fun cv z=>IsCell.at z fun o e'=>keep _ _ (by simpa using hLc e) e') ok.keys (fun rp=>⟨m',hm',fun j z rz h1 h2=>by
   obtain ⟨vz,e,yz⟩:=hl j z rz h1 h2
   refine ⟨vz,?_,rp yz⟩
   rcases e with ⟨k',e⟩ | ⟨k',a',ha',hc⟩
   ·exact .inl ⟨k',by rw [hmm z (fun q=>hn (q▸List.mem_of_getElem? h1)),<-hmu];exact e⟩
   ·exact .inr ⟨k',a',ha',IsCell.at hc fun o e=>keep _ _ (by simpa using hLc ha') e⟩⟩)
  fun kz=>ok.sto.mono kz fun a m o e=>keep a o (fun q=>ok.off_own m (by rw [List.mem_singleton.mp q];exact c.L_own)) e
end
theorem rW {w:World} {A:Around} {s:Shared} {env:Env} {R:Result->Shared->Prop} {e:Value} {n:Str} {body:List Stmt} {pos:Pos}
  (h:wpAny (model pw w) A (setFlight e none) (fun _ s₁=>wpAny (model pw w) A (storeName env n e) (fun _ s₂=>wpAny (model pw w) A (execs body env) (fun f s₃=>R (.ok f) s₃) (fun _ _=>False) s₂) (fun _ _=>False) s₁) (fun _ _=>False) s) :
  codeAny (model pw w) A (.handlers e [.ExceptHandler none (some n) body pos] env) R s:=by
 refine codeAny_of_tree ?_
 show wpAny _ A (do return Fin.done (<-(handleWith e env [.ExceptHandler none (some n) body pos]).onRaise (fun x=>do noteFrame x env;theTreesLotGoes x))) _ _ s
 refine wpAny_bind (wpAny_noted ?_)
 unfold handleWith
 refine wpAny_bind (wpAny_standAt (wpAny_bind (wpAny_mono h (fun _ s₁ h₁=>?_) fun _ _ x=>x.elim)))
 refine wpAny_bind (wpAny_bindName (wpAny_mono h₁ (fun _ s₂ h₂=>?_) fun _ _ x=>x.elim))
 exact wpAny_bind (wpAny_attempt (wpAny_mono h₂ (fun f s₃ h₃=>wpAny_pure (wpAny_pure h₃)) fun _ _ x=>x.elim))
theorem CodeAt.slots {h h':Heap} {d:Addr} {k:Str} (x:CodeAt h d k) (q:∀o,h.get? d=some o->∃sl,h'.get? d=some { o with slots:=sl }):CodeAt h' d k:=by
 obtain ⟨od,es,n,t,y1,y2,y3,y4,y5⟩:=x
 obtain ⟨sl,z⟩:=q od y1
 exact ⟨_,es,n,t,z,y2,y3,y4,y5⟩
theorem CodeAt.dull {h:Heap} {d:Addr} {k:Str} (x:CodeAt h d k):∃o,h.get? d=some o/\Dull o:=by
 obtain ⟨od,es,n,t,y1,y2,y3,y4,y5⟩:=x
 exact ⟨od,y1,.dict y2⟩
theorem CodeAt.ns {h:Heap} {d:Addr} {k:Str} (x:CodeAt h d k):∃m t,h.Ns d m/\m "code"=some (.str k t):=by
 obtain ⟨od,es,n,t,y1,y2,y3,y4,y5⟩:=x
 exact ⟨fun name=>nsFind es name,t,⟨od,es,n,y1,y2,y3,fun _=>rfl⟩,y5⟩
noncomputable def AT (e:Expr):Bool:=match e with
 | .Constant k _ _=>(match k with
  | .bool b=> !b
  | _=>false)
 | _=>false
theorem w0 {e:Expr} (h:AT e=true):∃k p,e=.Constant (.bool false) k p:=by
 cases e with
 | Constant k j p=>cases k with
  | bool b=>cases b with
   | false=>exact ⟨j,p,rfl⟩
   | true=>exact aN h
  | _=>exact aN h
 | _=>exact aN h
noncomputable def ro (n:Str) (e:Expr):Bool:=match e with
 | .Attribute o a _=>decide (a="code")&&(match o with
  | .Name x _=>decide (x=n)
  | _=>false)
 | _=>false
theorem qU {n:Str} {e:Expr} (h:ro n e=true):∃p q,e=.Attribute (.Name n p) "code" q:=by
 cases e with
 | Attribute o a q=>
  have h:=Bool.and_eq_true_iff.mp h
  cases o with
  | Name x p=>exact ⟨p,q,by rw [of_decide_eq_true h.1,of_decide_eq_true h.2]⟩
  | _=>exact aN h.2
 | _=>exact aN h
noncomputable def gY (n:Str) (e:Expr):Bool:=match e with
 | .Tuple es _ _=>az (fz es) fun p=>AT p.1&&ro n p.2
 | _=>false
theorem kj {n:Str} {e:Expr} (h:gY n e=true):∃k1 p1 p2 p3 k p4,e=.Tuple [.Constant (.bool false) k1 p1,.Attribute (.Name n p2) "code" p3] k p4:=by
 cases e with
 | Tuple es k p=>
  obtain ⟨x,e1,h⟩:=aj h
  have h:=Bool.and_eq_true_iff.mp h
  obtain ⟨k1,p1,e2⟩:=w0 h.1
  obtain ⟨p2,p3,e3⟩:=qU h.2
  exact ⟨k1,p1,p2,p3,k,p,by rw [cB e1,e2,e3]⟩
 | _=>exact aN h
section
variable {c:Cx} {ρ ρ₀:Pl} {γ:Lo} {st:ai} {h h₀:Heap} {tk:Nat} {e T d:Addr}
theorem io {A:Around} {n:Str} {ex:Expr} {k:Str} {m:Str->Option Value} {E:Value->Shared->Prop} {Q:Value->Shared->Prop} (hx:gY n ex=true) (hnd:(n==("__debug__":Str))=false) (hn:c.env.kindOf n=some .local) (hm:h.Ns c.L m) (hme:m n=some (.ref e)) (kp:kept c.w h)
  (tr:∃oe vs,h.get? e=some oe/\oe.cls=.ref 41/\oe.dict=some d/\oe.data=.fields vs) (code:CodeAt h d k)
  (hq:∀tk' t,Q (.ref h.objs.size) ⟨h.push { cls:=.type "tuple",data:=.seq #[.bool false,.str k t] },c.g,c.d,tk',c.os⟩):wpAny (model pw c.w) A (eval ex c.env) Q E ⟨h,c.g,c.d,tk,c.os⟩:=by
 obtain ⟨k1,p1,p2,p3,kk,p4,rfl⟩:=kj hx
 obtain ⟨N,mN,X,hN,n1,n2,n3,n4,n5,n6⟩:=fg c.w _ rfl
 obtain ⟨⟨oc,od,odt,sl⟩,vs,a1,a2,a3,a4⟩:=tr
 simp only at a2 a3 a4
 subst a2 a3 a4
 obtain ⟨mA,t,hA,hAv⟩:=code.ns
 refine wpAny_Tuple_spliced (wpAny_items_cons (wpAny_pure (wpAny_items_cons (Attribute_any_ (wpAny_Name (wpAny_loadName_local c.kind hn hm hme ?_) hnd) (by rfl)))))
 refine vJ F.attrBase_Exception (X.keeps kp) (hN.keeps kp) n2 n5 n6 a1 hA hAv rfl (wpAny_items_nil ⟨by show (2:Nat)<=_;decide,hq _ t⟩)
end
inductive Hdl where
 | ret
 | set (i:Nat)
noncomputable def refused (k:Str):RV:=.tup [.bool false,.str k]
noncomputable def Hdl.out:Hdl->Str->Lo->ai->SOut
 | .ret,k,_,st=>.ret (refused k) st
 | .set i,k,γ,st=>.next (γ.set i (some (refused k))) st
noncomputable def oU (s:Stmt):Option Expr:=match s with
 | .Return e _=>e
 | _=>none
theorem mR {s:Stmt} {e:Expr} (h:oU s=some e):∃p,s=.Return (some e) p:=by
 cases s with
 | Return e' p=>exact ⟨p,congrArg (Stmt.Return · p) h⟩
 | _=>exact aP h
noncomputable def nameOf (e:Expr):Option (Str×Pos):=match e with
 | .Name x p=>some (x,p)
 | _=>none
theorem cU {e:Expr} {x:Str×Pos} (h:nameOf e=some x):e=.Name x.1 x.2:=by
 cases e with
 | Name y p=>rw [<-Option.some.inj h]
 | _=>exact aP h
noncomputable def vV (s:Stmt):Option (List Expr×Expr×Pos):=match s with
 | .Assign ts e p=>some (ts,e,p)
 | _=>none
theorem rX {s:Stmt} {x:List Expr×Expr×Pos} (h:vV s=some x):s=.Assign x.1 x.2.1 x.2.2:=by
 cases s with
 | Assign ts e p=>rw [<-Option.some.inj h]
 | _=>exact aP h
noncomputable def Hdl.isS (names:List Str) (n:Str) (s:Stmt):Hdl->Bool
 | .ret=>az (oU s) (gY n)
 | .set i=>az (vV s) fun p=>az (oneOf p.1) fun t=>az (nameOf t) fun x=>decide (names[i]? = some x.1)&&gY n p.2.1
noncomputable def Hdl.isBody (H:Hdl) (names:List Str) (n:Str) (l:List Stmt):Bool:=az (oneOf l) fun s=>H.isS names n s
inductive HB (names:List Str) (n:Str):Hdl->List Stmt->Prop
 | ret (e:Expr) (p:Pos) (h:gY n e=true):HB names n .ret [.Return (some e) p]
 | set (i:Nat) (x:Str) (p q:Pos) (e:Expr) (hi:names[i]? = some x) (h:gY n e=true):HB names n (.set i) [.Assign [.Name x p] e q]
theorem qR {H:Hdl} {names:List Str} {n:Str} {l:List Stmt} (h:H.isBody names n l=true):HB names n H l:=by
 obtain ⟨s,e1,h⟩:=aj h
 rw [aR e1]
 cases H with
 | ret=>
  obtain ⟨e,e2,h⟩:=aj h
  obtain ⟨p,e3⟩:=mR e2
  rw [e3]
  exact .ret e p h
 | set i=>
  obtain ⟨p,e2,h⟩:=aj h
  obtain ⟨t,e3,h⟩:=aj h
  obtain ⟨x,e4,h⟩:=aj h
  rw [rX e2,aR e3,cU e4]
  rw [Bool.and_eq_true] at h
  exact .set i _ _ _ _ (of_decide_eq_true h.1) h.2
noncomputable def ny (H:Hdl) (m:Option SOut):Option SOut:=match m with
 | some (.exc k γ st)=>some (H.out k γ st)
 | y=>y
section
variable {c:Cx} {ρ ρ₀ ρQ:Pl} {γ γE γQ:Lo} {st stJ st₁:ai} {h h₀ hA hB:Heap} {tk:Nat} {e T d:Addr} {k:Str}
inductive Held (c:Cx) (ρ₀:Pl) (h₀:Heap) (ρ:Pl) (γ:Lo) (st:ai) (e:Addr) (k:Str) (T d:Addr) (fl:Value) (h:Heap):Prop
 | mk (ok:Ok c ρ γ st h) (sp:c.Step ρ₀ h₀ ρ h) (tr:Tr h e T (.ref 41) (some d) fl) (code:CodeAt h d k) (n1:h₀.get? e=none) (n2:h₀.get? T=none) (n3:h₀.get? d=none) (r1:e∉ρ.vis) (r2:T∉ρ.vis) (r3:d∉ρ.vis)
theorem Dull.not {o:Obj} {a:Addr} {vs:Array Value} (eo:h.get? a=some o) (hd:o.data=.fields vs) (x:∃o,h.get? a=some o/\Dull o) {P:Prop}:P:=by
 obtain ⟨o',e',dd⟩:=x
 rw [Option.some.inj (e'.symm.trans eo)] at dd
 exact (dd.1 _ hd).elim
theorem Held.flight {fl:Value} {fr:Option Addr} {M:Model} {A:Around} {E:Value->Shared->Prop} {Q:Unit->Shared->Prop} {g:Array GenState} {dr:Drawn} {os:OsState} (ok₀:Ok c ρ₀ γE stJ h₀) (x:Held c ρ₀ h₀ ρ γ st e k T d fl h)
  (hq:∀h',Held c ρ₀ h₀ ρ γ st e k T d (fr.elim .none fun f=>rawInt f) h'->Q () ⟨h',g,dr,tk,os⟩):wpAny M A (setFlight (.ref e) fr) Q E ⟨h,g,dr,tk,os⟩:=by
 obtain ⟨okA,spA,tA,cA,n1,n2,n3,r1,r2,r3⟩:=x
 refine Mine.flight (s:=⟨h,g,dr,tk,os⟩) tA fun h' t' j1 j2=>?_
 obtain ⟨oe,vs,oT,ts,a1,a2,a3,a4,a5,a6,a7,a8,a9,a10⟩:=tA
 obtain ⟨okB,spB⟩:=ok₀.note okA spA n2 n2 r2 r2 ⟨oT,ts,a8,a9⟩ ⟨oT,ts,a8,a9⟩ (fun b o _ z _ eb=>j1 b o z eb) (fun b o z _ eb=>⟨o.slots,j1 b o z eb⟩) j2
 exact hq h' ⟨okB,spB,t',cA.slots fun o eo=>⟨o.slots,j1 d o (fun z=>Dull.not (z▸a8) a9 cA.dull) eo⟩,n1,n2,n3,r1,r2,r3⟩
theorem noted_here {fl:Value} {Q:Unit->Shared->Prop} {E:Value->Shared->Prop} {h₁:Heap} {t₁:Nat} {A:Around} {env:Env} (hA:A.frames=some (env::c.outer)) (he:c.fenv=env) (ok:Ok c ρ γ st h) (sp:c.Step ρ h ρQ h₁) (ok₁:Ok c ρQ γQ st₁ h₁)
  (hfl:fl=.none\/fl=rawInt c.fenv.locals) (ex:Exc ρQ h h₁ e k fl)
  (hq:∀h₂ TJ d,Held c ρ h ρQ γQ st₁ e k TJ d (rawInt c.fenv.locals) h₂->Q () ⟨h₂,c.g,c.d,t₁,c.os⟩) :
  wpAny (model pw c.w) A (noteFrame (.ref e) env) Q E ⟨h₁,c.g,c.d,t₁,c.os⟩:=by
 subst he
 obtain ⟨T,d,fly,code,n1,n2,n3,r1,r2,r3⟩:=ex
 obtain ⟨oe,evs,oT,tvs,f1,f2,f3,f4,f5,f6,f7⟩:=fly.at
 refine note (s:=⟨h₁,c.g,c.d,t₁,c.os⟩) (w:=c.w) hA ok₁.ff c.fframe fly hfl fun h₂ TJ hT₂ t₂ k1 k2 k3=>?_
 obtain ⟨ok₂,sp₂⟩:=ok.note ok₁ sp n1 n2 r1 r2 ⟨oe,evs,f1,f4⟩ ⟨oT,tvs,f6,f7⟩ k1 k2 k3
 exact hq h₂ TJ d ⟨ok₂,sp₂,t₂,code.slots fun o eo=>k2 d o (fun z=>Dull.not (z▸f1) f4 code.dull) (fun z=>Dull.not (z▸f6) f7 code.dull) eo,
  n1,hT₂.elim (fun z=>z▸n2) fun z=>sp.old z,n3,r1,hT₂.elim (fun z=>z▸r2) fun z=>ok₁.free_off z,r3⟩
noncomputable abbrev iG (k:Str) (t:Tok):Obj:={ cls:=.type "tuple",data:=.seq #[.bool false,.str k t] }
theorem ms {t:Tok} (ok:Ok c ρ γ st h):Rep ρ (h.push (iG k t)) (refused k) (.ref h.objs.size):=.tup (vs:=[.bool false,.str k t]) (ok.free_new Heap.new_none) ⟨_,Heap.get?_push_size _ rfl,rfl,_,rfl⟩ (.cons (.bool _) (.cons (.str _ _) .nil))
theorem behind {n:Str} {hp:Pos} {fl:Flow} {o:SOut} {E:Value->Shared->Prop} {A:Around} (hn:c.env.kindOf n=some .local) (hnn:n∉c.names) (ok':Ok c ρ γ st h) (sp':c.Step ρ₀ h₀ ρ h) (hq:∀ρ'' h'',c.Step ρ h ρ'' h''->FQ c o fl ρ'' γ st h'') :
  wpAny c.M A (do bindName c.env n .none;unbindBehindTheSuite c.env n hp) (fun _ s₃=>QW c ρ₀ h₀ (FQ c o) fl s₃) E ⟨h,c.g,c.d,tk,c.os⟩:=by
 obtain ⟨m',hm',_⟩:=ok'.loc
 refine wpAny_bind (wpAny_bindName (wpAny_storeName_local hn hm' (fun h₆ hnQ hsQ=>?_) (by rw [c.kind];rfl)))
 obtain ⟨ok₆,sp₆⟩:=ok'.outer hm' hnQ hsQ hnn fun y hy=>if_neg hy
 refine wpAny_onRaise (wpAny_unbindName_local hn hnQ (v:=.none) (if_pos rfl) (by rw [c.kind];rfl) fun h₇ u hnZ hsJ=>?_)
 obtain ⟨ok₇,spQ⟩:=ok₆.outer hnQ hnZ hsJ hnn fun y hy=>if_neg hy
 exact W.ends ((sp'.trans sp₆).trans spQ) ok₇ (hq _ _ (sp₆.trans spQ))
theorem handled {H:Hdl} {hb:List Stmt} {n:Str} {hp:Pos} {fl:Value} {E:Value->Shared->Prop} (hF:c.Full) (hn:c.env.kindOf n=some .local) (hnn:n∉c.names) (hnd:(n==("__debug__":Str))=false) (hbody:HB c.names n H hb) (ok₀:Ok c ρ₀ γE stJ h₀) (x:Held c ρ₀ h₀ ρ γ st e k T d fl h) {m:Str->Option Value} (hm:h.Ns c.L m) (hme:m n=some (.ref e)) :
  wpAny c.M (c.A.mark (some (.ref e))) (execs hb c.env) (fun f s₃=>wpAny c.M c.A (do bindName c.env n .none;unbindBehindTheSuite c.env n hp) (fun _ s₃=>QW c ρ₀ h₀ (FQ c (H.out k γ st)) f s₃) E s₃) (fun _ _=>False) ⟨h,c.g,c.d,tk,c.os⟩:=by
 obtain ⟨ok₅,sp₅,t₅,code,n1,n2,n3,r1,r2,r3⟩:=x
 obtain ⟨oe,vs,oT,ts,b1,b2,b3,b4,b5,b6,b7,b8,b9,b10⟩:=t₅
 cases hbody with
 | ret ex rp hbody=>
  refine wpAny_execs_cons (wpAny_Return_some (io (c:=c) hbody hnd hn hm hme ok₅.mod ⟨oe,vs,b1,b2,b3,b4⟩ code fun tk' t=>?_))
  obtain ⟨ok₆,sp₆⟩:=ok₅.grow (h':=h.push (iG k t)) fun b o eb=>Heap.get?_push_of_some _ eb
  exact behind hn hnn ok₆ (sp₅.trans sp₆) fun ρ'' h'' sp''=>⟨_,sp''.rep (ms ok₅),rfl⟩
 | set i xx xp ap ex hi hbody=>
  have hsw:swapsWith ex (some (.Name xx xp)) ap.line c.env=pure false:=by
   obtain ⟨q1,q2,q3,q4,q5,q6,hq⟩:=kj hbody
   rw [hq];rfl
  refine wpAny_execs_cons (wpAny_Assign_Name (io (c:=c) hbody hnd hn hm hme ok₅.mod ⟨oe,vs,b1,b2,b3,b4⟩ code fun tk' t=>?_) hsw)
  obtain ⟨ok₆,sp₆⟩:=ok₅.grow (h':=h.push (iG k t)) fun b o eb=>Heap.get?_push_of_some _ eb
  have ws:=W.store (c:=c.mark e) (X:=fun _ _ _=>False) (tk:=tk') (ok₆.mark ⟨oe,vs,r1,Heap.get?_push_of_some _ b1,b4,b6⟩) hi (.inr ⟨hF.cells,hF.env⟩) (ms (t:=t) ok₅)
  refine wpAny_mono ws (fun _ s₇ z=>?_) fun v s' z=>by obtain ⟨_,_,_,_,_,_,_,_,_,_,_,_,q⟩:=z;exact q.elim
  obtain ⟨h₇,t₇,ρZ,γS,stE,spQ,ok₇,w1,w2,w3⟩:=z
  subst w1 w2 w3
  have sp7:c.Step ρZ (h.push (iG k t)) ρZ h₇:=spQ
  exact wpAny_execs_nil (behind hn hnn (ok₇.unmark (ok₆.hnd_step sp7)) ((sp₅.trans sp₆).trans sp7) fun ρ'' h'' sp''=>rfl)
theorem SX.tryx {H:Hdl} {body hb:List Stmt} {n bx:Str} {bp hp pos:Pos} {m:Option SOut} {o:SOut} (hm:ny H m=some o) (x:∀o,m=some o->SR c γ st body o) (hF:c.Full)
  (hn:c.env.kindOf n=some .local) (hnn:n∉c.names) (hnd:(n==("__debug__":Str))=false) (hbx:c.env.kindOf bx=some .globalImplicit) (hbd:(bx==("__debug__":Str))=false) (hgl:cX c.w bx (.stat 41)) (hbody:H.isBody c.names n hb=true) :
  SX c γ st (.Try body [.ExceptHandler (some (.Name bx bp)) (some n) hb hp] [] [] pos) o:=fun ρ h tk ok=>by
 cases m with
 | none=>exact aP hm
 | some q=>
 refine wpAny_Try_except (wpAny_mono (x q rfl ρ h tk ok) (fun fl s' z=>?_) fun v s' z=>?_)
 ·obtain ⟨h₁,t₁,ρQ,γQ,st₁,sp,ok₁,q'⟩:=z
  cases fl with
  | next=>
   rw [show q=_ from q'] at hm
   rw [<-Option.some.inj hm]
   exact wpAny_execs_nil (W.ends sp ok₁ rfl)
  | ret v=>
   obtain ⟨r,yr,q'⟩:=q'
   rw [q'] at hm
   exact ⟨h₁,t₁,ρQ,γQ,st₁,sp,ok₁,r,yr,(Option.some.inj hm).symm⟩
  | brk=>exact q'.elim
  | cont=>exact q'.elim
 ·obtain ⟨h₁,t₁,ρQ,γQ,st₁,e,k,fl,sp,ok₁,e3,e4,q'⟩:=z
  rw [show q=_ from q'] at hm
  rw [<-Option.some.inj hm]
  refine noted_here (by rw [<-hF.env];exact c.afr) hF.env ok sp ok₁ e3 e4 fun h₂ T d t₂=>?_
  refine t₂.flight ok fun h₃ t₃=>?_
  obtain ⟨N,mN,X,hN,xn1,xn2,xn3,xn4,xn5,xn6⟩:=fg c.w _ rfl
  obtain ⟨nm,cq,bs,sn,sub,col,dd,k0,k1',k2',k3',k5,hC⟩:=X
  have ok₃:Ok c ρQ γQ st₁ h₃:=t₃.1
  have trQ:Tr h₃ e T (.ref 41) (some d) .none:=t₃.3
  obtain ⟨oeQ,vsQ,oTQ,tsQ,g1,g2,g3,g4,g5,g6,g7,g8,g9,g10⟩:=trQ
  have onName:∀{Q:Value->Shared->Prop} {E:Value->Shared->Prop},Q (.ref 41) ⟨h₃,c.g,c.d,t₁,c.os⟩->wpAny c.M (c.A.mark (some (.ref e))) (eval (.Name bx bp) c.env) Q E ⟨h₃,c.g,c.d,t₁,c.os⟩:=fun {Q E} hq=>by
   obtain ⟨mg,mb,v,hg,hb',hv,y⟩:=hgl h₃ ok₃.mod
   have hq:Q v ⟨h₃,c.g,c.d,t₁,c.os⟩:=(y ρQ ok₃.mod_offs).elim (R:=fun v=>Q v ⟨h₃,c.g,c.d,t₁,c.os⟩) hq
   rcases hv with hv | ⟨hv,hv'⟩
   ·exact Name_function_global c.kind hbx (loadGlobal_global (by rw [c.egl];exact hg) hv hq) hbd
   ·exact Name_function_global c.kind hbx (loadGlobal_builtin (by rw [c.egl];exact hg) hv (by rw [c.ebl];exact hb') hv' hq) hbd
  refine wpAny_handleBy_cons (codeAny_handlers_test (onName (wpAny_excMatches_sub_self (ok₃.mod _ _ hC) g1 g2 (by decide +kernel) ?_))) (by intro z;exact nomatch z)
  refine rW ?_
  refine t₃.flight (fr:=none) ok fun h₄ t₄=>?_
  obtain ⟨ok₄,sp₄,trJ,code₄,n1,n2,n3,r1,r2,r3⟩:=t₄
  obtain ⟨m₄,hmE,_⟩:=ok₄.loc
  refine wpAny_storeName_local hn hmE (fun h₅ hnJ hs₅=>?_) (by rw [c.kind];rfl)
  obtain ⟨ok₅,sp₅⟩:=ok₄.outer hmE hnJ hs₅ hnn fun y hy=>if_neg hy
  obtain ⟨oeJ,vsJ,oTJ,tsJ,b1,b2,b3,b4,b5,b6,b7,b8,b9,b10⟩:=trJ
  have ne5:∀b o,h₄.get? b=some o->b≠c.L->h₅.get? b=some o:=fun b o eb z=>(hs₅.2 b z).trans eb
  have ownL:=ok₄.own _ c.L_own
  have neL:∀{b o vs},h₄.get? b=some o->o.data=.fields vs->b≠c.L:=fun eb hd z=>Dull.not eb hd (z▸ownL.2)
  have dL:d≠c.L:=fun z=>by
   obtain ⟨_,o,eo,dl⟩:=ok.own _ c.L_own
   exact aP (n3.symm.trans ((congrArg h.get? z).trans eo))
  exact handled hF hn hnn hnd (qR hbody) ok ⟨ok₅,sp₄.trans sp₅,⟨oeJ,vsJ,oTJ,tsJ,ne5 _ _ b1 (neL b1 b4),b2,b3,b4,b5,b6,b7,ne5 _ _ b8 (neL b8 b9),b9,b10⟩,code₄.slots fun o eo=>⟨o.slots,ne5 d o eo dL⟩,n1,n2,n3,r1,r2,r3⟩ hnJ (if_pos rfl)
end
noncomputable def SOut.asNext (o:SOut):Option (Lo×ai):=match o with
 | .next γ st=>some (γ,st)
 | _=>none
theorem qb {o:SOut} {x:Lo×ai} (h:o.asNext=some x):o=.next x.1 x.2:=by
 cases o with
 | next γ st=>rw [<-Option.some.inj h]
 | _=>exact aP h
noncomputable def vQ (m:Option SOut) (f g:Lo->ai->Option SOut):Option SOut:=m.bind fun o=>match o with
 | .next γ st=>(f γ st).bind fun o=>o.asNext.map fun x=>.next x.1 x.2
 | .exc k γ st=>(g γ st).bind fun o=>o.asNext.map fun x=>.exc k x.1 x.2
 | .ret _ _=>none
section
variable {c:Cx} {ρ ρ₀:Pl} {γ γE:Lo} {st stJ:ai} {h h₀:Heap} {tk:Nat} {e T d:Addr} {k:Str}
theorem SR.thenNext {F:Lo×ai->SOut} {l:List Stmt} {m:Option SOut} {o:SOut} {Qr:Flow->Shared->Prop} {E:Value->Shared->Prop} (hm:(m.bind fun o=>o.asNext.map F)=some o) (y:∀o,m=some o->SR c γ st l o) (ok:Ok c ρ γ st h)
  (k:∀ρQ γQ st₁ h₁ t₁,o=F (γQ,st₁)->c.Step ρ h ρQ h₁->Ok c ρQ γQ st₁ h₁->Qr .next ⟨h₁,c.g,c.d,t₁,c.os⟩):wpAny c.M c.A (execs l c.env) Qr E ⟨h,c.g,c.d,tk,c.os⟩:=by
 obtain ⟨o',e1,e2⟩:=Option.bind_eq_some_iff.mp hm
 obtain ⟨x,e3,e4⟩:=Option.map_eq_some_iff.mp e2
 have y:=y _ e1 ρ h tk ok
 rw [qb e3] at y
 refine wpAny_mono y (fun fl s' z=>?_) fun v s' z=>?_
 ·obtain ⟨h₂,t₂,ρ₂,γZ,stQ,sp₂,ok₂,q₂⟩:=z
  cases fl with
  | next=>
   have w:SOut.next x.1 x.2=.next γZ stQ:=q₂
   injection w with w1 w2
   exact k ρ₂ γZ stQ h₂ t₂ (by rw [<-w1,<-w2];exact e4.symm) sp₂ ok₂
  | ret v=>obtain ⟨_,_,w⟩:=q₂;exact nomatch w
  | brk=>exact q₂.elim
  | cont=>exact q₂.elim
 ·obtain ⟨_,_,_,_,_,_,_,_,_,_,_,_,w⟩:=z
  exact nomatch w
theorem SX.fin {body final:List Stmt} {f₀:Stmt} {pos:Pos} {m:Option SOut} {f g:Lo->ai->Option SOut} {o:SOut} (hm:vQ m f g=some o) (hF:c.Full) (x:∀o,m=some o->SR c γ st body o)
  (y:∀γQ st₁ o,f γQ st₁=some o->SR c γQ st₁ (f₀::final) o) (z:∀e γQ st₁ o,g γQ st₁=some o->SR (c.mark e) γQ st₁ (f₀::final) o):SX c γ st (.Try body [] [] (f₀::final) pos) o:=fun ρ h tk ok=>by
 obtain ⟨q,e,hm⟩:=Option.bind_eq_some_iff.mp hm
 refine wpAny_Try_finally (wpAny_mono (x q e ρ h tk ok) (fun fl s' z'=>?_) fun v s' z'=>?_)
 ·obtain ⟨h₁,t₁,ρQ,γQ,st₁,sp,ok₁,q'⟩:=z'
  cases fl with
  | next=>
   rw [show q=_ from q'] at hm
   refine wpAny_execs_nil (SR.thenNext hm (y _ _) ok₁ fun ρ₂ γJ st₂ h₂ t₂ e2 sp₂ ok₂=>?_)
   rw [e2]
   exact W.ends (sp.trans sp₂) ok₂ rfl
  | ret v=>
   obtain ⟨r,yr,q'⟩:=q'
   rw [q'] at hm
   exact aP hm
  | brk=>exact q'.elim
  | cont=>exact q'.elim
 ·obtain ⟨h₁,t₁,ρQ,γQ,st₁,e,k,fl,sp,ok₁,e3,e4,q'⟩:=z'
  rw [show q=_ from q'] at hm
  refine noted_here (by rw [<-hF.env];exact c.afr) hF.env ok sp ok₁ e3 e4 fun h₂ T d t₂=>⟨ref_ne_byPass _,?_⟩
  refine ji (s:=⟨h₂,c.g,c.d,t₁,c.os⟩) c.frame t₂.3 ?_
  refine t₂.flight (fr:=none) ok fun h₃ t₃=>?_
  obtain ⟨ok₃,sp₃,trQ,code₃,n1,n2,n3,r1,r2,r3⟩:=t₃
  obtain ⟨oeQ,vsQ,oTQ,tsQ,g1,g2,g3,g4,g5,g6,g7,g8,g9,g10⟩:=trQ
  refine SR.thenNext (c:=c.mark e) hm (z e _ _) (ok₃.mark ⟨oeQ,vsQ,r1,g1,g4,g6⟩) fun ρ₂ γJ st₂ h₄ t₄ e2 sp₄ ok₄=>?_
  have sp₄':c.Step ρQ h₃ ρ₂ h₄:=sp₄
  have ok'Q:Ok c ρ₂ γJ st₂ h₄:=ok₄.unmark (ok₃.hnd_step sp₄')
  obtain ⟨s1,s2⟩:=ok₃.stands sp₄' r1 g1 g4
  obtain ⟨s3,s4⟩:=ok₃.stands sp₄' r2 g8 g9
  have dn:∀b,b∈c.own\/b∈c.rest->d≠b:=fun b hb q=>by
   obtain ⟨_,o,eo,_⟩:=ok.frame_at hb
   exact aP (n3.symm.trans ((congrArg h.get? q).trans eo))
  obtain ⟨od,hod,_⟩:=code₃.dull
  obtain ⟨s5,s6⟩:=sp₄'.keep d od r3 (fun m=>dn d (.inl m) rfl) (fun m=>dn d (.inr m) rfl) hod
  have x₄:Held c ρ h ρ₂ γJ st₂ e k T d .none h₄:=⟨ok'Q,sp₃.trans sp₄',⟨oeQ,vsQ,oTQ,tsQ,s1,g2,g3,g4,g5,g6,g7,s3,g9,g10⟩,code₃.slots fun o eo=>⟨o.slots,s5.trans (hod.symm.trans eo)⟩,n1,n2,n3,s2,s4,s6⟩
  unfold PySem.passOn
  refine wpAny_bind (wpAny_field s1 g4 g5 ?_)
  rw [if_neg (show ¬ (Value.ref T==Value.none)=true from Bool.false_ne_true)]
  refine wpAny_bind ?_
  refine x₄.flight (fr:=c.env.frame) ok fun h₅ t₅=>?_
  obtain ⟨ok₅,sp₅,t₅,codeQ,n1,n2,n3,r1,r2,r3⟩:=t₅
  rw [c.frame] at t₅
  rw [e2]
  exact wpAny_throw ⟨h₅,t₄,ρ₂,γJ,st₂,e,k,rawInt c.fenv.locals,sp₅,ok₅,.inr rfl,⟨T,d,.inl t₅,codeQ,n1,n2,n3,r1,r2,r3⟩,rfl⟩
end
noncomputable def HdOk (hd:Option Value) (h:Heap):Prop:=∀e,hd=some e->∃a oe vs,e=.ref a/\h.get? a=some oe/\oe.data=.fields vs/\vs[2]? = some .none
theorem HdOk.of {hd:Option Value} {ρ:Pl} {h:Heap} (x:xU hd ρ h):HdOk hd h:=fun e he=>(x e he).imp fun a y=>y.imp fun oe y=>y.imp fun vs y=>⟨y.1,y.2.2⟩
theorem HdOk.keeps {hd:Option Value} {h h':Heap} (x:HdOk hd h) (k:∀a o vs,o.data=.fields vs->vs[2]? = some .none->h.get? a=some o->h'.get? a=some o):HdOk hd h':=fun e he=>by
 obtain ⟨a,oe,vs,e1,e2,e3,e4⟩:=x e he
 exact ⟨a,oe,vs,e1,k a oe vs e3 e4 e2,e3,e4⟩
theorem jW:entryFor table "proto.unchain"=some Builtin.«proto.unchain»:=entryFor_of_tree (by kernel_rfl)
theorem fX {M:Model} {A:Around} {α:Type} {P:Prop} [Decidable P] {a b:Sem α} {Q:α->Shared->Prop} {E:Value->Shared->Prop} {s:Shared} (h:¬P) (x:wpAny M A b Q E s):wpAny M A (if P then a else b) Q E s:=(if_neg h:(if P then a else b)=b).symm▸x
theorem xo {M:Model} {A:Around} {α:Type} {P:Prop} [Decidable P] {a b:Sem α} {Q:α->Shared->Prop} {E:Value->Shared->Prop} {s:Shared} (h:P) (x:wpAny M A a Q E s):wpAny M A (if P then a else b) Q E s:=(if_pos h:(if P then a else b)=a).symm▸x
section
variable {w:World} {A:Around} {E:Value->Shared->Prop} {s:Shared} {α:Type}
theorem p9 {e:Addr} {o:Obj} {ws:Array Value} {Q:α->Shared->Prop} (hd:HdOk A.handled s.heap) (he:s.heap.get? e=some o) (hf:o.data=.fields ws) (h2:2<ws.size)
  (h:∀h' o',(∀b,b≠e->h'.get? b=s.heap.get? b)->h'.get? e=some o'->o'.cls=o.cls->E (.ref e) { s with heap:=h' }):wpAny (model pw w) A (raiseNew (.ref e):Sem α) Q E s:=by
 have same:=h s.heap o (fun _ _=>rfl) he rfl
 unfold raiseNew
 refine wpAny_bind (wpAny_handled ?_)
 cases q:A.handled with
 | none=>exact wpAny_bind (wpAny_pure (wpAny_throw same))
 | some x=>
  obtain ⟨a,oe,vs,e1,e2,e3,e4⟩:=hd x q
  subst e1
  by_cases z:a=e
  ·subst z
   dsimp only
   rw [if_neg (by simp)]
   first | exact wpAny_throw same | exact wpAny_bind (wpAny_pure (wpAny_throw same))
  ·dsimp only
   rw [if_pos (by simp [z])]
   refine wpAny_bind (wpAny_holding (wpAny_runValue (codeAny_builtin jW ?_)))
   unfold Builtin.«proto.unchain»
   refine wpAny_bind (wpAny_field e2 e3 e4 ?_)
   rw [if_pos (by rfl)]
   refine wpAny_pure (wpAny_bind ?_)
   unfold updateField
   refine wpAny_bind (wpAny_load he ?_)
   rw [hf]
   dsimp only
   rw [if_pos h2]
   have hfr:o.isFreed=false:=Obj.isFreed_of_fields hf
   refine wpAny_update he (wpAny_throw (h _ _ (fun b hb=>Heap.get?_update_other _ _ (Ne.symm hb)) (Heap.get?_update_self _ he (Obj.isFreed_of_fields (Obj.data_mapFields hf _))) (Obj.cls_mapFields ..)))
theorem kl {Q:α->Shared->Prop} (hd:HdOk A.handled s.heap)
  (h:∀h' e,(∀b o,s.heap.get? b=some o->h'.get? b=some o)->(∃o,h'.get? e=some o/\o.cls=.type "StopIteration")->E (.ref e) { s with heap:=h' }) :
  wpAny (model pw w) A (newExc (.type "StopIteration") [] >>= fun e=>(raiseNew e:Sem α)) Q E s:=by
 refine wpAny_bind ?_
 simp only [newExc,newTuple]
 refine wpAny_bind (wpAny_newObj_type ?_ (by size_fits))
 refine wpAny_bind (m:=firstArgMember _ _) (wpAny_of_eq (a:=Value.none) (by first | rfl | (simp only [firstArgMember];rfl)) ?_)
 refine wpAny_newObj_type ?_ (by size_fits)
 have hd':HdOk A.handled ((s.heap.push { cls:=.type "tuple",data:=.seq ([]:List Value).toArray }).push { cls:=.type "StopIteration",data:=.fields (#[.ref s.heap.objs.size,.none,.none,.none,.bool false,.none]++ownMembersOf (.type "StopIteration") []) }):=
  hd.keeps fun a o _ _ _ e=>Heap.get?_push_of_some _ (Heap.get?_push_of_some _ e)
 refine p9 hd' (Heap.get?_push_size _ rfl) rfl (by rw [Array.size_append];exact Nat.lt_of_lt_of_le (show 2<6 by decide) (Nat.le_add_right _ _)) fun h' o' k1 k2 k3=>h h' _ (fun b o e=>?_) ⟨o',k2,k3⟩
 have e':=Heap.get?_push_of_some { cls:=.type "StopIteration",data:=.fields (#[.ref s.heap.objs.size,.none,.none,.none,.bool false,.none]++ownMembersOf (.type "StopIteration") []) } (Heap.get?_push_of_some { cls:=.type "tuple",data:=.seq ([]:List Value).toArray } e)
 rw [k1 b (fun q=>?_)]
 ·exact e'
 ·have:=Heap.lt_size e
  rw [q,Heap.size_push] at this
  exact absurd this (Nat.not_lt.mpr (Nat.le_succ _))
theorem jZ {it l:Addr} {i:Nat} {items:Array Value} {Q:Option Value->Shared->Prop} (hd:HdOk A.handled s.heap) (hne:∀e,A.handled=some e->e≠.ref it) (hit:s.heap.IsListIter it l i) (hl:s.heap.IsList l items) (hx:items[i]? = none)
  (hQ:∀h',Heap.ExtBut it s.heap h'->Q none { s with heap:=h' }):wpAny (model pw w) A (pyNext (.ref it)) Q E s:=by
 obtain ⟨o,ho,hc,hdt⟩:=id hit
 obtain ⟨ol,hol,_,nl,hdl⟩:=hl
 unfold pyNext
 refine wpAny_bind (wpAny_attempt (wpAny_callSpecial?_slot (name:=Str.ofString "__next__") hit.typeIs slot_listiter_next
  (wpAny_call_entry slot_listiter_next hit.typeIs entry_listiter_next ?_ (args_listiter_next _))))
 show wpAny _ _ (field (.ref it) 0 >>= _) _ _ s
 refine wpAny_bind (wpAny_field ho hdt (x:=.ref l) rfl ?_)
 show wpAny _ _ (if (Value.ref l==Value.none)=true then _ else _) _ _ s
 rw [if_neg (show ¬ ((Value.ref l==Value.none)=true) from Bool.false_ne_true)]
 show wpAny _ _ (field (.ref it) 1 >>= _) _ _ s
 refine wpAny_bind (wpAny_field ho hdt (x:=.int i 0) rfl ?_)
 show wpAny _ _ (seqItems? (.ref l) >>= _) _ _ s
 refine wpAny_bind (wpAny_seqItems hol hdl ?_)
 simp only [Int.toNat_natCast,hx]
 refine wpAny_bind (wpAny_rule (wpAny_bind (wpAny_setField ho hdt (cn rfl) ?_)))
 refine kl ?_ fun h' e k he=>?_
 ·intro x hx
  obtain ⟨a,oe,vs,e1,e2,e3,e4⟩:=hd x hx
  have hai:it≠a:=fun z=>hne x hx (by rw [e1,z])
  exact ⟨a,oe,vs,e1,(Heap.get?_update_other _ _ hai).trans e2,e3,e4⟩
 ·obtain ⟨oe,e1,e2⟩:=he
  refine wpAny_bind (wpAny_isInstance (T:="StopIteration") (b:=true) ⟨oe,e1,e2⟩ isSubtype_stop ?_)
  exact wpAny_pure (hQ h' fun b o hb eb=>k b o ((Heap.get?_update_other _ _ (Ne.symm hb)).trans eb))
theorem next_tuple_end {it l:Addr} {i:Nat} {items:Array Value} {Q:Option Value->Shared->Prop} (hd:HdOk A.handled s.heap) (hne:∀e,A.handled=some e->e≠.ref it) (hit:s.heap.IsTupleIter it l i) (hl:s.heap.IsTuple l items) (hx:items[i]? = none)
  (hQ:∀h',Heap.ExtBut it s.heap h'->Q none { s with heap:=h' }):wpAny (model pw w) A (pyNext (.ref it)) Q E s:=by
 obtain ⟨o,ho,hc,hdt⟩:=id hit
 obtain ⟨ol,hol,_,nl,hdl⟩:=hl
 unfold pyNext
 refine wpAny_bind (wpAny_attempt (wpAny_callSpecial?_slot (name:=Str.ofString "__next__") hit.typeIs F.slot_tuple_iterator_next
  (wpAny_call_entry F.slot_tuple_iterator_next hit.typeIs F.entry_tuple_iterator_next ?_ (F.args_tuple_iterator_next_1 _))))
 show wpAny _ _ (field (.ref it) 0 >>= _) _ _ s
 refine wpAny_bind (wpAny_field ho hdt (x:=.ref l) rfl ?_)
 show wpAny _ _ (if (Value.ref l==Value.none)=true then _ else _) _ _ s
 rw [if_neg (show ¬ ((Value.ref l==Value.none)=true) from Bool.false_ne_true)]
 show wpAny _ _ (field (.ref it) 1 >>= _) _ _ s
 refine wpAny_bind (wpAny_field ho hdt (x:=.int i 0) rfl ?_)
 show wpAny _ _ (seqItems? (.ref l) >>= _) _ _ s
 refine wpAny_bind (wpAny_seqItems hol hdl ?_)
 simp only [Int.toNat_natCast,hx]
 refine wpAny_bind (wpAny_rule (wpAny_bind (wpAny_setField ho hdt (cn rfl) ?_)))
 refine kl ?_ fun h' e k he=>?_
 ·intro x hx
  obtain ⟨a,oe,vs,e1,e2,e3,e4⟩:=hd x hx
  have hai:it≠a:=fun z=>hne x hx (by rw [e1,z])
  exact ⟨a,oe,vs,e1,(Heap.get?_update_other _ _ hai).trans e2,e3,e4⟩
 ·obtain ⟨oe,e1,e2⟩:=he
  refine wpAny_bind (wpAny_isInstance (T:="StopIteration") (b:=true) ⟨oe,e1,e2⟩ isSubtype_stop ?_)
  exact wpAny_pure (hQ h' fun b o hb eb=>k b o ((Heap.get?_update_other _ _ (Ne.symm hb)).trans eb))
theorem i6 {t:Addr} {items:Array Value} {Q:List Value->Shared->Prop} (hd:HdOk A.handled s.heap) (ht:s.heap.IsTuple t items)
  (hQ:∀h',(∀b o,s.heap.get? b=some o->h'.get? b=some o)->Q items.toList { s with heap:=h' }):wpAny (model pw w) A (unpackItems (.ref t) items.size none) Q E s:=by
 have hlt:t≠s.heap.objs.size:=by obtain ⟨o,ho,_⟩:=ht;exact Nat.ne_of_lt (Heap.lt_size ho)
 unfold unpackItems
 refine wpAny_bind ?_
 unfold notIterableAtAll
 refine wpAny_bind (wpAny_specialOf ht.typeIs F.slot_tuple_iter.lookup ?_)
 refine wpAny_pure ?_
 simp only [Bool.false_eq_true,if_false]
 refine wpAny_bind (wpAny_holding (wpAny_pyIter_tuple ht ?_))
 refine wpAny_bind (wpAny_holding (wpAny_draw_tuple hlt items.size 0 _ _ ⟨_,Heap.get?_push_size _ rfl,rfl,rfl⟩ (ht.push _) (by lia) fun h₁ hitQ hs₁=>?_))
 have hall:List.take items.size (List.drop 0 items.toList)=items.toList:=by
  rw [List.drop_zero];exact List.take_of_length_le (by simp)
 rw [hall,if_neg (by simp)]
 have htQ:h₁.IsTuple t items:=(ht.push _).extBut hs₁.extBut hlt
 have up:∀b o,b≠s.heap.objs.size->s.heap.get? b=some o->h₁.get? b=some o:=fun b o hb e=>hs₁.extBut b o hb (Heap.get?_push_of_some _ e)
 refine wpAny_bind (wpAny_holding (next_tuple_end ?_ (fun e he=>?_) hitQ htQ (by simp) fun h₂ heZ=>?_))
 ·exact hd.keeps fun a o _ _ _ e=>up a o (Nat.ne_of_lt (Heap.lt_size e)) e
 ·obtain ⟨a,oe,vs,e1,e2,e3,e4⟩:=hd e he
  rw [e1]
  exact fun q=>by cases q;exact absurd (Heap.lt_size e2) (Nat.lt_irrefl _)
 ·simp only [Option.isSome_none,Bool.false_eq_true,if_false]
  exact wpAny_pure (hQ h₂ fun b o e=>heZ b o (Nat.ne_of_lt (Heap.lt_size e)) (up b o (Nat.ne_of_lt (Heap.lt_size e)) e))
theorem nZ {env:Env} {elts:List Expr} {x1:Nat} {pos:Pos} {t:Addr} {items:Array Value} {Q:Unit->Shared->Prop} (hd:HdOk A.handled s.heap) (ht:s.heap.IsTuple t items)
  (hn:(assignEach elts env).length=items.size) (hstar:(assignEach elts env).findIdx? (·.1)=none)
  (h:∀h',(∀b o,s.heap.get? b=some o->h'.get? b=some o)->wpAny (model pw w) A (assignInOrder ((assignEach elts env).map (·.2)) items.toList) Q E { s with heap:=h' }) :
  wpAny (model pw w) A (assign (.Tuple elts x1 pos) env (.ref t)) Q E s:=by
 rw [arm_assign_Tuple]
 refine wpAny_bind (wpAny_standAt ?_)
 unfold unpack
 rw [hn,hstar]
 exact wpAny_bind (wpAny_holding (i6 hd ht h))
end
section
variable {c:Cx} {ρ ρ' ρ₀:Pl} {γ γE:Lo} {st stJ:ai} {h h' h₀:Heap} {tk:Nat} {own rest:List Addr} {hs:List Addr} {D:Addr}
noncomputable def Pl.out (ρ:Pl) (H:List Addr):Pl:=⟨ρ.vis,H⟩
theorem Ok.poke (ok:Ok c ρ γ st h) {ws H:List Addr} (hH:∀b∈H,b∈ρ.hid) (hw:∀z∈ws,z∉ρ.vis/\(MH c.w).get? z=none/\(∀x,c.A.handled=some x->x≠.ref z)/\(z∈ρ.hid\/∃o vs,h.get? z=some o/\o.data=.fields vs))
  (hk:∀b o,b∉ws->h.get? b=some o->h'.get? b=some o) (hh:∀z∈ws,z∈H->∃o,h'.get? z=some o/\be o):Ok c (ρ.out H) γ st h':=by
 have ndull:∀b∈ws,∀o,h.get? b=some o->¬ Dull o:=fun b m o e d=>by
  rcases (hw b m).2.2.2 with q | ⟨o',vs,e',q⟩
  ·obtain ⟨_,_,o',e',q⟩:=ok.sto.hid b q
   rw [e] at e';cases e';exact d.2 q
  ·rw [e] at e';cases e';exact d.1 _ q
 have fr:∀b,(b∈c.own\/b∈c.rest)->∀o,h.get? b=some o->h'.get? b=some o:=fun b hb o e=>hk b o (fun m=>by
  obtain ⟨_,o',e',d⟩:=ok.frame_at hb
  rw [e] at e';cases e';exact ndull b m o e d) e
 have ks:∀a o,Off ρ a->h.get? a=some o->be o->Off (ρ.out H) a/\h'.get? a=some o:=fun a o f e q=>⟨⟨f.1,fun m=>f.2 (hH a m)⟩,hk a o (fun m=>by
  rcases (hw a m).2.2.2 with z | ⟨o',vs,e',z⟩
  ·exact f.2 z
  ·rw [e] at e';cases e';obtain ⟨_,_,y⟩:=q;rw [y] at z;exact nomatch z) e⟩
 have kp:∀(i:Nat) (a:Addr),ρ.vis[i]? = some a->(ρ.out H).vis[i]? = some a:=fun i a e=>e
 have rp:∀{r:RV} {v:Value},Rep ρ h r v->Rep (ρ.out H) h' r v:=fun y=>y.mono kp ks
 obtain ⟨m,hn,hl⟩:=ok.loc
 refine ⟨ok.keys,⟨m,?_,hl.mono rp fun x a e v z=>IsCell.at z fun o e'=>fr _ (c.cells_in _ _ e) o e'⟩,fun x a e=>let ⟨cv,z⟩:=ok.cel x a e;⟨cv,IsCell.at z fun o e'=>fr _ (c.cells_in _ _ e) o e'⟩,
  ⟨ok.sto.len,ok.sto.nd,ok.sto.off,fun i a o e1 e2=>(ok.sto.reps i a o e1 e2).mono kp ks fun o e=>hk a o (fun q=>(hw a q).1 (List.mem_of_getElem? e1)) e,fun b m=>?_⟩,fun b o e=>?_,ok.ff.mono fun b hb o e d=>⟨o,fr b (c.cover b hb) o e,d⟩,fun b hb=>?_,fun x hx=>?_⟩
 ·obtain ⟨oL,es,ep,e,r⟩:=hn
  exact ⟨oL,es,ep,fr _ (.inl c.L_own) _ e,r⟩
 ·obtain ⟨a1,a2,o,a3,a4⟩:=ok.sto.hid b (hH b m)
  by_cases q:b∈ws
  ·obtain ⟨o',z1,z2⟩:=hh b q m
   exact ⟨a1,a2,o',z1,z2⟩
  ·exact ⟨a1,a2,o,hk b o q a3,a4⟩
 ·exact hk b o (fun m=>by have:=(hw b m).2.1;rw [e] at this;exact qp this) (ok.mod b o e)
 ·obtain ⟨a1,o,e,d⟩:=ok.own b hb
  exact ⟨a1,o,fr b (.inl hb) o e,d⟩
 ·obtain ⟨a,oe,vs,e1,e2,e3,e4⟩:=ok.hnd x hx
  exact ⟨a,oe,vs,e1,e2,hk a oe (fun m=>(hw a m).2.2.1 x hx e1) e3,e4⟩
theorem Ok.unhide (ok:Ok c ρ γ st h) {H:List Addr} (hH:ρ.hid=hs++H):Ok c (ρ.out H) γ st h:=by
 have sub:∀b,b∈H->b∈ρ.hid:=fun b m=>by rw [hH];exact List.mem_append_right _ m
 have kz:∀a o,Off ρ a->h.get? a=some o->be o->Off (ρ.out H) a/\h.get? a=some o:=fun a o f e q=>⟨⟨f.1,fun m=>f.2 (sub a m)⟩,e⟩
 have kp:∀(i:Nat) (a:Addr),ρ.vis[i]? = some a->(ρ.out H).vis[i]? = some a:=fun i a e=>e
 obtain ⟨m,hn,hl⟩:=ok.loc
 exact ⟨ok.keys,⟨m,hn,hl.mono (fun y=>y.mono kp kz) fun _ _ _ _ z=>z⟩,ok.cel,
  ⟨ok.sto.len,ok.sto.nd,ok.sto.off,fun i a o e1 e2=>(ok.sto.reps i a o e1 e2).mono kp kz fun o e=>e,fun b m=>ok.sto.hid b (sub b m)⟩,ok.mod,ok.ff,ok.own,ok.hnd⟩
theorem Rep.unhide {H:List Addr} {r:RV} {v:Value} (hH:ρ.hid=hs++H) (y:Rep ρ h r v):Rep (ρ.out H) h r v:=by
 have kp:∀(i:Nat) (a:Addr),ρ.vis[i]? = some a->(ρ.out H).vis[i]? = some a:=fun i a e=>e
 have kz:∀a o,Off ρ a->h.get? a=some o->be o->Off (ρ.out H) a/\h.get? a=some o:=fun a o f e q=>⟨⟨f.1,fun m=>f.2 (by rw [hH];exact List.mem_append_right _ m)⟩,e⟩
 exact y.mono kp kz
theorem Ok.hide (ok:Ok c ρ γ st h) (hD:h.get? D=none) (hk:∀b o,h.get? b=some o->h'.get? b=some o) (hn:∃o,h'.get? D=some o/\be o):Ok c ⟨ρ.vis,D::ρ.hid⟩ γ st h':=by
 obtain ⟨ok',sp⟩:=ok.grow hk
 have old:∀a o,h.get? a=some o->a≠D:=fun a o e q=>by rw [q,hD] at e;exact cH e
 have kz:∀a o,Off ρ a->h.get? a=some o->be o->Off ⟨ρ.vis,D::ρ.hid⟩ a/\h'.get? a=some o:=fun a o f e q=>⟨⟨f.1,fun m=>(List.mem_cons.mp m).elim (old a o e) f.2⟩,hk a o e⟩
 have kp:∀(i:Nat) (a:Addr),ρ.vis[i]? = some a->(Pl.mk ρ.vis (D::ρ.hid)).vis[i]? = some a:=fun i a e=>e
 obtain ⟨m,hns,hl⟩:=ok.loc
 refine ⟨ok.keys,⟨m,?_,hl.mono (fun y=>y.mono kp kz) fun x a e v z=>IsCell.at z fun o e=>hk _ _ e⟩,ok'.cel,
  ⟨ok.sto.len,ok.sto.nd,ok.sto.off,fun i a o e1 e2=>(ok.sto.reps i a o e1 e2).mono kp kz fun o e=>hk a o e,fun b m=>?_⟩,ok'.mod,ok'.ff,ok'.own,ok'.hnd⟩
 ·obtain ⟨o,es,ep,e,r⟩:=hns
  exact ⟨o,es,ep,hk _ _ e,r⟩
 ·rcases List.mem_cons.mp m with rfl | m
  ·exact ⟨ok.free_off hD,ok.mh_free hD,hn⟩
  ·exact ok'.sto.hid b m
theorem Step.inner (x:Step own rest ρ₀ h₀ (ρ.out ρ₀.hid) h) (y:Step own rest ρ h ρ' h') (hH:ρ.hid=hs++ρ₀.hid) (hn:∀b∈hs,h₀.get? b=none):Step own rest ρ₀ h₀ (ρ'.out ρ₀.hid) h'/\ρ'.hid=hs++ρ₀.hid:=by
 have up:∀b o,h₀.get? b=some o->Off (ρ.out ρ₀.hid) b->Off ρ b:=fun b o e f=>⟨f.1,fun m=>by
  rw [hH] at m
  rcases List.mem_append.mp m with m | m
  ·rw [hn b m] at e;exact cH e
  ·exact f.2 m⟩
 refine ⟨⟨⟨fun i a e=>y.pre.1 i a (x.pre.1 i a e),rfl⟩,fun b o s n m e=>?_,fun b o s n e=>?_,fun b m o e=>?_,fun b o e=>?_⟩,y.pre.2.trans hH⟩
 ·obtain ⟨z1,z2⟩:=x.keep b o s n m e
  exact y.keep b o z2 n m z1
 ·obtain ⟨z1,z2⟩:=x.seqs b o s n e
  obtain ⟨w1,w2⟩:=y.seqs b o (up b o e z2) n z1
  exact ⟨w1,w2.1,fun q=>w2.2 (by rw [y.pre.2,hH];exact List.mem_append_right _ q)⟩
 ·obtain ⟨_,z1⟩:=x.outs b m o e
  obtain ⟨sl,z2⟩:=y.outs b m _ z1
  exact ⟨sl,z2⟩
 ·obtain ⟨o1,z1⟩:=x.alive b o e
  exact y.alive b o1 z1
theorem Step.poke {ws:List Addr} (x:Step own rest ρ₀ h₀ ρ h) (hn:∀b∈ws,h₀.get? b=none) (hk:∀b o,b∉ws->h.get? b=some o->h'.get? b=some o):Step own rest ρ₀ h₀ ρ h':=by
 have old:∀b o,h₀.get? b=some o->b∉ws:=fun b o e m=>by rw [hn b m] at e;exact cH e
 exact ⟨x.pre,fun b o s n m e=>let ⟨z1,z2⟩:=x.keep b o s n m e;⟨hk b o (old b o e) z1,z2⟩,fun b o s n e=>let ⟨z1,z2⟩:=x.seqs b o s n e;⟨hk b o (old b o e) z1,z2⟩,
  fun b m o e=>let ⟨sl,z⟩:=x.outs b m o e;⟨sl,hk b _ (old b o e) z⟩,fun b o e=>let ⟨o1,z⟩:=x.alive b o e;⟨o1,hk b _ (old b o e) z⟩⟩
theorem ej {x:Value} {env env':Env} (e:env.frame=env'.frame):noteFrame x env=noteFrame x env':=by
 unfold noteFrame PySem.frameOf
 rw [e]
theorem k8 {X:Str->Lo->ai->Prop} {e:Addr} {k:Str} {fl:Value} {ρQ:Pl} {γQ:Lo} {st₁:ai} {h₁:Heap} {t₁:Nat} {A:Around} {env:Env} (hA:A.frames=c.A.frames) (henv:env.frame=c.fenv.frame) (ok:Ok c ρ γ st h) (sp:c.Step ρ h ρQ h₁) (ok₁:Ok c ρQ γQ st₁ h₁)
  (hfl:fl=.none\/fl=rawInt c.fenv.locals) (ex:Exc ρQ h h₁ e k fl) (hx:X k γQ st₁) :
  notedBy (model pw c.w) A env (cameBackBy (model pw c.w) A env (EW c ρ h X)) (.ref e) ⟨h₁,c.g,c.d,t₁,c.os⟩:=by
 unfold notedBy
 rw [ej henv]
 refine noted_here (hA.trans c.afr) rfl ok sp ok₁ hfl ex fun h₂ T d t₂=>?_
 unfold cameBackBy
 have tr:Tr h₂ e T (.ref 41) (some d) (rawInt c.fenv.locals):=t₂.3
 obtain ⟨oe,vs,oT,ts,g1,g2,g3,g4,g5,g6,g7,g8,g9,g10⟩:=tr
 refine wpAny_bind (wpAny_field g1 g4 g5 ?_)
 rw [if_neg (show ¬ (Value.ref T==Value.none)=true from Bool.false_ne_true),henv,c.fframe]
 refine t₂.flight (fr:=some c.fenv.locals) ok fun h₃ t₃=>?_
 obtain ⟨ok₃,sp₃,t₃,code₃,n1,n2,n3,r1,r2,r3⟩:=t₃
 exact ⟨h₃,t₁,ρQ,γQ,st₁,e,k,rawInt c.fenv.locals,sp₃,ok₃,.inr rfl,⟨T,d,.inl t₃,code₃,n1,n2,n3,r1,r2,r3⟩,hx⟩
end
structure Wk (w:World) (A:Around) (I:Addr) (fp wr hs:List Addr) (n:Nat) (target:Expr) (P:Nat->Heap->Heap->Value->Prop) (St:Nat->Heap->Prop):Prop where
 sub:∀b∈wr,b∈fp
 frame:∀i h h',St i h->(∀b∈fp,∀o,h.get? b=some o->h'.get? b=some o)->St i h'
 item:∀i (s:Shared) (Q:Value->Shared->Prop) (E:Value->Shared->Prop),i<n->St i s.heap->
  (∀v h' tk,P i s.heap h' v->St (i+1) h'->(∀b o,b∉wr->s.heap.get? b=some o->h'.get? b=some o)->Q v { s with heap:=h',toks:=tk })->
  wpAny (model pw w) A (pyNext (.ref I)) (fun r s₁=>∃v,r=some v/\wpAny (model pw w) A (letOwnedTupleGo target (.ref I) v) (fun _ s₂=>Q v s₂) E s₁) E s
 done:∀(s:Shared) (Q:Option Value->Shared->Prop) (E:Value->Shared->Prop),St n s.heap->(∀h' tk,(∀b o,b∉wr->s.heap.get? b=some o->h'.get? b=some o)->Q none { s with heap:=h',toks:=tk })->wpAny (model pw w) A (pyNext (.ref I)) Q E s
 self:∀i (s:Shared) (Q:Value->Shared->Prop) (E:Value->Shared->Prop),St i s.heap->Q (.ref I) s->wpAny (model pw w) A (pyIter (.ref I)) Q E s
 kind:∀i h,St i h->∀z∈wr,(z∈hs/\∃o,h.get? z=some o/\be o)\/z∉hs/\∃o vs,h.get? z=some o/\o.data=.fields vs
theorem kG {M:Model} {A:Around} {E:Value->Shared->Prop} {s:Shared} {k:Nat} {p:Pos} {it:Addr} {o:Obj} {n:String} {v:Value} {Q:Unit->Shared->Prop} (ho:s.heap.get? it=some o) (hc:o.cls=.type n)
  (hn:["enumerate","zip","dict_itemiterator","dict_reverseitemiterator","odict_iterator","itertools.zip_longest","itertools.pairwise"].contains n=false) (h:Q () s):wpAny M A (letOwnedTupleGo (.Tuple [] k p) (.ref it) v) Q E s:=by
 cases v with
 | ref a=>
  refine wpAny_bind (wpAny_load ho ?_)
  obtain ⟨oc,od,odt,sl⟩:=o
  cases odt with
  | fields vs=>
   cases hc
   show wpAny M A (if (_&&_)=true then _ else _) Q E s
   rw [hn,Bool.false_and,if_neg Bool.false_ne_true]
   exact wpAny_pure h
  | _=>rw [hc];exact wpAny_pure h
 | _=>exact wpAny_pure h
theorem ic {M:Model} {A:Around} {E:Value->Shared->Prop} {s:Shared} {target:Expr} {it:Addr} {o:Obj} {n:String} {v:Value} {Q:Unit->Shared->Prop} (ho:s.heap.get? it=some o) (hc:o.cls=.type n)
  (hn:["enumerate","zip","dict_itemiterator","dict_reverseitemiterator","odict_iterator","itertools.zip_longest","itertools.pairwise"].contains n=false) (h:Q () s):wpAny M A (letOwnedTupleGo target (.ref it) v) Q E s:=by
 cases target with
 | Tuple a b c=>exact kG (k:=0) (p:=c) ho hc hn h
 | List a b=>exact kG (k:=0) (p:=b) ho hc hn h
 | _=>exact wpAny_pure h
section
variable {w:World} {A:Around} {target:Expr}
noncomputable def xT (A:Around):List Addr:=match A.handled with
 | some (.ref a)=>[a]
 | _=>[]
theorem qH {h h':Heap} (x:HdOk A.handled h) (k:∀b∈xT A,∀o,h.get? b=some o->h'.get? b=some o):HdOk A.handled h':=fun e he=>by
 obtain ⟨a,oe,vs,e1,e2,e3,e4⟩:=x e he
 exact ⟨a,oe,vs,e1,k a (by unfold xT;rw [he,e1];exact .head _) oe e2,e3,e4⟩
theorem Wk.list (I ax:Addr) (hne:ax≠I) (hI:∀e,A.handled=some e->e≠.ref I) (items:Array Value) :
  Wk w A I (I::ax::xT A) [I] [] items.size target (fun i _ _ v=>items[i]? = some v) (fun i h=>h.IsListIter I ax i/\h.IsList ax items/\HdOk A.handled h) where
 sub:=fun b hb=>by rw [List.mem_singleton.mp hb];exact .head _
 frame:=fun _ _ _ st hk=>⟨st.1.at fun o e=>hk I (.head _) o e,st.2.1.at fun o e=>hk ax (.tail _ (.head _)) o e,qH st.2.2 fun b hb=>hk b (.tail _ (.tail _ hb))⟩
 item:=fun i s Q E hi st hQ=>by
  refine wpAny_pyNext_list_item st.1 st.2.1 (x:=items[i]) (by simp [hi]) fun h' hit' hs'=>⟨_,rfl,?_⟩
  obtain ⟨o,ho,hc,_⟩:=id hit'
  refine ic ho hc (by decide) (hQ _ h' s.toks (by simp [hi]) ⟨hit',st.2.1.extBut hs'.extBut hne,st.2.2.keeps fun a o vs d z e=>hs'.extBut a o (fun q=>?_) e⟩ fun b o hb e=>hs'.extBut b o (fun h=>hb (by simp [h])) e)
  subst q
  obtain ⟨o1,e1,_,d1⟩:=st.1
  rw [e] at e1
  cases e1
  rw [d] at d1
  cases d1
  simp at z
 done:=fun s Q E st hQ=>jZ st.2.2 hI st.1 st.2.1 (by simp) fun h' he'=>hQ h' s.toks fun b o hb e=>he' b o (fun h=>hb (by simp [h])) e
 self:=fun _ _ _ _ st hQ=>wpAny_pyIter_listiter st.1 hQ
 kind:=fun i h st z hz=>by
  rw [List.mem_singleton.mp hz]
  obtain ⟨o,ho,_,hd⟩:=st.1
  exact .inr ⟨by simp,o,_,ho,hd⟩
theorem Wk.of {I:Addr} {fp:List Addr} {n:Nat} {P:Nat->Value->Prop} {St:Nat->Heap->Prop} (W:Walks pw w A I fp [I] n P St) (T:String)
  (hT:["enumerate","zip","dict_itemiterator","dict_reverseitemiterator","odict_iterator","itertools.zip_longest","itertools.pairwise"].contains T=false)
  (hI:∀i h,St i h->∃o vs,h.get? I=some o/\o.cls=.type T/\o.data=.fields vs):Wk w A I fp [I] [] n target (fun i _ _ v=>P i v) St where
 sub:=W.sub
 frame:=W.frame
 item:=fun i s Q E hi st hQ=>W.item i s _ E hi st fun v h' tk hP hst hk=>by
  obtain ⟨o,vs,ho,hc,_⟩:=hI _ _ hst
  exact ⟨v,rfl,ic ho hc hT (hQ v h' tk hP hst hk)⟩
 done:=W.done
 self:=W.self
 kind:=fun i h st z hz=>by
  rw [List.mem_singleton.mp hz]
  obtain ⟨o,vs,ho,_,hd⟩:=hI _ _ st
  exact .inr ⟨by simp,o,vs,ho,hd⟩
theorem Wk.tuple (hh:A.handled=none) (I ax:Addr) (hne:ax≠I) (items:Array Value):Wk w A I [I,ax] [I] [] items.size target (fun i _ _ v=>items[i]? = some v) (fun i h=>h.IsTupleIter I ax i/\h.IsTuple ax items):=
 .of (Walks.tuple hh I ax hne items) "tuple_iterator" (by decide) fun i h st=>let ⟨o,e1,e2,e3⟩:=st.1;⟨o,_,e1,e2,e3⟩
theorem Wk.range (hh:A.handled=none) (I:Addr) (a c:Int) (n:Nat):Wk w A I [I] [I] [] n target (fun i _ _ v=>∃t,v=.int (a+i*c) t) (fun i h=>IsRangeIter h I (a+(i:Nat)*c) ((n:Int)-(i:Nat)) c):=
 .of (Walks.range hh I a c n) "range_iterator" (by decide) fun i h st=>⟨_,_,st,rfl,rfl⟩
theorem Wk.rev (hh:A.handled=none) (I l:Addr) (hne:l≠I) (items:Array Value):Wk w A I [I,l] [I] [] items.size target (fun i _ _ v=>items[items.size-1-i]? = some v)
  (fun i h=>i<=items.size/\h.IsRevIter I l ((items.size:Int)-1-(i:Int))/\h.IsList l items):=
 .of (Walks.listRev hh I l hne items) "list_reverseiterator" (by decide) fun i h st=>let ⟨o,e1,e2,e3⟩:=st.2.1;⟨o,_,e1,e2,e3⟩
theorem Wk.zip (hh:A.handled=none) (z TI TO i1 i2 l1 l2:Addr) (D:ZipApart z TI TO i1 i2 l1 l2) (xs ys:Array Value) {elts:List Expr} {k:Nat} {pos:Pos} :
  Wk w A z [z,TI,TO,i1,i2,l1,l2] [z,TO,i1,i2] [TO] (min xs.size ys.size) (.Tuple elts k pos)
   (fun i h h' v=>∃T x y,v=.ref T/\xs[i]? = some x/\ys[i]? = some y/\h.get? T=none/\h'.IsTuple T #[x,y])
   (fun i h=>IsZip h z TI TO .none/\IsPair h TI (.ref i1) (.ref i2)/\(∃a b,IsPair h TO a b)/\h.IsListIter i1 l1 i/\h.IsListIter i2 l2 i/\h.IsList l1 xs/\h.IsList l2 ys) where
 sub:=(WalksT.zip2 (prog:=pw) (w:=w) hh z TI TO i1 i2 l1 l2 D xs ys).sub
 frame:=(WalksT.zip2 (prog:=pw) (w:=w) hh z TI TO i1 i2 l1 l2 D xs ys).frame
 item:=fun i s Q E hi st hQ=>(WalksT.zip2 (prog:=pw) (w:=w) hh z TI TO i1 i2 l1 l2 D xs ys).item i s _ E hi st fun T vals h' tk hP hT htup hmid hk=>by
  obtain ⟨x,y,hx,hy,rfl⟩:=hP
  have hTwr:=(WalksT.zip2 (prog:=pw) (w:=w) hh z TI TO i1 i2 l1 l2 D xs ys).apart i T h' hmid
  refine ⟨_,rfl,(WalksT.zip2 (prog:=pw) (w:=w) hh z TI TO i1 i2 l1 l2 D xs ys).go elts k pos i T { s with heap:=h',toks:=tk } _ E hmid fun h'' st'' hk''=>?_⟩
  refine hQ _ h'' tk ⟨T,x,y,rfl,hx,hy,Heap.get?_none_of_le hT,?_⟩ st'' fun b o hb e=>hk'' b o hb (hk b o hb e)
  obtain ⟨o,e,r⟩:=htup
  exact ⟨o,hk'' T o hTwr e,r⟩
 done:=(WalksT.zip2 (prog:=pw) (w:=w) hh z TI TO i1 i2 l1 l2 D xs ys).done
 self:=(WalksT.zip2 (prog:=pw) (w:=w) hh z TI TO i1 i2 l1 l2 D xs ys).self
 kind:=fun i h st b hb=>by
  obtain ⟨hz,hTI,⟨a,b',hTO⟩,h1,h2,_⟩:=st
  simp only [List.mem_cons,List.not_mem_nil,or_false] at hb
  rcases hb with rfl | rfl | rfl | rfl
  ·exact .inr ⟨by simpa using D.TOz.symm,_,_,hz,rfl⟩
  ·exact .inl ⟨.head _,_,hTO,_,_,rfl⟩
  ·obtain ⟨o,e,_,d⟩:=h1;exact .inr ⟨by simpa using D.TOi1.symm,o,_,e,d⟩
  ·obtain ⟨o,e,_,d⟩:=h2;exact .inr ⟨by simpa using D.TOi2.symm,o,_,e,d⟩
end
theorem uz {α:Type} {a:α} {l:List α} {P:Prop} (h:(a::l).length=0):P:=sS h
theorem xv {α:Type} {n:Nat} {P:Prop} (h:([]:List α).length=n+1):P:=hO h
noncomputable def er {α:Type} (b:Bool) (a:α):Option α:=match b with
 | true=>some a
 | false=>none
theorem bz {α:Type} {b:Bool} {a x:α} (h:er b a=some x):b=true/\a=x:=by
 cases b with
 | true=>exact ⟨rfl,Option.some.inj h⟩
 | false=>exact aP h
inductive Tg where
 | one (i:Nat)
 | many (is:List Nat)
noncomputable def fC:List Nat->List RV->Lo->Lo
 | i::is,r::l,γ=>fC is l (γ.set i (some r))
 | _,_,γ=>γ
noncomputable def Tg.put (T:Tg) (r:RV) (γ:Lo):Option Lo:=match T with
 | .one i=>some (γ.set i (some r))
 | .many is=>r.asTup.bind fun l=>er (decide (l.length=is.length)) (fC is l γ)
noncomputable def Tg.idx:Tg->List Nat
 | .one i=>[i]
 | .many is=>is
noncomputable def pS (names:List Str) (i:Nat) (e:Expr):Bool:=az (nameOf e) fun x=>decide (names[i]? = some x.1)
theorem mX {names:List Str} {i:Nat} {e:Expr} (h:pS names i e=true):∃x p,e=.Name x p/\names[i]? = some x:=by
 obtain ⟨x,e1,e2⟩:=aj h
 exact ⟨_,_,cU e1,of_decide_eq_true e2⟩
noncomputable def fh (names:List Str) (is:List Nat):List Expr->Bool:=is.rec List.isEmpty fun i _ f es=>es.rec false fun e es _=>pS names i e&&f es
noncomputable def sr (e:Expr):Option (List Expr×Nat×Pos):=match e with
 | .Tuple es k p=>some (es,k,p)
 | _=>none
theorem t8 {e:Expr} {x:List Expr×Nat×Pos} (h:sr e=some x):e=.Tuple x.1 x.2.1 x.2.2:=by
 cases e with
 | Tuple es k p=>rw [<-Option.some.inj h]
 | _=>exact aP h
noncomputable def Tg.isT (names:List Str) (T:Tg) (e:Expr):Bool:=match T with
 | .one i=>pS names i e
 | .many is=>az (sr e) fun x=>fh names is x.1
inductive Sts (c:Cx):List Nat->List (Value->Sem Unit)->Prop
 | nil:Sts c [] []
 | cons {i:Nat} {x:Str} {f:Value->Sem Unit} {is:List Nat} {fs:List (Value->Sem Unit)} (hx:c.names[i]? = some x) (hf:∀(v:Value) (Q:Unit->Shared->Prop) (E:Value->Shared->Prop) (s:Shared),wpAny c.M c.A (storeName c.env x v) Q E s->wpAny c.M c.A (f v) Q E s) (t:Sts c is fs):Sts c (i::is) (f::fs)
section
variable {c:Cx} {ρ ρ₀:Pl} {γ γ':Lo} {st:ai} {h h₀:Heap} {tk:Nat} {X:Str->Lo->ai->Prop}
inductive wD (c:Cx) (is:List Nat) (es:List Expr):Prop
 | mk (a:Sts c is ((assignEach es c.env).map (·.2))) (b:(assignEach es c.env).length=is.length) (d:(assignEach es c.env).findIdx? (·.1)=none)
theorem vN {is:List Nat} {es:List Expr} (h:fh c.names is es=true):wD c is es:=by
 induction is generalizing es with
 | nil=>cases es with
  | nil=>exact ⟨.nil,rfl,rfl⟩
  | cons e es=>exact aN h
 | cons i is ih=>cases es with
  | nil=>exact aN h
  | cons e es=>
   have h:(pS c.names i e&&fh c.names is es)=true:=h
   rw [Bool.and_eq_true] at h
   obtain ⟨x,p,e1,e2⟩:=mX h.1
   obtain ⟨a,b,d⟩:=ih h.2
   rw [e1]
   exact ⟨.cons e2 (fun v Q E s q=>wpAny_assign_Name q) a,congrArg Nat.succ b,(by show List.findIdx? (·.1) ((false,_)::assignEach es c.env)=none;rw [List.findIdx?_cons,d];rfl)⟩
theorem Sts.rev {is is':List Nat} {fs fs':List (Value->Sem Unit)} (x:Sts c is fs) (y:Sts c is' fs'):Sts c (is.reverse++is') (fs.reverse++fs'):=by
 induction x generalizing is' fs' with
 | nil=>exact y
 | cons hx hf t ih=>rw [List.reverse_cons,List.reverse_cons,List.append_assoc,List.append_assoc];exact ih (.cons hx hf y)
theorem Sts.names {is:List Nat} {ns:List Str} (hn:is.map (fun i=>c.names[i]?)=ns.map some):Sts c is (ns.map fun n=>bindName c.env n):=by
 induction is generalizing ns with
 | nil=>cases ns with
  | nil=>exact .nil
  | cons n ns=>exact qm hn
 | cons i is ih=>cases ns with
  | nil=>exact nomatch hn
  | cons n ns=>
   have hn:c.names[i]? :: is.map (fun i=>c.names[i]?)=some n::ns.map some:=hn
   injection hn with h1 h2
   exact .cons h1 (fun v Q E s q=>wpAny_bindName q) (ih h2)
noncomputable abbrev PQ (ρ:Pl) (γ:Lo) (st:ai):Unit->Pl->Lo->ai->Heap->Prop:=fun _ ρQ γQ st₁ _=>ρQ=ρ/\γQ=γ/\st₁=st
theorem W.put {t:Sem Unit} {Qr:Unit->Shared->Prop} (x:W c ρ h tk t (PQ ρ γ' st) X) (sp:c.Step ρ₀ h₀ ρ h)
  (k:∀h₁ tkQ,Ok c ρ γ' st h₁->c.Step ρ₀ h₀ ρ h₁->c.Step ρ h ρ h₁->Qr () ⟨h₁,c.g,c.d,tkQ,c.os⟩):wpAny c.M c.A t Qr (EW c ρ₀ h₀ X) ⟨h,c.g,c.d,tk,c.os⟩:=
 x.raw sp fun v ρQ γQ st₁ h₁ tkQ ok₁ sp₁ sp₂ q=>by
  obtain ⟨e1,e2,e3⟩:=q
  subst e1 e2 e3
  exact k _ _ ok₁ sp₁ sp₂
theorem kD {is:List Nat} {fs:List (Value->Sem Unit)} (x:Sts c is fs) (hF:∀i∈is,∀x,c.names[i]? = some x->c.env.kindOf x=some .local\/c.Full) {l:List RV} {vs:List Value} (ok:Ok c ρ γ st h) (yl:RepL ρ h l vs) (hl:l.length=is.length) :
  W c ρ h tk (assignInOrder fs vs) (PQ ρ (fC is l γ) st) X:=by
 induction x generalizing l vs γ h tk with
 | nil=>cases l with
  | cons r l=>exact uz hl
  | nil=>exact yl.elim (R:=fun vs=>W c ρ h tk (assignInOrder [] vs) (PQ ρ γ st) X) (wpAny_pure (W.ends .refl ok ⟨rfl,rfl,rfl⟩))
 | @cons i x f is fs hx hf t ih=>cases l with
  | nil=>exact xv (n:=is.length) hl
  | cons r l=>
   refine yl.elim (R:=fun vs=>W c ρ h tk (assignInOrder (f::fs) vs) (PQ ρ (fC (i::is) (r::l) γ) st) X) fun v vs y yl=>?_
   exact assignInOrder_cons (hf v _ _ _ ((W.store ok hx (hF i (.head _) x hx) y).put .refl fun h₁ tkQ ok₁ sp₁ _=>(ih (fun j hj=>hF j (.tail _ hj)) ok₁ (sp₁.repL yl) (Nat.succ.inj hl)).from sp₁))
theorem gM {T:Tg} {target:Expr} {r:RV} {v:Value} (hF:∀i∈T.idx,∀x,c.names[i]? = some x->c.env.kindOf x=some .local\/c.Full) (hT:T.isT c.names target=true) (ok:Ok c ρ γ st h) (y:Rep ρ h r v) (hp:T.put r γ=some γ') :
  W c ρ h tk (assign target c.env v) (PQ ρ γ' st) X:=by
 cases T with
 | one i=>
  obtain ⟨x,p,e1,e2⟩:=mX hT
  rw [e1,<-Option.some.inj hp]
  exact wpAny_assign_Name (W.store ok e2 (hF i (.head _) _ e2) y)
 | many is=>
  obtain ⟨x,e1,hT⟩:=aj hT
  obtain ⟨l,e2,hp⟩:=Option.bind_eq_some_iff.mp hp
  obtain ⟨hl,hp⟩:=bz hp
  rw [gf e2] at y
  have hl:=of_decide_eq_true hl
  obtain ⟨a,b,d⟩:=vN (c:=c) hT
  rw [t8 e1,<-hp]
  refine y.elim (R:=fun v=>W c ρ h tk (assign (.Tuple x.1 x.2.1 x.2.2) c.env v) (PQ ρ (fC is l γ) st) X) fun A vs o t yl=>?_
  refine nZ (HdOk.of ok.hnd) t (b.trans ((yl.length.trans hl).symm)) d fun h' hk=>?_
  obtain ⟨ok',sp'⟩:=ok.grow hk
  exact (kD a hF ok' (sp'.repL yl) hl).from sp'
theorem SX.assign {x:Str} {xp pos:Pos} {e:Expr} {m:Option (Out RV)} {i:Nat} {o:SOut} (hm:dg m γ (fun r st₁=>some (.next (γ.set i (some r)) st₁))=some o) (x':∀o,m=some o->EvR c γ st e o)
  (hF:∀x∈c.names,c.env.kindOf x=some .local\/c.Full) (hx:c.names[i]? = some x) (hs:swapsWith e (some (.Name x xp)) pos.line c.env=pure false):SX c γ st (.Assign [.Name x xp] e pos) o:=fun ρ h tk ok=>
 wpAny_Assign_Name (SX.seq hm (fun o e=>x' o e ρ h tk ok) .refl fun r v ρQ st₁ h₁ tkQ hmJ ok₁ sp₁ _ y=>by
  rw [<-Option.some.inj hmJ]
  exact (W.store ok₁ hx (hF x (List.mem_of_getElem? hx)) y).put sp₁ fun h₂ tkJ ok₂ sp₂ _=>W.ends sp₂ ok₂ rfl) hs
set_option backward.match.sparseCases true in
noncomputable def AU (kd:Str->Option NameKind) (ts vs:List Expr):Option (Option (List Str)):=
 if !(ts.length==2||ts.length==3)||vs.length != ts.length then some none
 else if (vs.any fun | .Starred .. =>true | _=>false) then some none
 else
  let line:=(ts.head?.map (·.pos.line)).getD 0
  let names:=ts.filterMap fun
   | .Name id pos=>if kd id==some .local&&pos.line==line then some id else none
   | _=>none
  if names.length != ts.length||names.eraseDups.length != names.length then some none
  else if vs.all (foldedForSure 8) then some none
  else if vs.all (constantsAlone 8) then none
  else some (some names)
noncomputable def vR (kd:Str->Option NameKind) (ts:List Expr) (value:Expr):Option (Option (List Str)):=(sr value).elim (some none) fun x=>AU kd ts x.1
theorem eG {α β:Type} {P:Prop} [Decidable P] {r:α} {f:α->β} {x y:Option α} {u v:β} (h:(if P then x else y)=some r) (k1:x=some r->u=f r) (k2:y=some r->v=f r):(if P then u else v)=f r:=by
 by_cases q:P
 ·exact (if_pos q).trans (k1 ((if_pos q).symm.trans h))
 ·exact (if_neg q).trans (k2 ((if_neg q).symm.trans h))
theorem fa {α β:Type} {a r:α} {f:α->β} (h:some a=some r):f a=f r:=congrArg f (Option.some.inj h)
theorem xF {env:Env} {ts vs:List Expr} {k k':Nat} {p p':Pos} {r:Option (List Str)} (hk:env.scope.kind=.function) (h:AU env.kindOf ts vs=some r):swappedStores [.Tuple ts k p] (.Tuple vs k' p') env=pure r:=by
 have hb:(env.blockKind != .function)=false:=by
  rw [show env.blockKind=.function from by unfold Env.blockKind;rw [hk];rfl];rfl
 show (if (_||_||_)=true then _ else _)=_
 rw [hb,Bool.or_false]
 exact eG (f:=pure) h fa fun h=>eG (f:=pure) h fa fun h=>eG (f:=pure) h fa fun h=>eG (f:=pure) h fa fun h=>eG (f:=pure) h aP fa
theorem yN {env:Env} {ts:List Expr} {k:Nat} {p:Pos} {value:Expr} {r:Option (List Str)} (hk:env.scope.kind=.function) (h:vR env.kindOf ts value=some r):swappedStores [.Tuple ts k p] value env=pure r:=by
 cases value with
 | Tuple vs k' p'=>exact xF hk h
 | _=>exact fa (f:=pure) h
noncomputable def tD (is:List Nat) (rev:Bool) (r:RV) (γ:Lo):Option Lo:=r.asTup.bind fun l=>er (decide (l.length=is.length)) (cond rev (fC is.reverse l.reverse γ) (fC is l γ))
theorem SX.unpack {is:List Nat} {rev:Bool} {ts:List Expr} {k:Nat} {p pos:Pos} {value:Expr} {ns:List Str} {m:Option (Out RV)} {o:SOut} (hm:dg m γ (fun r st₁=>(tD is rev r γ).map fun γ'=>.next γ' st₁)=some o)
  (x:∀o,m=some o->EvR c γ st value o) (hF:∀x∈c.names,c.env.kindOf x=some .local\/c.Full) (hT:fh c.names is ts=true) (hsw:vR c.env.kindOf ts value=some (cond rev (some ns) none))
  (hn:rev=true->is.map (fun i=>c.names[i]?)=ns.map some):SX c γ st (.Assign [.Tuple ts k p] value pos) o:=fun ρ h tk ok=>by
 show wpAny c.M c.A (exec (.Assign [.Tuple ts k p] value pos) c.env) _ _ _
 rw [exec_Assign_arm]
 refine wpAny_bind (wpAny_standAt (wpAny_bind (wpAny_of_eq (show swapsWithSole [.Tuple ts k p] value pos.line c.env=pure false from by cases value <;> rfl) ?_)))
 refine fX Bool.false_ne_true (wpAny_bind (SX.seq hm (fun o e=>x o e ρ h tk ok) .refl fun r v ρQ st₁ h₁ tkQ hmJ ok₁ sp₁ _ y=>?_))
 obtain ⟨γ',hp,e⟩:=Option.map_eq_some_iff.mp hmJ
 refine wpAny_bind (wpAny_of_eq (yN c.kind hsw) ?_)
 cases rev with
 | false=>
  refine wpAny_bind (m:=PySem.assign (.Tuple ts k p) c.env v) ?_
  exact (gM (T:=.many is) (target:=.Tuple ts k p) (fun i _ x e=>hF x (List.mem_of_getElem? e)) hT ok₁ y hp).put sp₁ fun h₂ tkJ ok₂ sp₂ _=>wpAny_pure (W.ends sp₂ ok₂ e.symm)
 | true=>
  have hn':=hn rfl
  have hs:=(Sts.names hn').rev .nil
  rw [List.append_nil,List.append_nil,<-List.map_reverse] at hs
  have hlen:ns.length=is.length:=(List.length_map _).symm.trans ((congrArg List.length hn'.symm).trans (List.length_map _))
  obtain ⟨l,e2,hp⟩:=Option.bind_eq_some_iff.mp hp
  obtain ⟨hl,hp⟩:=bz hp
  have hl:=of_decide_eq_true hl
  rw [gf e2] at y
  apply y.elim
  intro a vs o' t yl
  refine wpAny_bind (wpAny_rule (wpAny_bind ?_))
  rw [hlen,<-hl,<-yl.length]
  refine i6 (items:=vs.toArray) (HdOk.of ok₁.hnd) t fun h' hk=>?_
  obtain ⟨ok',sp'⟩:=ok₁.grow hk
  refine wpAny_bind ?_
  exact (kD hs (fun i _ x e=>hF x (List.mem_of_getElem? e)) ok' (sp'.repL yl).reverse (by rw [List.length_reverse,List.length_reverse,hl])).put (sp₁.trans sp') fun h₂ tkJ ok₂ sp₂ _=>wpAny_pure (W.ends sp₂ ok₂ (e.symm.trans (congrArg (SOut.next · _) hp.symm)))
end
noncomputable def fw (T:Tg) (body:Lo->ai->Option SOut):List RV->Lo->ai->Option SOut
 | [],γ,st=>some (.next γ st)
 | r::l,γ,st=>(T.put r γ).bind fun γQ=>fQ (body γQ st) (fw T body l)
noncomputable def Up (ρ:Pl) (h:Heap) (ρ':Pl) (h':Heap):Prop:=∀(r:RV) (v:Value),Rep ρ h r v->Rep ρ' h' r v
noncomputable def ia (K:Pl->Heap->Prop):Prop:=∀ρ h ρ' h',K ρ h->Up ρ h ρ' h'->K ρ' h'
noncomputable def Gives (P:Nat->Heap->Heap->Value->Prop) (K:Pl->Heap->Prop) (l:List RV):Prop:=∀i r ρ h h' v,(∀a,h.get? a=none->Off ρ a)->K ρ h->Up ρ h ρ h'->l[i]? = some r->P i h h' v->Rep ρ h' r v
theorem dX {α:Type} {P:α->Prop}:∀b∈([]:List α),P b:=fun _ h=>fx h
theorem cI {α:Type} {P:α->Prop} {a:α} {l:List α} (x:P a) (y:∀b∈l,P b):∀b∈a::l,P b:=fun b m=>(List.mem_cons.mp m).elim (fun e=>e▸x) (y b)
theorem RepL.step {ρ ρ':Pl} {h h':Heap} (k:Up ρ h ρ' h') {l:List RV} {vs:List Value} (y:RepL ρ h l vs):RepL ρ' h' l vs:=y.map fun y=>k _ _ y
section
variable {c:Cx} {I:Addr} {fp wr hs:List Addr} {n:Nat} {target:Expr} {P:Nat->Heap->Heap->Value->Prop} {St:Nat->Heap->Prop} {ρ₀:Pl} {γE:Lo} {stJ:ai} {h₀:Heap}
structure LoopAt (c:Cx) (fp hs:List Addr) (St:Nat->Heap->Prop) (K:Pl->Heap->Prop) (ρ₀:Pl) (h₀:Heap) (k:Nat) (ρ:Pl) (γ:Lo) (st:ai) (h:Heap):Prop where
 step:Step c.own c.rest ρ₀ h₀ (ρ.out ρ₀.hid) h
 hid:ρ.hid=hs++ρ₀.hid
 ok:Ok c ρ γ st h
 at_:St k h
 vals:K ρ h
 foot:∀b∈fp,b∉ρ.vis/\∃o,h.get? b=some o/\¬ Dull o
theorem bn {o:Obj} (q:be o):¬ Dull o:=fun d=>d.2 q
theorem aW {o:Obj} {vs:Array Value} (q:o.data=.fields vs):¬ Dull o:=fun d=>d.1 _ q
variable {K:Pl->Heap->Prop} {k:Nat} {ρ ρ':Pl} {γ γ':Lo} {st st':ai} {h h':Heap}
structure Base (w:World) (A:Around) (ρ₀:Pl) (h₀:Heap):Prop where
 mh:∀b,h₀.get? b=none->(MH w).get? b=none
 hnd:∀x,A.handled=some x->∃a o,x=.ref a/\h₀.get? a=some o
 hid:∀b∈ρ₀.hid,∃o,h₀.get? b=some o
theorem Ok.base (ok:Ok c ρ γ st h):Base c.w c.A ρ h:=⟨fun b e=>ok.mh_free e,fun x hx=>(ok.hnd x hx).imp fun a y=>y.imp fun oe y=>y.elim fun _ y=>⟨y.1,y.2.2.1⟩,fun b m=>(ok.sto.hid b m).2.2.imp fun o y=>y.1⟩
noncomputable def Pokes (c:Cx) (ρ:Pl) (h:Heap) (z:Addr):Prop:=z∉ρ.vis/\(MH c.w).get? z=none/\(∀x,c.A.handled=some x->x≠.ref z)/\(z∈ρ.hid\/∃o vs,h.get? z=some o/\o.data=.fields vs)
theorem Pokes.not {z:Addr} {o:Obj} (p:Pokes c ρ h z) (f:Off ρ z) (e:h.get? z=some o) (q:be o):False:=p.2.2.2.elim f.2 fun y=>y.elim fun o' y=>y.elim fun vs y=>by
 obtain ⟨vs',n,w⟩:=q
 rw [Option.some.inj (y.1.symm.trans e)] at y
 exact nomatch y.2.symm.trans w
theorem Wk.poked (W:Wk c.w c.A I fp wr hs n target P St) (hwr:∀z∈wr,h₀.get? z=none) (ok₀:Base c.w c.A ρ₀ h₀) (x:LoopAt c fp hs St K ρ₀ h₀ k ρ γ st h):∀z∈wr,Pokes c ρ h z:=fun z hz=>by
 refine ⟨(x.foot z (W.sub z hz)).1,ok₀.mh z (hwr z hz),fun v hv e=>?_,?_⟩
 ·obtain ⟨a,oe,e1,e2⟩:=ok₀.hnd v hv
  have e3:=Value.ref.inj (e1.symm.trans e)
  exact aP ((hwr _ hz).symm.trans ((congrArg h₀.get? e3.symm).trans e2))
 ·rcases W.kind k h x.at_ z hz with ⟨m,_⟩ | ⟨_,q⟩
  ·exact .inl (by rw [x.hid];exact List.mem_append_left _ m)
  ·exact .inr q
theorem LoopAt.drawn (W:Wk c.w c.A I fp wr hs n target P St) (hwr:∀z∈wr,h₀.get? z=none) (ok₀:Base c.w c.A ρ₀ h₀) (hK:ia K) (x:LoopAt c fp hs St K ρ₀ h₀ k ρ γ st h) (hk:∀b o,b∉wr->h.get? b=some o->h'.get? b=some o) (hst:St (k+1) h') :
  LoopAt c fp hs St K ρ₀ h₀ (k+1) ρ γ st h'/\Up ρ h ρ h':=by
 have hp:=W.poked hwr ok₀ x
 have rp:Up ρ h ρ h':=fun r v y=>y.mono Pre.refl.1 fun a o f e q=>⟨f,hk a o (fun m=>(hp a m).not f e q) e⟩
 refine ⟨⟨x.step.poke hwr hk,x.hid,?_,hst,hK _ _ _ _ x.vals rp,fun b hb=>⟨(x.foot b hb).1,?_⟩⟩,rp⟩
 ·exact x.ok.poke (H:=ρ.hid) (fun b m=>m) hp hk fun z hz m=>by
   rcases W.kind (k+1) h' hst z hz with ⟨_,q⟩ | ⟨m',q⟩
   ·exact q
   ·rw [x.hid] at m
    rcases List.mem_append.mp m with m | m
    ·exact absurd m m'
    ·obtain ⟨o,e⟩:=ok₀.hid z m
     rw [hwr z hz] at e;exact cH e
 ·by_cases q:b∈wr
  ·rcases W.kind (k+1) h' hst b q with ⟨_,o,e,z⟩ | ⟨_,o,vs,e,z⟩
   ·exact ⟨o,e,bn z⟩
   ·exact ⟨o,e,aW z⟩
  ·obtain ⟨o,e,d⟩:=(x.foot b hb).2
   exact ⟨o,hk b o q e,d⟩
theorem LoopAt.on (W:Wk c.w c.A I fp wr hs n target P St) (hhs:∀b∈hs,h₀.get? b=none) (hK:ia K) (x:LoopAt c fp hs St K ρ₀ h₀ k ρ γ st h) (sp:c.Step ρ h ρ' h') (ok':Ok c ρ' γ' st' h'):LoopAt c fp hs St K ρ₀ h₀ k ρ' γ' st' h':=by
 obtain ⟨s1,s2⟩:=x.step.inner sp x.hid hhs
 have kf:∀b∈fp,∀o,h.get? b=some o->h'.get? b=some o/\b∉ρ'.vis:=fun b hb o e=>by
  obtain ⟨n1,o',e',nd⟩:=x.foot b hb
  rw [e] at e';cases e'
  exact sp.keep b o n1 (fun m=>by obtain ⟨_,o',e',d⟩:=x.ok.own b m;rw [e] at e';cases e';exact nd d) (fun m=>by obtain ⟨_,o',e',d⟩:=x.ok.ff.at_ b (c.rest_fr b m);rw [e] at e';cases e';exact nd d) e
 refine ⟨s1,s2,ok',W.frame _ _ _ x.at_ fun b hb o e=>(kf b hb o e).1,hK _ _ _ _ x.vals fun r v y=>sp.rep y,fun b hb=>?_⟩
 obtain ⟨_,o,e,nd⟩:=x.foot b hb
 exact ⟨(kf b hb o e).2,o,(kf b hb o e).1,nd⟩
inductive xO (c:Cx) (P:Nat->Heap->Heap->Value->Prop) (St:Nat->Heap->Prop) (wr:List Addr) (k:Nat) (h:Heap) (v:Value):Shared->Prop
 | mk (h':Heap) (t':Nat) (hp:P k h h' v) (hst:St (k+1) h') (hk:∀b o,b∉wr->h.get? b=some o->h'.get? b=some o):xO c P St wr k h v ⟨h',c.g,c.d,t',c.os⟩
inductive LI (c:Cx) (fp hs:List Addr) (St:Nat->Heap->Prop) (K:Pl->Heap->Prop) (ρ₀:Pl) (h₀:Heap) (n:Nat) (F:Nat->Lo->ai->Prop):Nat->Shared->Prop
 | mk (k:Nat) (h:Heap) (t:Nat) (ρ:Pl) (γ:Lo) (st:ai) (le:k<=n) (x:LoopAt c fp hs St K ρ₀ h₀ k ρ γ st h) (f:F k γ st):LI c fp hs St K ρ₀ h₀ n F (n-k) ⟨h,c.g,c.d,t,c.os⟩
theorem W.puts {t:Sem Unit} {Qr:Unit->Shared->Prop} {E:Value->Shared->Prop} {tk:Nat} (x:W c ρ h tk t (PQ ρ γ' st) fun _ _ _=>False) (k:∀h₁ tkQ,Ok c ρ γ' st h₁->c.Step ρ h ρ h₁->Qr () ⟨h₁,c.g,c.d,tkQ,c.os⟩):wpAny c.M c.A t Qr E ⟨h,c.g,c.d,tk,c.os⟩:=
 wpAny_mono x (fun v s' q=>q.elim fun h₁ t₁ ρQ γQ st₁ sp₁ ok q=>by
  obtain ⟨e1,e2,e3⟩:=q
  subst e1 e2 e3
  exact k _ _ ok sp₁) fun v s' e=>by
  obtain ⟨_,_,_,_,_,_,_,_,_,_,_,_,z⟩:=e
  exact z.elim
theorem LoopAt.over (W:Wk c.w c.A I fp wr hs n target P St) (hwr:∀z∈wr,h₀.get? z=none) (ok₀:Ok c ρ₀ γE stJ h₀) (x:LoopAt c fp hs St K ρ₀ h₀ k ρ γ st h) (hk:∀b o,b∉wr->h.get? b=some o->h'.get? b=some o):c.Step ρ₀ h₀ (ρ.out ρ₀.hid) h'/\Ok c (ρ.out ρ₀.hid) γ st h':=
 ⟨x.step.poke hwr hk,x.ok.poke (H:=ρ₀.hid) (fun b m=>by rw [x.hid];exact List.mem_append_right _ m) (W.poked hwr ok₀.base x) hk fun z hz m=>by
  obtain ⟨_,_,o,e,_⟩:=ok₀.sto.hid z m
  exact aP ((hwr z hz).symm.trans e)⟩
theorem ti (W:Wk c.w c.A I fp wr hs n target P St) {T:Tg} {body:List Stmt} {bf:Lo->ai->Option SOut} {l:List RV} {o:SOut} (ok₀:Ok c ρ₀ γE stJ h₀) (hFull:c.Full) (hT:T.isT c.names target=true) (hl:l.length=n)
  (hwr:∀z∈wr,h₀.get? z=none) (hhs:∀z∈hs,z∈wr) (hK:ia K) (hP:Gives P K l) (hb:∀γ st o,bf γ st=some o->SR c γ st body o)
  {tk:Nat} (x:LoopAt c fp hs St K ρ₀ h₀ 0 ρ γ st h) (hm:fw T bf l γ st=some o) :
  codeAny (model pw c.w) c.A (.forLoop target (.ref I) body [] c.env) (fun r s'=>match r with | .ok f=>QW c ρ₀ h₀ (FQ c o) f s' | .error e=>cameBackBy (model pw c.w) c.A c.env (EW c ρ₀ h₀ (FX o)) e s') ⟨h,c.g,c.d,tk,c.os⟩:=by
 have hhs0:∀b∈hs,h₀.get? b=none:=fun b m=>hwr b (hhs b m)
 refine codeAny_forLoop_any (LI c fp hs St K ρ₀ h₀ n fun k γ st=>fw T bf (l.drop k) γ st=some o) (fun m s hI=>?_) n (.mk 0 h tk ρ γ st (Nat.zero_le _) x hm)
 obtain ⟨k,h,t,ρ,γ,st,hkn,x,hm⟩:=hI
 rcases Nat.lt_or_eq_of_le hkn with hlt | hk'
 ·have hlk:k<l.length:=hl▸hlt
  rw [List.drop_eq_getElem_cons hlk] at hm
  obtain ⟨γQ,hput,hm⟩:=Option.bind_eq_some_iff.mp hm
  refine wpAny_mono (W.item k ⟨h,c.g,c.d,t,c.os⟩ (xO c P St wr k h) _ hlt x.at_ fun v h' tk' hp hst hk=>⟨h',tk',hp,hst,hk⟩) (fun r s₁ hr=>?_) fun _ _ z=>z
  obtain ⟨v,e,hgo⟩:=hr
  subst e
  refine wpAny_mono hgo (fun _ s₂ z=>?_) fun _ _ z=>z
  obtain ⟨h₁,tkQ,hp,hst,hk⟩:=z
  obtain ⟨x₁,rp⟩:=x.drawn W hwr ok₀.base hK hk hst
  refine (gM (fun _ _ _ _=>.inr hFull) hT x₁.ok (hP k _ ρ h h₁ v (fun a e=>x.ok.free_new e) x.vals rp (List.getElem?_eq_getElem hlk) hp) hput).puts fun h₂ t₂ ok₂ sp₂=>?_
  have x₂:=x₁.on W hhs0 hK sp₂ ok₂
  refine SX.go hm (fun o e=>hb _ _ o e ρ h₂ t₂ ok₂) (fun ρ₃ γZ stQ h₃ t₃ hf sp₃ ok₃=>?_) (fun v ρ₃ γZ stQ h₃ t₃ sp₃ ok₃ q=>?_) fun e s' z=>?_
  ·exact ⟨n-(k+1),Nat.sub_succ_lt_self n k hlt,k+1,h₃,t₃,ρ₃,γZ,stQ,hlt,x₂.on W hhs0 hK sp₃ ok₃,hf⟩
  ·have x₃:=x₂.on W hhs0 hK sp₃ ok₃
   obtain ⟨r,yr,q⟩:=q
   exact ⟨h₃,t₃,ρ₃.out ρ₀.hid,γZ,stQ,x₃.step,x₃.ok.unhide x₃.hid,r,yr.unhide x₃.hid,q⟩
  ·obtain ⟨h₃,t₃,ρ₃,γZ,stQ,e,kk,fl,sp₃,ok₃,e5,e6,q⟩:=z
   obtain ⟨s1,s2⟩:=x₂.step.inner sp₃ x₂.hid hhs0
   obtain ⟨T',d,fly,code,n1,n2,n3,r1,r2,r3⟩:=e6
   exact k8 rfl (congrArg Env.frame hFull.env.symm) ok₀ s1 (ok₃.unhide s2) e5 ⟨T',d,fly,code,x₂.step.old n1,x₂.step.old n2,x₂.step.old n3,r1,r2,r3⟩ q
 ·subst hk'
  rw [List.drop_of_length_le (Nat.le_of_eq hl)] at hm
  refine W.done ⟨h,c.g,c.d,t,c.os⟩ _ _ x.at_ fun h' tk' hk=>wpAny_execs_nil ?_
  obtain ⟨sp,ok⟩:=x.over W hwr ok₀ hk
  exact ⟨h',tk',ρ.out ρ₀.hid,γ,st,sp,ok,(Option.some.inj hm).symm⟩
theorem RepL.arr {l:List RV} {vs:List Value} {i:Nat} {r:RV} {v:Value} (y:RepL ρ h l vs) (e:l[i]? = some r) (q:vs.toArray[i]? = some v):Rep ρ h r v:=by
 obtain ⟨v',e',y'⟩:=y.get e
 rw [List.getElem?_toArray,e'] at q
 exact Option.some.inj q▸y'
theorem qK {M:Model} {A:Around} {env:Env} {E E':Value->Shared->Prop} {e:Value} {s:Shared} (x:cameBackBy M A env E e s) (k:∀e s,E e s->E' e s):cameBackBy M A env E' e s:=
 wpAny_mono x (fun _ _ q=>k _ _ q) k
inductive jr (c:Cx) (ρ₀:Pl) (h₀:Heap) (γ:Lo) (st:ai) (target:Expr) (l:List RV) (I:Addr) (h':Heap):Prop
 | mk (fp wr hs:List Addr) (n:Nat) (P:Nat->Heap->Heap->Value->Prop) (St:Nat->Heap->Prop) (K:Pl->Heap->Prop) (ρ':Pl) (W:Wk c.w c.A I fp wr hs n target P St) (x:LoopAt c fp hs St K ρ₀ h₀ 0 ρ' γ st h') (hwr:∀z∈wr,h₀.get? z=none) (hhs:∀z∈hs,z∈wr) (hl:l.length=n)
  (hK:ia K) (hP:Gives P K l) (hv:ρ'.vis=ρ₀.vis) (hk:∀b o,h₀.get? b=some o->h'.get? b=some o)
inductive A1 (c:Cx) (ρ:Pl) (h:Heap) (γ:Lo) (target:Expr):Out (List RV)->Value->Shared->Prop
 | mk (I:Addr) (h₂:Heap) (t₂:Nat) (ρQ:Pl) (h₁:Heap) (l:List RV) (st₁:ai) (sp:c.Step ρ h ρQ h₁) (ok:Ok c ρQ γ st₁ h₁) (s:jr c ρQ h₁ γ st₁ target l I h₂):A1 c ρ h γ target (.ok l st₁) (.ref I) ⟨h₂,c.g,c.d,t₂,c.os⟩
noncomputable def ItR (c:Cx) (γ:Lo) (st:ai) (target iter:Expr) (o:Out (List RV)):Prop:=∀ρ h tk,Ok c ρ γ st h->wpAny c.M c.A (eval iter c.env) (fun x s₁=>wpAny c.M c.A (pyIter x) (A1 c ρ h γ target o) (EW c ρ h (ER o γ)) s₁) (EW c ρ h (ER o γ)) ⟨h,c.g,c.d,tk,c.os⟩
theorem qx {I ax:Addr} {ol:Obj} (ok:Ok c ρ γ st h) (hI:h.get? I=none) (hk:∀b o,h.get? b=some o->h'.get? b=some o) {oI:Obj} {ivs:Array Value} (eI:h'.get? I=some oI) (dI:oI.data=.fields ivs) (f:Off ρ ax) (el:h.get? ax=some ol) (ql:be ol) :
  ∀b∈I::ax::xT c.A,b∉ρ.vis/\∃o,h'.get? b=some o/\¬ Dull o:=
 cI ⟨ok.free_off hI,oI,eI,aW dI⟩ (cI ⟨f.1,ol,hk _ _ el,bn ql⟩ fun b hb=>by
  cases q:c.A.handled with
  | none=>exact absurd ((by unfold xT at hb;rw [q] at hb;exact hb):b∈([]:List Addr)) List.not_mem_nil
  | some e=>
   obtain ⟨a,oe,vs,e1,e2,e3,e4,e5⟩:=ok.hnd _ q
   have hb:b∈[a]:=by unfold xT at hb;rw [q,e1] at hb;exact hb
   rw [List.mem_singleton.mp hb]
   exact ⟨e2,oe,hk _ _ e3,aW e4⟩)
theorem fE {l:List RV} {vs:List Value}:ia fun ρ h=>RepL ρ h l vs:=fun ρ h ρ' h' q rp=>RepL.step rp q
theorem nU {l:List RV} {v:Value} {Q:Value->Shared->Prop} {E:Value->Shared->Prop} {tk:Nat} (ok:Ok c ρ γ st h) (y:Rep ρ h (.lst l) v) (hq:∀I h',jr c ρ h γ st target l I h'->Q (.ref I) ⟨h',c.g,c.d,tk,c.os⟩):wpAny c.M c.A (pyIter v) Q E ⟨h,c.g,c.d,tk,c.os⟩:=by
 refine y.elim (R:=fun v=>wpAny c.M c.A (pyIter v) Q E ⟨h,c.g,c.d,tk,c.os⟩) fun ax vs f t yl=>?_
 refine wpAny_pyIter_list t ?_
 have hk:∀b o,h.get? b=some o->(h.push { cls:=.type "list_iterator",data:=.fields #[.ref ax,.int 0 0] }).get? b=some o:=fun b o e=>Heap.get?_push_of_some _ e
 obtain ⟨ok₂,sp₂⟩:=ok.grow hk
 obtain ⟨ol,el,cl,nl,dl⟩:=t
 have W:=Wk.list (w:=c.w) (A:=c.A) (target:=target) h.objs.size ax (Nat.ne_of_lt (Heap.lt_size el)) (fun e he q=>by
  obtain ⟨a,oe,vs,e1,_,e2,_⟩:=ok.hnd e he
  exact absurd (Heap.lt_size e2) (Value.ref.inj (e1.symm.trans q)▸Nat.lt_irrefl _)) vs.toArray
 exact hq _ _ ⟨_,_,_,_,_,_,fun ρ h=>RepL ρ h l vs,ρ,W,⟨sp₂,rfl,ok₂,⟨⟨_,Heap.get?_push_size _ rfl,rfl,rfl⟩,⟨ol,hk _ _ el,cl,nl,dl⟩,HdOk.of ok₂.hnd⟩,sp₂.repL yl,qx ok Heap.new_none hk (Heap.get?_push_size _ rfl) rfl f el ⟨_,_,dl⟩⟩,
  cI Heap.new_none dX,dX,yl.length.symm,fE,fun i r ρ h h' v _ q rp e1 e2=>rp _ _ (q.arr e1 e2),rfl,hk⟩
theorem ItR.lst {iter:Expr} {m:Option (Out RV)} {o:Out (List RV)} (hm:aq m (fun r st₁=>r.asLst.map fun l=>.ok l st₁)=some o) (x:∀o,m=some o->EvR c γ st iter o):ItR c γ st target iter o:=fun ρ h tk ok=>
 TR.seq hm (fun o e=>x o e ρ h tk ok) .refl fun r v ρQ st₁ h₁ tkQ hmJ ok₁ sp₁ _ y=>by
  obtain ⟨l,e1,e2⟩:=Option.map_eq_some_iff.mp hmJ
  subst e2
  exact nU ok₁ (cj e1▸y) fun I h' s=>⟨I,h',_,ρQ,h₁,_,_,sp₁,ok₁,s⟩
theorem SX.for {T:Tg} {iter:Expr} {body:List Stmt} {bf:Lo->ai->Option SOut} {pos:Pos} {m:Option (Out (List RV))} {o:SOut} (hm:dg m γ (fun l st₁=>fw T bf l γ st₁)=some o)
  (x:∀o,m=some o->ItR c γ st target iter o) (hFull:c.Full) (hT:T.isT c.names target=true) (hb:∀γ st o,bf γ st=some o->SR c γ st body o) (hs:∀x,foldedSetIterable iter c.env x=pure x):SX c γ st (.For target iter body [] pos) o:=fun ρ h tk ok=>by
 cases m with
 | none=>exact aP hm
 | some q=>
 have ex:∀v s',EW c ρ h (ER q γ) v s'->EW c ρ h (FX o) v s':=fun v s' e=>e.mono fun k γ' st' z=>by
  obtain ⟨z1,z2⟩:=z
  subst z2
  rw [z1]
  exact (Option.some.inj hm).symm
 refine wpAny_For (wpAny_mono (x q rfl ρ h tk ok) (fun v s₁ h₁=>wpAny_mono h₁ (fun it s₂ z=>?_) ex) ex) hs
 obtain ⟨I,h₂,t₂,ρQ,h₁,l,st₁,sp₁,ok₁,S⟩:=z
 obtain ⟨fp,wr,hs,n,P,St,K,ρ',W,x₀,a1,a2,a3,a4,a5,_,_⟩:=S
 refine codeAny_mono (ti W (T:=T) (bf:=bf) ok₁ hFull hT a3 a1 a2 a4 a5 hb x₀ hm) fun r s' q=>?_
 cases r with
 | ok f=>exact QW.from sp₁ q
 | error e=>exact qK q fun _ _ q=>q.from sp₁
theorem md {n:String} {M:Model} {h:Heap}:Looks M h (keeperOf (.type n)) .machine:=fun A Q E s hk q=>wpAny_pure q
theorem callWith_type {n:String} {pos:Pos} {args:List Expr} {Q:Value->Shared->Prop} {E:Value->Shared->Prop} {M:Model} {A:Around} {s:Shared} (hst:(backTo pos (starEach args c.env)).all (fun x=> !x.1)=true)
  (h:wpAny M A (spliced (backTo pos (starEach args c.env))) (fun vs s₁=>wpAny M A (call (.type n) vs) Q E s₁) E s):wpAny M A (callWith pos (.type n) [] (backTo pos (starEach args c.env)) []) Q E s:=
 callWith_of (P:=fun _=>True) (bM hst) (fun h _=>⟨_,.inr (.inl rfl),md⟩) (bo hst (wpAny_mono h (fun vs s' q=>⟨trivial,q⟩) fun _ _ e=>e))
noncomputable def pairs:List RV->List RV->List RV
 | a::l,b::l'=>.tup [a,b]::pairs l l'
 | _,_=>[]
theorem pairs_len {l l':List RV}:(pairs l l').length=min l.length l'.length:=by
 induction l generalizing l' with
 | nil=>exact (Nat.zero_min _).symm
 | cons a l ih=>cases l' with
  | nil=>exact (Nat.min_zero _).symm
  | cons b l'=>exact (congrArg Nat.succ ih).trans (Nat.succ_min_succ _ _).symm
theorem pairs_at {l l':List RV} {i:Nat} {r:RV} (e:(pairs l l')[i]? = some r):∃a b,r=.tup [a,b]/\l[i]? = some a/\l'[i]? = some b:=by
 induction l generalizing l' i with
 | nil=>exact aP e
 | cons a l ih=>cases l' with
  | nil=>exact aP e
  | cons b l'=>cases i with
   | zero=>exact ⟨a,b,(Option.some.inj e).symm,rfl,rfl⟩
   | succ i=>exact ih e
theorem dE (N:Nat) {a b:Nat} (h:a≠b):N+a≠N+b:=fun e=>h (Nat.add_left_cancel e)
theorem ne_old {N a:Nat} (k:Nat) (h:a<N):a≠N+k:=Nat.ne_of_lt (Nat.lt_of_lt_of_le h (Nat.le_add_right _ _))
theorem qO {N a1 a2:Nat} (h1:a1<N) (h2:a2<N):ZipApart (N+4) (N+2) (N+3) N (N+1) a1 a2:=
 ⟨dE N (by decide),dE N (by decide),dE N (a:=0) (by decide),dE N (by decide),dE N (by decide),dE N (b:=0) (by decide),dE N (by decide),dE N (b:=0) (by decide),dE N (by decide),dE N (a:=0) (by decide),ne_old 4 h1,ne_old 3 h1,ne_old 0 h1,ne_old 1 h1,ne_old 4 h2,ne_old 3 h2,ne_old 0 h2,ne_old 1 h2⟩
theorem qt {l1 l2:List RV} {v1 v2:Value} {Q:Value->Shared->Prop} {E:Value->Shared->Prop} (hh:c.A.handled=none) (ok:Ok c ρ γ st h) (y1:Rep ρ h (.lst l1) v1) (y2:Rep ρ h (.lst l2) v2) {elts:List Expr} {k:Nat} {p:Pos} {tk:Nat}
  (hq:∀I h',(∀{Q':Value->Shared->Prop} {E':Value->Shared->Prop} {t':Nat},Q' (.ref I) ⟨h',c.g,c.d,t',c.os⟩->wpAny c.M c.A (pyIter (.ref I)) Q' E' ⟨h',c.g,c.d,t',c.os⟩)->jr c ρ h γ st (.Tuple elts k p) (pairs l1 l2) I h'->Q (.ref I) ⟨h',c.g,c.d,tk,c.os⟩) :
  wpAny c.M c.A (call (.type "zip") [v1,v2]) Q E ⟨h,c.g,c.d,tk,c.os⟩:=by
 refine y1.elim (R:=fun v1=>wpAny c.M c.A (call (.type "zip") [v1,v2]) Q E ⟨h,c.g,c.d,tk,c.os⟩) fun a1 vs1 f1 t1 yl1=>?_
 refine y2.elim (R:=fun v2=>wpAny c.M c.A (call (.type "zip") [.ref a1,v2]) Q E ⟨h,c.g,c.d,tk,c.os⟩) fun a2 vs2 f2 t2 yl2=>?_
 refine call_zip_2 t1 t2 fun h' hz hTI hTO hi1 hi2 hsz hk=>?_
 obtain ⟨o1,e1,c1,n1,d1⟩:=t1
 obtain ⟨o2,e2,c2,n2,d2⟩:=t2
 have D:=qO (Heap.lt_size e1) (Heap.lt_size e2)
 have new:∀j,h.get? (h.objs.size+j)=none:=fun j=>Heap.get?_none_of_le (Nat.le_add_right _ _)
 have okH:Ok c ⟨ρ.vis,(h.objs.size+3)::ρ.hid⟩ γ st h':=ok.hide (new 3) hk ⟨_,hTO,_,_,rfl⟩
 obtain ⟨okG,spG⟩:=ok.grow hk
 have up:Up ρ h ⟨ρ.vis,(h.objs.size+3)::ρ.hid⟩ h':=fun r v=>Rep.mono (ρ:=ρ) (ρ':=⟨ρ.vis,(h.objs.size+3)::ρ.hid⟩) (fun i a e=>e) fun a o f e q=>⟨⟨f.1,fun m=>(List.mem_cons.mp m).elim (fun z=>aP ((new 3).symm.trans ((congrArg h.get? z.symm).trans e))) f.2⟩,hk a o e⟩
 have W:=Wk.zip (w:=c.w) (elts:=elts) (k:=k) (pos:=p) hh (h.objs.size+4) (h.objs.size+2) (h.objs.size+3) h.objs.size (h.objs.size+1) a1 a2 D vs1.toArray vs2.toArray
 refine hq (h.objs.size+4) h' (fun q=>wpAny_pyIter_zip hz q) ⟨_,_,_,_,_,_,fun ρ h=>RepL ρ h l1 vs1/\RepL ρ h l2 vs2,⟨ρ.vis,(h.objs.size+3)::ρ.hid⟩,W,⟨spG,rfl,okH,
  ⟨hz,hTI,⟨_,_,hTO⟩,hi1,hi2,⟨o1,hk _ _ e1,c1,n1,d1⟩,⟨o2,hk _ _ e2,c2,n2,d2⟩⟩,⟨yl1.step up,yl2.step up⟩,?_⟩,?_,?_,?_,fun ρ h ρ' h' q rp=>⟨q.1.step rp,q.2.step rp⟩,fun i r ρ h h' v ok' q rp e1 e2=>?_,rfl,hk⟩
 ·refine cI ⟨ok.free_off (new 4),_,hz,aW rfl⟩ (cI ⟨ok.free_off (new 2),_,hTI,bn ⟨_,_,rfl⟩⟩ (cI ⟨ok.free_off (new 3),_,hTO,bn ⟨_,_,rfl⟩⟩ (cI ⟨ok.free_off (new 0),?_⟩ (cI ⟨ok.free_off (new 1),?_⟩
   (cI ⟨f1.1,o1,hk _ _ e1,bn ⟨_,_,d1⟩⟩ (cI ⟨f2.1,o2,hk _ _ e2,bn ⟨_,_,d2⟩⟩ dX))))))
  ·exact hi1.imp fun o y=>⟨y.1,aW y.2.2⟩
  ·exact hi2.imp fun o y=>⟨y.1,aW y.2.2⟩
 ·exact cI (new 4) (cI (new 3) (cI (new 0) (cI (new 1) dX)))
 ·exact cI (.tail _ (.head _)) dX
 ·rw [pairs_len,List.size_toArray,List.size_toArray,yl1.length,yl2.length]
 ·obtain ⟨T,x,y,e3,hx,hy,hT,htup⟩:=e2
  obtain ⟨ra,rb,e4,q1,q2⟩:=pairs_at e1
  rw [e3,e4]
  exact .tup (vs:=[x,y]) (ok' _ hT) htup (.cons (rp _ _ (q.1.arr q1 hx)) (.cons (rp _ _ (q.2.arr q2 hy)) .nil))
noncomputable def zD (l:List RV) (st:ai):Option (Out (List RV)):=(fz l).bind fun p=>p.1.asLst.bind fun l1=>p.2.asLst.map fun l2=>.ok (pairs l1 l2) st
theorem ItR.zip {x:Str} {np pos:Pos} {a b:Expr} {elts:List Expr} {k:Nat} {p:Pos} {m:Option (Out (List RV))} {o:Out (List RV)} (hm:aq m zD=some o) (hh:c.A.handled=none)
  (hf:EvR c γ st (.Name x np) (.ok (.ty "zip") st)) (y:∀o,m=some o->ElR c γ st pos [a,b] o) (hst:(backTo pos (starEach [a,b] c.env)).all (fun x=> !x.1)=true):ItR c γ st (.Tuple elts k p) (.Call (.Name x np) [a,b] [] pos) o:=fun ρ h tk ok=>
 wpAny_Call_ofName (TR.known (hf ρ h tk ok) .refl fun v ρQ h₁ tkQ ok₁ sp₁ _ yf=>by
  apply yf.elim
  refine callWith_type hst (TR.seq hm (fun o e=>y o e ρQ h₁ tkQ ok₁) sp₁ fun l vs ρ₂ st₂ h₂ tkJ hmQ ok₂ sp₂ _ yl=>?_)
  obtain ⟨p,e1,hmQ⟩:=Option.bind_eq_some_iff.mp hmQ
  obtain ⟨l1,e2,hmQ⟩:=Option.bind_eq_some_iff.mp hmQ
  obtain ⟨l2,e3,hmQ⟩:=Option.map_eq_some_iff.mp hmQ
  subst hmQ
  rw [cB e1,cj e2,cj e3] at yl
  apply yl.two
  intro v v' y1 y2
  exact qt hh ok₂ y1 y2 fun I h' it s=>it ⟨I,h',_,ρ₂,h₂,_,_,sp₂,ok₂,s⟩)
end
section
variable {M:Model} {A:Around} {E:Value->Shared->Prop} {s:Shared} {env:Env}
noncomputable def cM (M:Model) (A:Around) (E:Value->Shared->Prop) (use:Option (Value->Sem Unit)) (Q:Value->Shared->Prop) (acc:Value) (cenv:Env) (r:Result) (s':Shared):Prop:=
 match r,use with
 | .ok _,none=>∃m,s'.heap.Ns cenv.locals m/\∀h',Heap.SameBut cenv.locals s'.heap h'->Q acc { s' with heap:=h' }
 | .ok _,some u=>wpAny M A (u acc) (fun _ s''=>∃m,s''.heap.Ns cenv.locals m/\∀h',Heap.SameBut cenv.locals s''.heap h'->Q .none { s'' with heap:=h' }) E s'
 | .error x,_=>∃m,s'.heap.Ns cenv.locals m/\∀h',Heap.SameBut cenv.locals s'.heap h'->wpAny M A (PySem.passOn "comprehension.variables-let-go" x cenv:Sem Value) (fun _ _=>False) E { s' with heap:=h' }
theorem kt {e:Expr} {scope:Scope} {pos:Pos} {newAcc first:Sem Value} {g:Comprehension} {gs:List Comprehension} {cl:List (Str×Addr)} {use:Option (Value->Sem Unit)}
  {Q:Value->Shared->Prop}
  (hcl:clausesOf e=g::gs) (hs:∀x,foldedSetIterable g.iter env x=pure x) (hclos:closureFor scope env=pure cl)
  (hkind:scope.kind=.function) (hnames:∀x∈scope.names,x.2=.local->scope.names.lookup x.1=some .local)
  (h:wpAny M A first (fun x s₁=>wpAny M A (pyIter x) (fun it s₂=>wpAny M A newAcc (fun acc s₃=>
   wpAny M A (newFunctionEnv scope env.globals cl [] env.qual none .none (some env)) (fun cenv s₄=>
    codeAny M A (.compStart e 0 it acc { cenv with scope:=relabel scope env }) (cM M A E use Q acc { cenv with scope:=relabel scope env }) s₄) E s₃) E s₂) E s₁) E s) :
  wpAny M A (comprehension e scope env pos newAcc false first use) Q E s:=by
 unfold comprehension
 rw [hclos,hcl]
 refine wpAny_bind (wpAny_mono h (fun x s₁ h₁=>wpAny_bind (wpAny_standAt (wpAny_bind (wpAny_of_eq (hs x) (wpAny_bind (wpAny_holding (wpAny_mono h₁ (fun it s₂ h₂=>
  wpAny_standIf (wpAny_bind (wpAny_mono h₂ (fun acc s₃ h₃=>wpAny_bind (wpAny_pure (wpAny_bind (wpAny_mono h₃ (fun cenv s₄ h₄=>?_) fun _ _ h'=>h')))) fun _ _ h'=>h')))
   fun _ _ h'=>h'))))))) fun _ _ h'=>h')
 dsimp only
 have hv:∀x∈(scope.names.filter fun x=>(x.2==.local||x.2==.cell)&&x.1 != (".0":Str)).reverse,x.2=.local->
   Env.kindOf { cenv with scope:=relabel scope env } x.1=some .local:=fun x hx hl=>lookup_relabel_local (hnames x (List.mem_filter.mp (List.mem_reverse.mp hx)).1 hl)
 have hv':∀x∈(scope.names.filter fun x=>(x.2==.local||x.2==.cell)&&x.1 != (".0":Str)).reverse.drop 1++(scope.names.filter fun x=>(x.2==.local||x.2==.cell)&&x.1 != (".0":Str)).reverse.take 1,
   x.2=.local->Env.kindOf { cenv with scope:=relabel scope env } x.1=some .local:=fun x hx hl=>by
  rcases List.mem_append.mp hx with h1 | h1
  ·exact hv x (List.mem_of_mem_drop h1) hl
  ·exact hv x (List.mem_of_mem_take h1) hl
 refine wpAny_holding (wpAny_bind (wpAny_attempt (wpAny_holding (wpAny_run (codeAny_mono h₄ fun r s' hr=>?_)))))
 cases r with
 | ok f=>
  cases use with
  | none=>
   obtain ⟨m,hn,hr⟩:=hr
   exact wpAny_bind (wpAny_holding (wpAny_comp_letGo (cenv:={ cenv with scope:=relabel scope env }) hkind _ s' m hv hn fun h' m' _ hs'=>wpAny_pure (hr h' hs')))
  | some u=>
   refine wpAny_bind (wpAny_rule (wpAny_bind (wpAny_holding (wpAny_mono hr (fun _ s'' hr'=>?_) fun _ _ h'=>h'))))
   obtain ⟨m,hn,hr'⟩:=hr'
   exact wpAny_bind (wpAny_comp_letGo (cenv:={ cenv with scope:=relabel scope env }) hkind _ s'' m hv' hn fun h' m' _ hs'=>wpAny_pure (hr' h' hs'))
 | error x=>
  have hr':∃m,s'.heap.Ns cenv.locals m/\∀h',Heap.SameBut cenv.locals s'.heap h'->wpAny M A (PySem.passOn "comprehension.variables-let-go" x { cenv with scope:=relabel scope env }:Sem Value) (fun _ _=>False) E { s' with heap:=h' }:=by cases use <;> exact hr
  obtain ⟨m,hn,hr⟩:=hr'
  exact wpAny_bind (wpAny_holding (wpAny_comp_letGo (cenv:={ cenv with scope:=relabel scope env }) hkind _ s' m hv hn fun h' m' _ hs'=>wpAny_mono (hr h' hs') (fun _ _ f=>f.elim) fun _ _ y=>y))
end
theorem oO {w:World} {A:Around} {R:Result->Shared->Prop} {s:Shared} {elt target iter:Expr} {scope:Scope} {pos:Pos} {it acc:Value} {env:Env} (I:Nat->Shared->Prop)
  (turn:∀n s,I n s->wpAny (model pw w) A (pyNext it) (fun r s₁=>match r with
   | none=>R (.ok .next) s₁
   | some v=>wpAny (model pw w) A (letOwnedTupleGo target it v) (fun _ s'Q=>wpAny (model pw w) A (assign target env v) (fun _ s₂=>wpAny (model pw w) A (eval elt env) (fun x s₃=>
     wpAny (model pw w) A (call (.builtin "list.append") [acc,x]) (fun _ s₄=>∃m,m<n/\I m s₄) (notedBy (model pw w) A env fun e s'=>R (.error e) s') s₃)
     (notedBy (model pw w) A env fun e s'=>R (.error e) s') s₂) (notedBy (model pw w) A env fun e s'=>R (.error e) s') s'Q) (notedBy (model pw w) A env fun e s'=>R (.error e) s') s₁) (notedBy (model pw w) A env fun e s'=>R (.error e) s') s)
  (n:Nat) (h:I n s):codeAny (model pw w) A (.compLoop (.ListComp elt [⟨target,iter,[],0⟩] scope pos) 0 it acc env) R s:=by
 refine codeAny_loop rfl I (fun n s hI=>?_) n h
 show wpAny _ _ ((compTurn (.ListComp elt [⟨target,iter,[],0⟩] scope pos) 0 it acc env).onRaise (fun x=>do noteFrame x env;theTreesLotGoes x)) _ _ s
 refine wpAny_noted ?_
 rw [compTurn_list1]
 refine wpAny_bind (wpAny_standAt (wpAny_bind (wpAny_mono (turn n s hI) (fun r s₁ h₁=>?_) fun _ _ h'=>h')))
 cases r with
 | none=>exact wpAny_pure h₁
 | some v=>
  refine wpAny_bind (wpAny_mono h₁ (fun _ s'Q h'Q=>?_) fun _ _ h'=>h')
  exact wpAny_bind (wpAny_mono h'Q (fun _ s₂ h₂=>wpAny_bind (wpAny_bind (wpAny_mono h₂ (fun x s₃ h₃=>wpAny_bind (wpAny_mono h₃
   (fun _ s₄ h₄=>wpAny_pure (wpAny_pure ⟨rfl,h₄⟩)) fun _ _ h'=>h')) fun _ _ h'=>h'))) fun _ _ h'=>h')
noncomputable def cE (cells:List (Str×Addr)):List (Str×NameKind)->List (Str×Addr)->List (Str×Addr)
 | [],cs=>cs
 | (n,k)::r,cs=>if k==.free then cE cells r ((n,(cells.lookup n).getD 0)::cs) else cE cells r cs
theorem kJ {env:Env} {f:Str×NameKind->List (Str×Addr)->Sem (ForInStep (List (Str×Addr)))} (hf1:∀n k cs,(k==NameKind.free)=true->f (n,k) cs=(cellOf env n >>= fun a=>pure (ForInStep.yield ((n,a)::cs)))) (hf2:∀n k cs,¬ (k==NameKind.free)=true->f (n,k) cs=pure (ForInStep.yield cs)) :
  ∀(l:List (Str×NameKind)) (cs:List (Str×Addr)),(∀x∈l,x.2=.free->∃a,env.cells.lookup x.1=some a)->forIn l cs f=(pure (cE env.cells l cs):Sem (List (Str×Addr)))
 | [],cs,_=>rfl
 | (n,k)::l,cs,hx=>by
  rw [List.forIn_cons]
  have ih:=fun cs=>kJ hf1 hf2 l cs fun y hy=>hx y (.tail _ hy)
  by_cases q:(k==NameKind.free)=true
  ·obtain ⟨a,ha⟩:=hx (n,k) (.head _) (beq_iff_eq.mp q)
   have hc:cellOf env n=pure a:=by unfold cellOf;simp only at ha;rw [ha]
   rw [hf1 n k cs q,hc]
   simp only [pure_bind]
   rw [ih]
   simp only at ha
   simp [cE,q,ha]
  ·rw [hf2 n k cs q]
   simp only [pure_bind]
   rw [ih]
   simp [cE,q]
theorem wF {scope:Scope} {env:Env} (hfr:∀x∈scope.names,x.2=.free->∃a,env.cells.lookup x.1=some a):closureFor scope env=pure (cE env.cells scope.names []):=by
 simp only [closureFor]
 rw [kJ (env:=env) (fun n k cs q=>by simp [q]) (fun n k cs q=>by simp [q]) _ _ hfr]
 rfl
theorem ly {cells:List (Str×Addr)}:∀{l:List (Str×NameKind)} {cs:List (Str×Addr)} {p:Str×Addr},p∈cE cells l cs->p∈cs\/((p.1,NameKind.free)∈l/\p.2=(cells.lookup p.1).getD 0)
 | [],cs,p,h=>.inl h
 | (n,k)::l,cs,p,h=>by
  unfold cE at h
  split at h
  ·rename_i q
   rcases ly h with h | ⟨h,e⟩
   ·rcases List.mem_cons.mp h with rfl | h
    ·rw [beq_iff_eq] at q
     exact .inr ⟨by rw [q];exact .head _,rfl⟩
    ·exact .inl h
   ·exact .inr ⟨.tail _ h,e⟩
  ·rcases ly h with h | ⟨h,e⟩
   ·exact .inl h
   ·exact .inr ⟨.tail _ h,e⟩
theorem lU {cells:List (Str×Addr)} {x:Str}:∀{l:List (Str×NameKind)} {cs:List (Str×Addr)},((x,NameKind.free)∈l\/∃a,(x,a)∈cs)->∃a,(x,a)∈cE cells l cs
 | [],cs,h=>h.elim (fun h=>by exact fx h) id
 | (n,k)::l,cs,h=>by
  unfold cE
  split
  ·rename_i q
   refine lU ?_
   rcases h with h | ⟨a,h⟩
   ·rcases List.mem_cons.mp h with h | h
    ·cases h;exact .inr ⟨_,.head _⟩
    ·exact .inl h
   ·exact .inr ⟨a,.tail _ h⟩
  ·rename_i q
   refine lU ?_
   rcases h with h | h
   ·rcases List.mem_cons.mp h with h | h
    ·cases h;exact absurd rfl q
    ·exact .inl h
   ·exact .inr h
theorem gD {cells:List (Str×Addr)}:∀{l:List (Str×NameKind)} {cs:List (Str×Addr)},(l.map (·.1)).Nodup->(cs.map (·.1)).Nodup->(∀x∈l,x.1∉cs.map (·.1))->((cE cells l cs).map (·.1)).Nodup
 | [],cs,_,h,_=>h
 | (n,k)::l,cs,h1,h2,h3=>by
  have h1':=List.nodup_cons.mp (show (n::l.map (·.1)).Nodup from h1)
  unfold cE
  split
  ·refine gD h1'.2 (List.nodup_cons.mpr ⟨h3 _ (.head _),h2⟩) fun x hx m=>?_
   rcases List.mem_cons.mp m with e | m
   ·have e':x.1=n:=e
    exact h1'.1 (e'▸List.mem_map_of_mem (f:=(·.1)) hx)
   ·exact h3 x (.tail _ hx) m
  ·exact gD h1'.2 h2 fun x hx=>h3 x (.tail _ hx)
theorem bQ {x:Str} {k:NameKind}:∀{l:List (Str×NameKind)},(l.map (·.1)).Nodup->(x,k)∈l->l.lookup x=some k
 | (y,b)::r,nd,h=>by
  have nd':=List.nodup_cons.mp (show (y::r.map (·.1)).Nodup from nd)
  rcases List.mem_cons.mp h with h | h
  ·cases h;simp
  ·have:(x==y)=false:=beq_eq_false_iff_ne.mpr fun q=>nd'.1 (q▸List.mem_map_of_mem (f:=(·.1)) h)
   rw [List.lookup_cons,this]
   exact bQ nd'.2 h
theorem bR {env:Env} (hk:env.scope.kind=.function) {x:Str} (hx:env.kindOf x=some .cell):∀{names:List (Str×NameKind)},names.lookup x=some .free->
  (names.map fun (n,k)=>if (k==NameKind.free&&env.scope.kind==.function&&env.kindOf n==some .cell) then (n,NameKind.cell) else (n,k)).lookup x=some .cell
 | [],h=>by simp at h
 | (n,k)::r,h=>by
  have ih:=@bR env hk x hx r
  show List.lookup x ((if (k==NameKind.free&&env.scope.kind==.function&&env.kindOf n==some .cell)=true then (n,NameKind.cell) else (n,k))::_)=_
  cases q:x==n with
  | true=>
   simp only [List.lookup_cons,q] at h
   cases h
   cases beq_iff_eq.mp q
   simp [hk,hx]
  | false=>
   simp only [List.lookup_cons,q] at h
   by_cases hc:(k==NameKind.free&&env.scope.kind==.function&&env.kindOf n==some .cell)=true
   ·rw [if_pos hc];simp only [List.lookup_cons,q];exact ih h
   ·rw [if_neg hc];simp only [List.lookup_cons,q];exact ih h
structure CompOk (c:Cx) (scope:Scope) (tn:List Str) (fi:List Nat):Prop where
 full:c.Full
 kind:scope.kind=.function
 keys:(scope.names.map (·.1)).Nodup
 cell:∀y∈scope.names,y.2≠.cell
 free:∀x,(x,NameKind.free)∈scope.names->x∈c.names/\c.env.kindOf x=some .cell
 tns:∀x∈tn,(x,NameKind.local)∈scope.names/\(x==("__debug__":Str))=false
 fis:∀i∈fi,∃x,c.names[i]? = some x/\(x,NameKind.free)∈scope.names
 nd:(tn++fi.filterMap (c.names[·]?)).Nodup
noncomputable def q8 (c:Cx) (fi:List Nat):List Str:=fi.filterMap (c.names[·]?)
noncomputable abbrev cr (c:Cx) (scope:Scope) (C:Addr):Env:=compEnvC scope (cE c.env.cells scope.names []) C c.env
theorem CompOk.look {c:Cx} {scope:Scope} {tn:List Str} {fi:List Nat} (x:CompOk c scope tn fi) {n:Str} (h:(n,NameKind.free)∈scope.names):∃a,c.env.cells.lookup n=some a:=by
 obtain ⟨h1,h2⟩:=x.free n h
 rcases (c.lk n h1).2 with q | ⟨_,a,e⟩
 ·rw [h2] at q;exact nomatch q
 ·exact ⟨a,e⟩
theorem CompOk.cells {c:Cx} {scope:Scope} {tn:List Str} {fi:List Nat} (x:CompOk c scope tn fi) {p:Str×Addr} (h:p∈cE c.env.cells scope.names []):(p.1,NameKind.free)∈scope.names/\c.env.cells.lookup p.1=some p.2:=by
 rcases ly h with h | ⟨h,e⟩
 ·exact fx h
 ·obtain ⟨a,ha⟩:=x.look h
  exact ⟨h,by rw [e,ha];rfl⟩
theorem CompOk.at {c:Cx} {scope:Scope} {tn:List Str} {fi:List Nat} (x:CompOk c scope tn fi) {n:Str} (h:(n,NameKind.free)∈scope.names):(cE c.env.cells scope.names []).lookup n=c.env.cells.lookup n:=by
 obtain ⟨a,ha⟩:=lU (cells:=c.env.cells) (cs:=[]) (.inl h)
 have nd:=gD (cells:=c.env.cells) (cs:=[]) x.keys .nil (fun _ _ m=>by exact fx m)
 rw [ds nd ha,(x.cells ha).2]
theorem mG {c:Cx} (hF:c.Full) {x:Str} {a:Addr} (h:c.env.cells.lookup x=some a):a∈aE (c.fenv::c.outer):=by
 rw [hF.env]
 exact List.mem_append_left _ (List.mem_append_right _ (List.mem_map_of_mem (f:=(·.2)) (mem_of_lookup h)))
noncomputable def aT (c:Cx) {scope:Scope} {tn:List Str} {fi:List Nat} (x:CompOk c scope tn fi) (C:Addr) (hC:C∉aE (c.fenv::c.outer)):Cx where
 w:=c.w
 A:=c.A
 env:=cr c scope C
 fenv:=c.fenv
 outer:=c.outer
 g:=c.g
 d:=c.d
 os:=c.os
 n:=c.n
 names:=tn++q8 c fi
 own:=[C]
 rest:=aE (c.fenv::c.outer)
 afr:=c.afr
 kind:=x.kind
 frame:=c.frame
 fframe:=c.fframe
 egl:=c.egl
 ebl:=c.ebl
 lk:=fun n hn=>by
  rcases List.mem_append.mp hn with hn | hn
  ·obtain ⟨h1,h2⟩:=x.tns n hn
   exact ⟨h2,.inl (lookup_relabel_local (bQ x.keys h1))⟩
  ·obtain ⟨i,hi,e⟩:=List.mem_filterMap.mp hn
   obtain ⟨n',e',h⟩:=x.fis i hi
   rw [e] at e'
   cases e'
   obtain ⟨f1,f2⟩:=x.free n h
   refine ⟨(c.lk n f1).1,.inr ⟨bR c.kind f2 (bQ x.keys h),?_⟩⟩
   obtain ⟨a,ha⟩:=x.look h
   exact ⟨a,(x.at h).trans ha⟩
 nd:=x.nd
 room:=c.room
 units:=c.units
 apart:=by
  have nd:=gD (cells:=c.env.cells) (cs:=[]) x.keys .nil (fun _ _ m=>by cases m)
  rw [List.Nodup,List.pairwise_map] at nd
  refine List.Pairwise.imp_of_mem (fun {p q} hp hq h e=>?_) nd
  exact h (name_of_addr c.apart (mem_of_lookup (x.cells hp).2) (by rw [e];exact mem_of_lookup (x.cells hq).2))
 above:=fun n a m e=>hC (by
  have:=(x.cells m).2
  rw [<-show a=C from e]
  exact mG x.full this)
 L_own:=.head _
 cells_in:=fun y a e=>.inr (mG x.full (x.cells (mem_of_lookup e)).2)
 cover:=fun b m=>.inr m
 rest_fr:=fun b m=>m
 fresh:=fun b m q=>hC (by rw [<-List.mem_singleton.mp m];exact q)
theorem gj {α β:Type} {f:α->Option β}:∀{l:List α} {j:Nat},(∀i∈l,(f i).isSome=true)->(l.filterMap f)[j]? = (l[j]?).bind f
 | [],j,_=>rfl
 | x::l,j,h=>by
  obtain ⟨b,hb⟩:=Option.isSome_iff_exists.mp (h x (.head _))
  rw [List.filterMap_cons,hb]
  cases j with
  | zero=>simp [hb]
  | succ j=>simpa using gj (j:=j) fun i hi=>h i (.tail _ hi)
noncomputable def fu (tn:List Str) (fi:List Nat) (γ:Lo):Lo:=tn.map (fun _=>none)++fi.map fun i=>(γ[i]?).join
section
variable {c:Cx} {scope:Scope} {tn:List Str} {fi:List Nat} {ρ ρ' ρ₀:Pl} {γ γ':Lo} {st st':ai} {h h' h₀:Heap} {C:Addr}
theorem Ok.comp (x:CompOk c scope tn fi) (ok:Ok c ρ γ st h) (hC:C∉aE (c.fenv::c.outer)) (hCv:C∉ρ.vis) (hCm:(MH c.w).get? C=none) (hns:h.Ns C fun _=>none):Ok (aT c x C hC) ρ (fu tn fi γ) st h:=by
 obtain ⟨m,hm,hl⟩:=ok.loc
 have frlen:(q8 c fi).length=fi.length:=by
  unfold q8
  have:∀i∈fi,(c.names[i]?).isSome=true:=fun i hi=>by obtain ⟨n,e,_⟩:=x.fis i hi;rw [e];rfl
  clear hl hm ok
  revert this
  generalize fi=l
  intro this
  induction l with
  | nil=>rfl
  | cons a l ih=>
   obtain ⟨b,hb⟩:=Option.isSome_iff_exists.mp (this a (.head _))
   rw [List.filterMap_cons,hb]
   simp [ih fun i hi=>this i (.tail _ hi)]
 refine ⟨by show (fu tn fi γ).length=(tn++q8 c fi).length;simp [fu,frlen],⟨_,hns,fun j n r h1 h2=>?_⟩,fun y a e=>?_,⟨ok.sto.len,ok.sto.nd,fun a m=>⟨fun q=>?_,(ok.sto.off a m).2⟩,ok.sto.reps,ok.sto.hid⟩,ok.mod,ok.ff,fun b hb=>?_,ok.hnd⟩
 ·have h1':(tn++q8 c fi)[j]? = some n:=h1
  by_cases q:j<tn.length
  ·unfold fu at h2
   rw [List.getElem?_append_left (by simpa using q),List.getElem?_map] at h2
   obtain ⟨_,_,e⟩:=Option.map_eq_some_iff.mp h2
   cases e
  ·rw [List.getElem?_append_right (by lia)] at h1'
   unfold fu at h2
   rw [List.getElem?_append_right (by simp;lia),List.getElem?_map] at h2
   simp only [List.length_map] at h2
   obtain ⟨i,e1,e2⟩:=Option.map_eq_some_iff.mp h2
   unfold q8 at h1'
   rw [gj (fun i hi=>by obtain ⟨n,e,_⟩:=x.fis i hi;rw [e];rfl),e1] at h1'
   have h1'':c.names[i]? = some n:=h1'
   have e2':γ[i]? = some (some r):=by
    cases q:γ[i]? with
    | none=>rw [q] at e2;cases e2
    | some z=>rw [q] at e2;simp at e2;rw [e2]
   obtain ⟨v,hv,y⟩:=hl i n r h1'' e2'
   obtain ⟨n',e',hfr⟩:=x.fis i (List.mem_of_getElem? e1)
   rw [h1''] at e'
   cases e'
   refine ⟨v,.inr ⟨bR c.kind (x.free n hfr).2 (bQ x.keys hfr),?_⟩,y⟩
   rcases hv with ⟨k,_⟩ | ⟨_,a,ha,hc⟩
   ·rw [(x.free n hfr).2] at k;cases k
   ·exact ⟨a,(x.at hfr).trans ha,hc⟩
 ·exact ok.cel y a (x.cells (mem_of_lookup e)).2
 ·rcases List.mem_append.mp q with q | q
  ·rw [List.mem_singleton.mp q] at m;exact hCv m
  ·exact (c.cover a q).elim (ok.off_own m) (ok.off_rest m)
 ·rw [List.mem_singleton.mp hb]
  obtain ⟨o,es,ep,e,d,_⟩:=hns
  exact ⟨hCm,o,e,.dict d⟩
theorem Ok.uncomp {x:CompOk c scope tn fi} {hC:C∉aE (c.fenv::c.outer)} {γQ:Lo} (ok₀:Ok c ρ₀ γ st h₀) (ok:Ok (aT c x C hC) ρ γQ st' h) (sp:Step [C] (aE (c.fenv::c.outer)) ρ₀ h₀ ρ h) (hC0:h₀.get? C=none):Ok c ρ γ st' h/\c.Step ρ₀ h₀ ρ h:=by
 refine ok₀.back ⟨sp.pre,fun b o s _ n e=>sp.keep b o s (fun m=>?_) n e,sp.seqs,sp.outs,sp.alive⟩ ok.mod ok.ff ⟨ok.sto.len,ok.sto.nd,fun a m=>⟨fun q=>(ok.sto.off a m).1 (List.mem_append_right _ q),(ok.sto.off a m).2⟩,ok.sto.reps,ok.sto.hid⟩
 rw [List.mem_singleton.mp m,hC0] at e;exact cH e
theorem Ok.aside (ok:Ok c ρ γ st h) (hC:C∉aE (c.fenv::c.outer)) (hCo:C∉c.own) (hCv:C∉ρ.vis) (hCm:(MH c.w).get? C=none) (hd:∃o,h.get? C=some o/\Dull o) (hs:∀b o,b≠C->h.get? b=some o->h'.get? b=some o):Ok c ρ γ st h':=by
 obtain ⟨oC,eC,dC⟩:=hd
 have fr:∀b,(b∈c.own\/b∈c.rest)->∀o,h.get? b=some o->h'.get? b=some o:=fun b hb o e=>hs b o (fun q=>hb.elim (fun m=>hCo (q▸m)) fun m=>hC (q▸c.rest_fr b m)) e
 have ks:∀a o,Off ρ a->h.get? a=some o->be o->Off ρ a/\h'.get? a=some o:=fun a o f e q=>⟨f,hs a o (fun z=>by rw [z,eC] at e;cases e;exact dC.2 q) e⟩
 obtain ⟨m,hn,hl⟩:=ok.loc
 refine ⟨ok.keys,⟨m,?_,hl.mono (fun y=>y.mono Pre.refl.1 ks) fun x a e v z=>IsCell.at z fun o e'=>fr _ (c.cells_in _ _ e) o e'⟩,fun x a e=>let ⟨cv,z⟩:=ok.cel x a e;⟨cv,IsCell.at z fun o e'=>fr _ (c.cells_in _ _ e) o e'⟩,
  ok.sto.mono ks (fun a m o e=>hs a o (fun q=>hCv (q▸m)) e) (fun b o m e=>?_),fun b o e=>hs b o (fun q=>by rw [q,hCm] at e;cases e) (ok.mod b o e),ok.ff.mono fun b hb o e d=>⟨o,fr b (c.cover b hb) o e,d⟩,fun b hb=>?_,fun v hv=>?_⟩
 ·obtain ⟨o,es,ep,e,r⟩:=hn
  exact ⟨o,es,ep,fr _ (.inl c.L_own) _ e,r⟩
 ·obtain ⟨_,_,o',e',q⟩:=ok.sto.hid b m
  rw [e] at e';cases e'
  exact hs b o (fun z=>by rw [z,eC] at e;cases e;exact dC.2 q) e
 ·obtain ⟨a1,o,e,d⟩:=ok.own b hb
  exact ⟨a1,o,fr b (.inl hb) o e,d⟩
 ·obtain ⟨a,oe,vs,e1,e2,e3,e4,e5⟩:=ok.hnd v hv
  exact ⟨a,oe,vs,e1,e2,hs a oe (fun q=>by rw [q,eC] at e3;cases e3;exact dC.1 _ e4) e3,e4,e5⟩
end
noncomputable def bw (T:Tg) (ef:Lo->ai->Option (Out RV)):List RV->Lo->ai->Option (Out (List RV))
 | [],_,st=>some (.ok [] st)
 | r::l,γ,st=>(T.put r γ).bind fun γQ=>aq (ef γQ st) fun x st₁=>aq (bw T ef l γQ st₁) fun xs st₂=>some (.ok (x::xs) st₂)
theorem Wk.more {w:World} {A:Around} {I:Addr} {fp wr hs:List Addr} {n:Nat} {target:Expr} {P:Nat->Heap->Heap->Value->Prop} {St:Nat->Heap->Prop} {D:Addr} (W:Wk w A I fp wr hs n target P St) (hD:D∉wr):Wk w A I fp wr (D::hs) n target P St:=
 ⟨W.sub,W.frame,W.item,W.done,W.self,fun i h st z hz=>(W.kind i h st z hz).elim (fun y=>.inl ⟨.tail _ y.1,y.2⟩) fun y=>.inr ⟨fun m'=>(List.mem_cons.mp m').elim (fun e=>hD (e▸hz)) y.1,y.2⟩⟩
section
variable {c:Cx} {scope:Scope} {tn:List Str} {fi:List Nat} {ρ ρ' ρ₀:Pl} {γ γ':Lo} {st st' stJ:ai} {h h' h₀:Heap} {C D I:Addr} {fp wr hs:List Addr} {n k:Nat} {target:Expr} {P:Nat->Heap->Heap->Value->Prop} {St:Nat->Heap->Prop} {K:Pl->Heap->Prop}
theorem sY {x:CompOk c scope tn fi} {hC:C∉aE (c.fenv::c.outer)} (ok₀:Ok c ρ₀ γ stJ h₀) (hC0:h₀.get? C=none) {use:Option (Value->Sem Unit)} {Q:Value->Shared->Prop} {acc:Value} {X:Str->Lo->ai->Prop} {e:Addr} {kk:Str} {fl:Value} {γQ γJ:Lo} {st₁:ai} {t':Nat}
  (l:LoopAt (aT c x C hC) fp hs St K ρ₀ h₀ k ρ γQ st₁ h) (hhs:∀b∈hs,h₀.get? b=none) (sp:(aT c x C hC).Step ρ h ρ' h') (ok':Ok (aT c x C hC) ρ' γJ st' h') (hfl:fl=.none\/fl=rawInt c.fenv.locals) (ex:Exc ρ' h h' e kk fl) (hX:X kk γ st') :
  notedBy (model pw c.w) c.A (cr c scope C) (fun e s'=>cM (model pw c.w) c.A (EW c ρ₀ h₀ X) use Q acc (cr c scope C) (.error e) s') (.ref e) ⟨h',c.g,c.d,t',c.os⟩:=by
 unfold notedBy
 rw [ej (env':=c.fenv) (show (cr c scope C).frame=c.fenv.frame from c.frame.trans c.fframe.symm)]
 refine noted_here (c:=aT c x C hC) c.afr rfl l.ok sp ok' hfl ex fun h₂ T d x₂=>?_
 have key:∃m,h₂.Ns C m/\∀h₃,Heap.SameBut C h₂ h₃->wpAny (model pw c.w) c.A (PySem.passOn "comprehension.variables-let-go" (.ref e) (cr c scope C):Sem Value) (fun _ _=>False) (EW c ρ₀ h₀ X) ⟨h₃,c.g,c.d,t',c.os⟩:=by
  obtain ⟨ok₂,sp₂,t₂,code₂,n1,n2,n3,r1,r2,r3⟩:=x₂
  obtain ⟨m,hm,_⟩:=ok₂.loc
  refine ⟨m,hm,fun h₃ hs₃=>?_⟩
  obtain ⟨s1,s2⟩:=l.step.inner sp₂ l.hid hhs
  obtain ⟨okc,spc⟩:=ok₀.uncomp (ok₂.unhide s2) s1 hC0
  have Cdull:∃o,h₂.get? C=some o/\Dull o:=(ok₂.own C (.head _)).2
  have keep3:∀b o,b≠C->h₂.get? b=some o->h₃.get? b=some o:=fun b o hb eb=>(hs₃.2 b hb).trans eb
  have Cown:C∉c.own:=fun m=>(ok₀.own C m).2.elim fun o y=>aP (hC0.symm.trans y.1)
  have ok₃:Ok c (ρ'.out ρ₀.hid) γ st' h₃:=okc.aside hC Cown (fun m=>ok₂.off_own m (.head _)) (ok₀.mh_free hC0) Cdull keep3
  have sp₃:c.Step ρ₀ h₀ (ρ'.out ρ₀.hid) h₃:=spc.poke (ws:=[C]) (cI hC0 dX) fun b o m eb=>keep3 b o (fun q=>m (q▸.head _)) eb
  obtain ⟨oe,vs,oT,ts,g1,g2,g3,g4,g5,g6,g7,g8,g9,g10⟩:=t₂
  have e3:=keep3 e oe (fun q=>Dull.not g1 g4 (q▸Cdull)) g1
  have dC:d≠C:=fun q=>(l.ok.own C (.head _)).2.elim fun o y=>aP (n3.symm.trans ((congrArg h.get? q).trans y.1))
  have old:∀b,h.get? b=none->h₀.get? b=none:=fun b eb=>l.step.old eb
  have x₃:Held c ρ₀ h₀ (ρ'.out ρ₀.hid) γ st' e kk T d (rawInt c.fenv.locals) h₃:=⟨ok₃,sp₃,⟨oe,vs,oT,ts,e3,g2,g3,g4,g5,g6,g7,keep3 T oT (fun q=>Dull.not g8 g9 (q▸Cdull)) g8,g9,g10⟩,code₂.slots fun o eo=>⟨o.slots,keep3 d o dC eo⟩,old _ n1,old _ n2,old _ n3,r1,r2,r3⟩
  unfold PySem.passOn
  refine wpAny_bind (wpAny_field e3 g4 g5 (fX (show ¬ (Value.ref T==Value.none)=true from Bool.false_ne_true) (wpAny_bind (x₃.flight (fr:=(cr c scope C).frame) ok₀ fun h₄ t₄=>?_))))
  obtain ⟨ok₄,sp₄,t₄,code₄,n1,n2,n3,r1,r2,r3⟩:=t₄
  rw [show (cr c scope C).frame=some c.fenv.locals from c.frame] at t₄
  exact wpAny_throw ⟨h₄,t',ρ'.out ρ₀.hid,γ,st',e,kk,rawInt c.fenv.locals,sp₄,ok₄,.inr rfl,⟨T,d,.inl t₄,code₄,n1,n2,n3,r1,r2,r3⟩,hX⟩
 cases use <;> exact key
end
section
variable {c:Cx} {scope:Scope} {tn:List Str} {fi:List Nat} {ρ ρ' ρ₀:Pl} {γ γ':Lo} {st st' stJ:ai} {h h' h₀:Heap} {C D I:Addr} {fp wr hs:List Addr} {n k:Nat} {target:Expr} {P:Nat->Heap->Heap->Value->Prop} {St:Nat->Heap->Prop} {K:Pl->Heap->Prop}
theorem LoopAt.put {c:Cx} (W:Wk c.w c.A I fp wr hs n target P St) (hK:ia K) (b₀:Base c.w c.A ρ₀ h₀) (x:LoopAt c fp hs St K ρ₀ h₀ k ρ γ st h) (hD:D∈hs) (hD0:h₀.get? D=none) (hDf:D∉fp)
  (hk:∀b o,b≠D->h.get? b=some o->h'.get? b=some o) (hn:∃o,h'.get? D=some o/\be o):LoopAt c fp hs St K ρ₀ h₀ k ρ γ st h'/\Up ρ h ρ h':=by
 have hDh:D∈ρ.hid:=by rw [x.hid];exact List.mem_append_left _ hD
 have keep:∀b o,b∉[D]->h.get? b=some o->h'.get? b=some o:=fun b o m e=>hk b o (fun q=>m (q▸.head _)) e
 have rp:Up ρ h ρ h':=fun r v y=>y.mono Pre.refl.1 fun a o f e q=>⟨f,hk a o (fun z=>f.2 (z▸hDh)) e⟩
 obtain ⟨n1,n2,_⟩:=x.ok.sto.hid D hDh
 refine ⟨⟨x.step.poke (ws:=[D]) (cI hD0 dX) keep,x.hid,?_,W.frame _ _ _ x.at_ fun b hb o e=>hk b o (fun q=>hDf (q▸hb)) e,hK _ _ _ _ x.vals rp,fun b hb=>?_⟩,rp⟩
 ·refine x.ok.poke (H:=ρ.hid) (ws:=[D]) (fun b m=>m) (cI ⟨n1,n2,fun v hv e=>?_,.inl hDh⟩ dX) keep (cI (fun _=>hn) dX)
  obtain ⟨a,o,e1,e2⟩:=b₀.hnd v hv
  exact aP (hD0.symm.trans ((congrArg h₀.get? (Value.ref.inj (e1.symm.trans e)).symm).trans e2))
 ·obtain ⟨m1,o,e,nd⟩:=x.foot b hb
  exact ⟨m1,o,hk b o (fun q=>hDf (q▸hb)) e,nd⟩
theorem gr {M:Model} {A:Around} {E E':Value->Shared->Prop} {use:Option (Value->Sem Unit)} {Q:Value->Shared->Prop} {acc:Value} {cenv:Env} {r:Result} {s':Shared} (x:cM M A E use Q acc cenv r s') (k:∀e s,E e s->E' e s):cM M A E' use Q acc cenv r s':=by
 cases r with
 | ok f=>
  cases use with
  | none=>exact x
  | some u=>exact wpAny_mono x (fun _ _ q=>q) k
 | error e=>
  have x':∃m,s'.heap.Ns cenv.locals m/\∀h',Heap.SameBut cenv.locals s'.heap h'->wpAny M A (PySem.passOn "comprehension.variables-let-go" e cenv:Sem Value) (fun _ _=>False) E { s' with heap:=h' }:=by cases use <;> exact x
  obtain ⟨m,hm,q⟩:=x'
  have y:∃m,s'.heap.Ns cenv.locals m/\∀h',Heap.SameBut cenv.locals s'.heap h'->wpAny M A (PySem.passOn "comprehension.variables-let-go" e cenv:Sem Value) (fun _ _=>False) E' { s' with heap:=h' }:=⟨m,hm,fun h' hs=>wpAny_mono (q h' hs) (fun _ _ q=>q) k⟩
  cases use <;> exact y
theorem bnd_assoc {α β δ:Type} {x:Option (Out α)} {f:α->ai->Option (Out β)} {g:β->ai->Option (Out δ)}:aq (aq x f) g=aq x fun a s=>aq (f a s) g:=by
 cases x with
 | none=>rfl
 | some o=>cases o <;> rfl
noncomputable def pre (done xs:List RV) (st:ai):Option (Out (List RV)):=some (.ok (done++xs) st)
theorem pre_next {done:List RV} {r:RV} {x:Option (Out (List RV))}:aq (aq x fun xs st=>some (.ok (r::xs) st)) (pre done)=aq x (pre (done++[r])):=by
 cases x with
 | none=>rfl
 | some o=>cases o with
  | ok a s=>exact congrArg (fun l=>some (Out.ok l s)) (List.append_assoc done [r] a).symm
  | exc k s=>rfl
theorem pre_nil {x:Option (Out (List RV))}:aq x (pre [])=x:=by
 cases x with
 | none=>rfl
 | some o=>cases o <;> rfl
theorem og {T:Tg} {ef:Lo->ai->Option (Out RV)} {r:RV} {l:List RV} {K:List RV->ai->Option (Out (List RV))} {o:Out (List RV)} (hm:aq (bw T ef (r::l) γ st) K=some o) :
  ∃γQ,T.put r γ=some γQ/\aq (ef γQ st) (fun x st₁=>aq (aq (bw T ef l γQ st₁) fun xs st₂=>some (.ok (x::xs) st₂)) K)=some o:=by
 have hm:aq ((T.put r γ).bind fun γQ=>aq (ef γQ st) fun x st₁=>aq (bw T ef l γQ st₁) fun xs st₂=>some (.ok (x::xs) st₂)) K=some o:=hm
 cases q:T.put r γ with
 | none=>rw [q] at hm;exact aP hm
 | some γQ=>rw [q] at hm;exact ⟨γQ,rfl,bnd_assoc.symm.trans hm⟩
inductive CI (c:Cx) (fp hs:List Addr) (St:Nat->Heap->Prop) (K:Pl->Heap->Prop) (ρ₀:Pl) (h₀:Heap) (n:Nat) (D:Addr) (F:Nat->Lo->ai->List RV->Prop):Nat->Shared->Prop
 | mk (k:Nat) (h:Heap) (t:Nat) (ρ:Pl) (γ:Lo) (st:ai) (acc:Array Value) (done:List RV) (le:k<=n) (x:LoopAt c fp hs St K ρ₀ h₀ k ρ γ st h) (a:h.PlainList D acc) (y:RepL ρ h done acc.toList) (e:done.length=k) (f:F k γ st done):CI c fp hs St K ρ₀ h₀ n D F (n-k) ⟨h,c.g,c.d,t,c.os⟩
theorem LoopAt.mine {c:Cx} {acc:Array Value} (x:LoopAt c fp (D::hs) St K ρ₀ h₀ k ρ γ st h) (sp:c.Step ρ h ρ' h') (hp:h.PlainList D acc):h'.PlainList D acc:=by
 obtain ⟨nn,e⟩:=hp
 obtain ⟨q1,q2,o1,q3,q4⟩:=x.ok.sto.hid D (by rw [x.hid];exact .head _)
 have nd:¬ ∃o,h.get? D=some o/\Dull o:=fun y=>by
  obtain ⟨o,e',d⟩:=y
  exact d.2 (Option.some.inj (q3.symm.trans e')▸q4)
 exact ⟨nn,(sp.keep D _ q1 (fun m=>nd (x.ok.own D m).2) (fun m=>nd (x.ok.ff.at_ D (c.rest_fr D m)).2) e).1⟩
theorem qF (x:CompOk c scope tn fi) (hC:C∉aE (c.fenv::c.outer)) (ok₀:Ok c ρ₀ γ stJ h₀) (hC0:h₀.get? C=none) (hD0:h₀.get? D=none) (W:Wk c.w c.A I fp wr hs n target P St) {T:Tg} {elt iter:Expr} {sc:Scope} {pos:Pos} {ef:Lo->ai->Option (Out RV)} {l:List RV} {o:Out (List RV)}
  {use:Option (Value->Sem Unit)} {Q:Value->Shared->Prop} {X:Str->Lo->ai->Prop} {E:Value->Shared->Prop} (hE:∀e s,EW c ρ₀ h₀ X e s->E e s)
  (hT:T.isT (tn++q8 c fi) target=true) (hl:l.length=n) (hwr:∀z∈wr,h₀.get? z=none) (hhs:∀z∈hs,z∈wr)
  (hK:ia K) (hP:Gives P K l) (hlen:l.length<16777216)
  (he:∀γ st o,ef γ st=some o->EvR (aT c x C hC) γ st elt o) {tk:Nat} {γQ:Lo} (x₀:LoopAt (aT c x C hC) fp (D::hs) St K ρ₀ h₀ 0 ρ γQ st h) (hDl:h.PlainList D #[]) (hDw:D∉wr) (hDf:D∉fp)
  (hm:bw T ef l γQ st=some o) (hX:∀k st',o=.exc k st'->X k γ st')
  (hR:∀xs st' ρ' h' t',o=.ok xs st'->Ok c ρ' γ st' h'->c.Step ρ₀ h₀ ρ' h'->Rep ρ' h' (.lst xs) (.ref D)->(∃m,h'.Ns C m)->C∉ρ'.vis->cM (model pw c.w) c.A E use Q (.ref D) (cr c scope C) (.ok .next) ⟨h',c.g,c.d,t',c.os⟩)
  (hTn:∀i∈T.idx,i<tn.length) :
  codeAny (model pw c.w) c.A (.compLoop (.ListComp elt [⟨target,iter,[],0⟩] sc pos) 0 (.ref I) (.ref D) (cr c scope C)) (cM (model pw c.w) c.A E use Q (.ref D) (cr c scope C)) ⟨h,c.g,c.d,tk,c.os⟩:=by
 have hhs0:∀b∈D::hs,h₀.get? b=none:=cI hD0 fun b m=>hwr b (hhs b m)
 have WD:Wk (aT c x C hC).w (aT c x C hC).A I fp wr (D::hs) n target P St:=W.more hDw
 have bs:Base (aT c x C hC).w (aT c x C hC).A ρ₀ h₀:=ok₀.base
 have hF:∀i∈T.idx,∀y,(aT c x C hC).names[i]? = some y->(aT c x C hC).env.kindOf y=some .local\/(aT c x C hC).Full:=fun i hi y e=>
  .inl (lookup_relabel_local (bQ x.keys (x.tns y (List.mem_of_getElem? ((List.getElem?_append_left (hTn i hi)).symm.trans e))).1))
 refine oO (CI (aT c x C hC) fp (D::hs) St K ρ₀ h₀ n D fun k γ st done=>aq (bw T ef (l.drop k) γ st) (pre done)=some o) (fun m s hI=>?_) n (.mk 0 h tk ρ γQ st #[] [] (Nat.zero_le _) x₀ hDl .nil rfl (pre_nil.trans hm))
 obtain ⟨k,h,t,ρ,γQ,st,acc,done,hkn,l₁,hacc,hdone,hdl,hm⟩:=hI
 rcases Nat.lt_or_eq_of_le hkn with hlt | hk'
 ·have hlk:k<l.length:=hl▸hlt
  rw [List.drop_eq_getElem_cons hlk] at hm
  obtain ⟨γJ,hput,hm⟩:=og hm
  refine wpAny_mono (WD.item k ⟨h,c.g,c.d,t,c.os⟩ (xO (aT c x C hC) P St wr k h) _ hlt l₁.at_ fun v h' tk' hp hst hk=>⟨h',tk',hp,hst,hk⟩) (fun r s₁ hr=>?_) fun _ _ z=>z
  obtain ⟨v,e,hgo⟩:=hr
  subst e
  refine wpAny_mono hgo (fun _ s₂ z=>?_) fun _ _ z=>z
  obtain ⟨h₁,tkQ,hp,hst,hk⟩:=z
  obtain ⟨l₂,rp⟩:=l₁.drawn WD hwr bs hK hk hst
  have haccQ:h₁.PlainList D acc:=hacc.imp fun nn e=>hk D _ hDw e
  refine (gM (c:=aT c x C hC) hF hT l₂.ok (hP k _ ρ h h₁ v (fun a e=>l₁.ok.free_new e) l₁.vals rp (List.getElem?_eq_getElem hlk) hp) hput).puts fun h₂ t₂ ok₂ sp₂=>?_
  have l₃:=l₂.on WD hhs0 hK sp₂ ok₂
  have haccJ:=l₂.mine sp₂ haccQ
  refine wpAny_mono (TR.seq (c:=aT c x C hC) hm (fun o e=>he _ _ o e ρ h₂ t₂ ok₂) .refl fun r₃ v₃ ρ₃ stQ h₃ t₃ hmQ ok₃ sp₃ _ y₃=>?_) (fun _ _ z=>z) fun e s' z=>?_
  ·have l₄:=l₃.on WD hhs0 hK sp₃ ok₃
   have hdone₃:RepL ρ₃ h₃ done acc.toList:=sp₃.repL (sp₂.repL (hdone.step rp))
   have hsz:acc.size=k:=hdone.length.trans hdl
   refine wpAny_list_append_plain (l₃.mine sp₃ haccJ) (fun h₅ hacc₅ hs₅=>?_) (by rw [hsz,sizeLine_eq];exact Nat.le_of_lt (Nat.lt_trans hlk hlen))
   obtain ⟨l₅,rpQ⟩:=l₄.put WD hK bs (.head _) hD0 hDf (fun b o hb e=>(hs₅.2 b hb).trans e) (hacc₅.elim fun nn e=>⟨_,e,_,_,rfl⟩)
   exact ⟨n-(k+1),Nat.sub_succ_lt_self n k hlt,k+1,h₅,t₃,ρ₃,γJ,stQ,acc.push v₃,done++[r₃],hlt,l₅,hacc₅,by rw [Array.toList_push];exact (hdone₃.step rpQ).append (.cons (rpQ _ _ y₃) .nil),by rw [List.length_append,hdl];rfl,pre_next.symm.trans hmQ⟩
  ·obtain ⟨h₃,t₃,ρ₃,γA,stQ,e,kk,fl,sp₃,ok₃,e5,e6,q⟩:=z
   exact wpAny_mono (sY (use:=use) (Q:=Q) (acc:=.ref D) ok₀ hC0 l₃ hhs0 sp₃ ok₃ e5 e6 (hX _ _ q.2)) (fun _ _ q=>gr q hE) fun _ _ q=>gr q hE
 ·subst hk'
  rw [List.drop_of_length_le (Nat.le_of_eq hl)] at hm
  have ho:Out.ok (done++[]) st=o:=Option.some.inj hm
  rw [List.append_nil] at ho
  refine WD.done ⟨h,c.g,c.d,t,c.os⟩ _ _ l₁.at_ fun h' tk' hk=>?_
  have okp:=l₁.ok.poke (h':=h') (H:=ρ₀.hid) (fun b m=>by rw [l₁.hid];exact List.mem_append_right _ m) (WD.poked hwr bs l₁) hk fun z hz m=>(bs.hid z m).elim fun o e=>aP ((hwr z hz).symm.trans e)
  obtain ⟨okc,spc⟩:=ok₀.uncomp okp (l₁.step.poke hwr hk) hC0
  obtain ⟨nn,eD⟩:=hacc
  obtain ⟨m,hmC,_⟩:=okp.loc
  have hDh:D∈ρ.hid:=by rw [l₁.hid];exact .head _
  have hp:=WD.poked hwr bs l₁
  have rpo:Up ρ h (ρ.out ρ₀.hid) h':=fun r v=>Rep.mono (ρ:=ρ) (ρ':=ρ.out ρ₀.hid) (fun i a e=>e) fun a o f e q=>⟨⟨f.1,fun m=>f.2 (by rw [l₁.hid];exact List.mem_append_right _ m)⟩,hk a o (fun z=>(hp a z).not f e q) e⟩
  have offD:Off (ρ.out ρ₀.hid) D:=⟨(l₁.ok.sto.hid D hDh).1,fun m=>(bs.hid D m).elim fun o e=>aP (hD0.symm.trans e)⟩
  exact hR done st (ρ.out ρ₀.hid) h' tk' ho.symm okc spc (.lst (vs:=acc.toList) offD ⟨_,hk D _ hDw eD,rfl,nn,rfl⟩ (hdone.step rpo)) ⟨m,hmC⟩ fun m=>l₁.ok.off_own m (.head _)
theorem jg (x:CompOk c scope tn fi) {T:Tg} {elt iter:Expr} {pos:Pos} {ef:Lo->ai->Option (Out RV)} {l:List RV} {o:Out (List RV)} {use:Option (Value->Sem Unit)} {Q:Value->Shared->Prop} {X:Str->Lo->ai->Prop} {E:Value->Shared->Prop} {tk:Nat}
  (hT:T.isT (tn++q8 c fi) target=true) (hTn:∀i∈T.idx,i<tn.length) (ok₀:Ok c ρ₀ γ stJ h₀) (S:jr c ρ₀ h₀ γ stJ target l I h) (hlen:l.length<16777216)
  (he:∀C hC γ st o,ef γ st=some o->EvR (aT c x C hC) γ st elt o) (hm:bw T ef l (fu tn fi γ) stJ=some o) (hX:∀k st',o=.exc k st'->X k γ st') (hE:∀e s,EW c ρ₀ h₀ X e s->E e s)
  (hR:∀C D xs st' ρ' h' t',o=.ok xs st'->Ok c ρ' γ st' h'->c.Step ρ₀ h₀ ρ' h'->Rep ρ' h' (.lst xs) (.ref D)->(∃m,h'.Ns C m)->C∉ρ'.vis->h₀.get? C=none->cM (model pw c.w) c.A E use Q (.ref D) (cr c scope C) (.ok .next) ⟨h',c.g,c.d,t',c.os⟩) :
  wpAny (model pw c.w) c.A (newList []) (fun acc s₃=>wpAny (model pw c.w) c.A (newFunctionEnv scope c.env.globals (cE c.env.cells scope.names []) [] c.env.qual none .none (some c.env)) (fun cenv s₄=>
   codeAny (model pw c.w) c.A (.compStart (.ListComp elt [⟨target,iter,[],0⟩] scope pos) 0 (.ref I) acc { cenv with scope:=relabel scope c.env }) (cM (model pw c.w) c.A E use Q acc { cenv with scope:=relabel scope c.env }) s₄) E s₃) E ⟨h,c.g,c.d,tk,c.os⟩:=by
 obtain ⟨fp,wr,hs,n,P,St,K,ρ',W,l₀,a1,a2,a3,a4,a5,a6,a7⟩:=S
 refine wpAny_newObj_type (hd:=by size_fits) (wpAny_newFunctionEnv x.cell dX (fun h₄ hnsQ hsb₄=>?_) x.kind)
 dsimp only at hnsQ hsb₄ ⊢
 generalize hH3:h.push { cls:=.type "list",dict:=none,data:=.seq ([]:List Value).toArray }=H3 at hnsQ hsb₄ ⊢
 have hCe:H3.objs.size=h.objs.size+1:=by rw [<-hH3,Heap.size_push]
 have hDC:h.objs.size≠H3.objs.size:=by rw [hCe];exact Nat.ne_of_lt (Nat.lt_succ_self _)
 generalize hCC:H3.objs.size=C at hnsQ hsb₄ hDC ⊢
 have hltC:∀b o,h.get? b=some o->b≠C:=fun b o e=>by
  have:=Heap.lt_size e
  rw [<-hCC,hCe]
  exact Nat.ne_of_lt (Nat.lt_succ_of_lt this)
 have keep:∀b o,h.get? b=some o->h₄.get? b=some o:=fun b o e=>hsb₄.extBut b o (hltC b o e) (Heap.get?_push_of_some _ (hH3▸Heap.get?_push_of_some _ e))
 have hDat:h₄.get? h.objs.size=some { cls:=.type "list",dict:=none,data:=.seq ([]:List Value).toArray }:=hsb₄.extBut _ _ hDC (Heap.get?_push_of_some _ (hH3▸Heap.get?_push_size _ rfl))
 have hCn:h.get? C=none:=Option.eq_none_iff_forall_ne_some.mpr fun o q=>hltC C o q rfl
 have hC0:h₀.get? C=none:=Option.eq_none_iff_forall_ne_some.mpr fun o q=>aP (hCn.symm.trans (a7 C o q))
 have hD0:h₀.get? h.objs.size=none:=Option.eq_none_iff_forall_ne_some.mpr fun o q=>Nat.lt_irrefl _ (Heap.lt_size (a7 _ o q))
 have hDn:h.get? h.objs.size=none:=Heap.new_none
 have okD:Ok c ⟨ρ'.vis,h.objs.size::ρ'.hid⟩ γ stJ h₄:=l₀.ok.hide hDn keep ⟨_,hDat,_,_,rfl⟩
 have hCfr:C∉aE (c.fenv::c.outer):=fun m=>(l₀.ok.ff.at_ C m).2.elim fun o y=>aP (hCn.symm.trans y.1)
 have hCv:C∉ρ'.vis:=l₀.ok.free_off hCn
 have okc:=okD.comp x hCfr hCv (l₀.ok.mh_free hCn) hnsQ
 have fp_ne:∀b∈fp,b≠h.objs.size:=fun b hb q=>(l₀.foot b hb).2.elim fun o y=>aP (hDn.symm.trans ((congrArg h.get? q.symm).trans y.1))
 have rp:Up ρ' h ⟨ρ'.vis,h.objs.size::ρ'.hid⟩ h₄:=fun r v=>Rep.mono (ρ:=ρ') (ρ':=⟨ρ'.vis,h.objs.size::ρ'.hid⟩) (fun i a e=>e) fun a o f e q=>⟨⟨f.1,fun m=>(List.mem_cons.mp m).elim (fun z=>aP (hDn.symm.trans ((congrArg h.get? z.symm).trans e))) f.2⟩,keep a o e⟩
 have la:LoopAt (aT c x C hCfr) fp (h.objs.size::hs) St K ρ₀ h₀ 0 ⟨ρ'.vis,h.objs.size::ρ'.hid⟩ (fu tn fi γ) stJ h₄:=by
  refine ⟨⟨⟨fun i a e=>?_,rfl⟩,fun b o s n m e=>⟨keep b o (a7 b o e),?_⟩,fun b o s q e=>⟨keep b o (a7 b o e),⟨?_,s.2⟩⟩,fun b m o e=>⟨o.slots,keep b o (a7 b o e)⟩,fun b o e=>⟨o,keep b o (a7 b o e)⟩⟩,?_,okc,W.frame _ _ _ l₀.at_ fun b _ o e=>keep b o e,a4 _ _ _ _ l₀.vals rp,fun b hb=>?_⟩
  ·exact (congrArg (·[i]?) a6).trans e
  ·exact fun q=>s (a6▸q)
  ·exact fun q=>s.1 (a6▸q)
  ·exact congrArg (List.cons _) l₀.hid
  ·obtain ⟨n1,o,e,nd⟩:=l₀.foot b hb
   exact ⟨n1,o,keep b o e,nd⟩
 have wr_ne:h.objs.size∉wr:=fun m=>fp_ne _ (W.sub _ m) rfl
 have loop:∀t,codeAny (model pw c.w) c.A (.compLoop (.ListComp elt [⟨target,iter,[],0⟩] scope pos) 0 (.ref I) (.ref h.objs.size) (cr c scope C)) (cM (model pw c.w) c.A E use Q (.ref h.objs.size) (cr c scope C)) ⟨h₄,c.g,c.d,t,c.os⟩:=fun t=>
  qF (X:=X) (use:=use) (Q:=Q) (hE:=hE) x hCfr ok₀ hC0 hD0 W hT a3 a1 a2 a4 a5 hlen (he C hCfr) la ⟨_,hDat⟩ wr_ne (fun m=>fp_ne _ m rfl) hm hX (fun xs st' ρ' h' t' e1 e2 e3 e4 e5 e6=>hR C _ xs st' ρ' h' t' e1 e2 e3 e4 e5 e6 hC0) hTn
 exact codeAny_compStart_list (loop _) (W.self 0 _ _ _ la.at_ (loop _))
end
noncomputable def ip (T:Tg) (ef:Lo->ai->Option (Out RV)) (γ0:Lo) (l:List RV) (st:ai):Option (Out RV):=
 if l.length<16777216 then aq (bw T ef l γ0 st) fun xs st₂=>some (.ok (.lst xs) st₂) else none
theorem km {T:Tg} {ef:Lo->ai->Option (Out RV)} {γ0:Lo} {l:List RV} {st:ai} {o:Out RV} (h:ip T ef γ0 l st=some o):l.length<16777216/\∃o',bw T ef l γ0 st=some o'/\(∀xs s,o'=.ok xs s->o=.ok (.lst xs) s)/\∀k s,o'=.exc k s->o=.exc k s:=by
 by_cases q:l.length<16777216
 ·obtain ⟨o',e,k1,k2⟩:=eF (P:=fun o'=>(∀xs s,o'=.ok xs s->o=.ok (.lst xs) s)/\∀k s,o'=.exc k s->o=.exc k s) ((if_pos q).symm.trans h)
   (fun a s e=>⟨fun xs s' z=>by obtain ⟨z1,z2⟩:=jN z;rw [<-z1,<-z2];exact (Option.some.inj e).symm,fun _ _ z=>eu z⟩) fun k s e=>⟨fun _ _ z=>eu z.symm,fun _ _ z=>e.trans (pj z)⟩
  exact ⟨q,o',e,k1,k2⟩
 ·exact aP ((if_neg q).symm.trans h)
section
variable {c:Cx} {scope:Scope} {tn:List Str} {fi:List Nat} {ρ ρ' ρ₀:Pl} {γ γ':Lo} {st st' stJ:ai} {h h' h₀:Heap} {C D I:Addr} {target:Expr}
theorem CompOk.names' (x:CompOk c scope tn fi):∀y∈scope.names,y.2=.local->scope.names.lookup y.1=some .local:=fun y hy e=>bQ x.keys (by rw [<-e];exact hy)
theorem CompOk.clo (x:CompOk c scope tn fi):closureFor scope c.env=pure (cE c.env.cells scope.names []):=wF fun y hy e=>x.look (by rw [<-e];exact hy)
theorem lh (ok₀:Ok c ρ₀ γ stJ h₀) (ok:Ok c ρ γ' st h) (sp:c.Step ρ₀ h₀ ρ h) {m:Str->Option Value} (hm:h.Ns C m) (hv:C∉ρ.vis) (hC0:h₀.get? C=none) (hs:Heap.SameBut C h h'):Ok c ρ γ' st h'/\c.Step ρ₀ h₀ ρ h'/\Up ρ h ρ h':=by
 obtain ⟨oC,es,ep,eC,dC,_⟩:=hm
 have keep:∀b o,b≠C->h.get? b=some o->h'.get? b=some o:=fun b o hb e=>(hs.2 b hb).trans e
 have hfr:∀b,b∈c.own\/b∈c.rest->b≠C:=fun b hb q=>(ok₀.frame_at hb).2.elim fun o y=>aP (hC0.symm.trans ((congrArg h₀.get? q.symm).trans y.1))
 exact ⟨ok.aside (C:=C) (fun m=>(c.cover C m).elim (fun m=>hfr C (.inl m) rfl) fun m=>hfr C (.inr m) rfl) (fun m=>hfr C (.inl m) rfl) hv (ok₀.mh_free hC0) ⟨oC,eC,.dict dC⟩ keep,
  sp.poke (ws:=[C]) (cI hC0 dX) fun b o m e=>keep b o (fun q=>m (q▸.head _)) e,fun r v y=>y.mono Pre.refl.1 fun a o f e q=>⟨f,keep a o (fun z=>(Dull.dict dC).2 (Option.some.inj ((congrArg h.get? z.symm).trans e |>.symm.trans eC |>.symm)▸q)) e⟩⟩
theorem EvR.comp (x:CompOk c scope tn fi) {T:Tg} {elt iter:Expr} {pos:Pos} {ef:Lo->ai->Option (Out RV)} {m:Option (Out (List RV))} {o:Out RV} (hm:aq m (ip T ef (fu tn fi γ))=some o) (it:∀o,m=some o->ItR c γ st target iter o)
  (hT:T.isT (tn++q8 c fi) target=true) (hTn:∀i∈T.idx,i<tn.length) (he:∀C hC γ st o,ef γ st=some o->EvR (aT c x C hC) γ st elt o) (hs:∀x,foldedSetIterable iter c.env x=pure x):EvR c γ st (.ListComp elt [⟨target,iter,[],0⟩] scope pos) o:=fun ρ h tk ok=>by
 obtain ⟨q,e,kq,kx⟩:=eF (P:=fun q=>(∀l s,q=.ok l s->ip T ef (fu tn fi γ) l s=some o)/\∀k s,q=.exc k s->o=.exc k s) hm
  (fun a s e=>⟨fun l s' z=>by obtain ⟨z1,z2⟩:=jN z;rw [<-z1,<-z2];exact e,fun _ _ z=>eu z⟩) fun k s e=>⟨fun _ _ z=>eu z.symm,fun _ _ z=>e.trans (pj z)⟩
 have ex:∀v s',EW c ρ h (ER q γ) v s'->EW c ρ h (ER o γ) v s':=fun v s' e=>e.mono fun k γ' st' z=>⟨z.1,kx _ _ z.2⟩
 show wpAny c.M c.A (eval (.ListComp elt [⟨target,iter,[],0⟩] scope pos) c.env) _ _ _
 rw [eval_ListComp]
 refine kt (use:=none) rfl hs x.clo x.kind x.names' (wpAny_mono (it q e ρ h tk ok) (fun v s₁ h₁=>wpAny_mono h₁ (fun it s₂ z=>?_) ex) ex)
 obtain ⟨I,h₂,t₂,ρQ,h₁,l,st₁,sp₁,ok₁,S⟩:=z
 obtain ⟨hlen,oc,hc,ho,hx⟩:=km (kq _ _ rfl)
 refine jg (X:=ER o γ) (use:=none) x hT hTn ok₁ S hlen he hc (fun k st' e=>⟨rfl,hx _ _ e⟩) (fun e s q=>q.from sp₁) fun C D xs st' ρ' h' t' e1 e2 e3 e4 e5 e6 e7=>?_
 refine e5.imp fun m hm=>⟨hm,fun h'' hs''=>?_⟩
 obtain ⟨g1,g2,g3⟩:=lh ok₁ e2 e3 hm e6 e7 hs''
 rw [ho _ _ e1]
 exact TR.ends (sp₁.trans g2) g1 (g3 _ _ e4)
theorem SX.comp (x:CompOk c scope tn fi) {T:Tg} {elt iter:Expr} {pos spos py:Pos} {ef:Lo->ai->Option (Out RV)} {y:Str} {i:Nat} {m:Option (Out (List RV))} {o:SOut} (hm:dg (aq m (ip T ef (fu tn fi γ))) γ (fun r st₁=>some (.next (γ.set i (some r)) st₁))=some o) (it:∀o,m=some o->ItR c γ st target iter o)
  (hT:T.isT (tn++q8 c fi) target=true) (hTn:∀i∈T.idx,i<tn.length) (he:∀C hC γ st o,ef γ st=some o->EvR (aT c x C hC) γ st elt o) (hs:∀x,foldedSetIterable iter c.env x=pure x)
  (hsw:swapsWith (.ListComp elt [⟨target,iter,[],0⟩] scope pos) (some (.Name y py)) spos.line c.env=pure true) (hy:c.names[i]? = some y):SX c γ st (.Assign [.Name y py] (.ListComp elt [⟨target,iter,[],0⟩] scope pos) spos) o:=fun ρ h tk ok=>by
 cases m with
 | none=>exact aP hm
 | some q=>
 have ex:∀v s',EW c ρ h (ER q γ) v s'->EW c ρ h (FX o) v s':=fun v s' e=>e.mono fun k γ' st' z=>by
  obtain ⟨z1,z2⟩:=z
  subst z2
  rw [z1]
  exact (Option.some.inj hm).symm
 show wpAny c.M c.A (exec (.Assign [.Name y py] (.ListComp elt [⟨target,iter,[],0⟩] scope pos) spos) c.env) _ _ _
 rw [exec_Assign_Name_used _ _ _ _ hsw]
 refine wpAny_bind (wpAny_standAt (wpAny_bind ?_))
 show wpAny _ c.A (do let _<-comprehension (.ListComp elt [⟨target,iter,[],0⟩] scope pos) scope c.env _ (newList []) false (eval iter c.env) (some (PySem.assign (.Name y py) c.env))) _ _ _
 refine wpAny_bind (wpAny_mono (kt (use:=some (PySem.assign (.Name y py) c.env)) (Q:=fun _ s'=>QW c ρ h (FQ c o) .next s') rfl hs x.clo x.kind x.names' (wpAny_mono (it q rfl ρ h tk ok) (fun v s₁ h₁=>wpAny_mono h₁ (fun it s₂ z=>?_) ex) ex)) (fun _ s' hq=>wpAny_pure (wpAny_pure hq)) fun _ _ e=>e)
 obtain ⟨I,h₂,t₂,ρQ,h₁,l,st₁,sp₁,ok₁,S⟩:=z
 have hm:dg (ip T ef (fu tn fi γ) l st₁) γ (fun r st₁=>some (.next (γ.set i (some r)) st₁))=some o:=hm
 cases hcv:ip T ef (fu tn fi γ) l st₁ with
 | none=>rw [hcv] at hm;exact aP hm
 | some ov=>
 rw [hcv] at hm
 obtain ⟨hlen,oc,hc,ho,hx⟩:=km hcv
 refine jg (X:=FX o) (use:=some (PySem.assign (.Name y py) c.env)) x hT hTn ok₁ S hlen he hc (fun k st' e=>?_) (fun e s q=>q.from sp₁) fun C D xs st' ρ' h' t' e1 e2 e3 e4 e5 e6 e7=>?_
 ·rw [hx _ _ e] at hm
  exact (Option.some.inj hm).symm
 ·rw [ho _ _ e1] at hm
  refine wpAny_assign_Name ((W.store e2 hy (.inr x.full) e4).put (sp₁.trans e3) fun h₂ t₂ ok₂ sp₂ sp₂'=>?_)
  have hCfr:∀b,b∈c.own\/b∈c.rest->b≠C:=fun b hb q=>(ok₁.frame_at hb).2.elim fun o y=>aP (e7.symm.trans ((congrArg _ q.symm).trans y.1))
  obtain ⟨m,oC,es,ep,eC,r⟩:=e5
  have hmQ:h₂.Ns C m:=⟨oC,es,ep,(sp₂'.keep C oC e6 (fun m=>hCfr C (.inl m) rfl) (fun m=>hCfr C (.inr m) rfl) eC).1,r⟩
  refine ⟨m,hmQ,fun h'' hs''=>?_⟩
  obtain ⟨g1,g2,g3⟩:=lh ok₁ ok₂ (e3.trans sp₂') hmQ e6 e7 hs''
  exact W.ends (sp₁.trans g2) g1 (Option.some.inj hm).symm
end
section
variable {t:Lo->ai->Option (Out Bool)} {b:Lo->ai->Option SOut}
noncomputable def kU (x:Option (Out Bool)) (b:ai->Option SOut) (γ:Lo) (f:Lo->ai->Option SOut):Option SOut:=dg x γ fun q st₁=>if q then fQ (b st₁) f else some (.next γ st₁)
theorem sP {y:Option SOut} {f:Lo->ai->Option SOut} {o:SOut} (h:fQ y f=some o):(∀g,fQ y g=some o)\/∃γ' st',f γ' st'=some o/\∀g,fQ y g=g γ' st':=by
 cases y with
 | none=>exact aP h
 | some y=>cases y with
  | next γ' st'=>exact .inr ⟨γ',st',h,fun _=>rfl⟩
  | _=>exact .inl fun _=>h
theorem jF {x:Option (Out Bool)} {b:ai->Option SOut} {γ:Lo} {f:Lo->ai->Option SOut} {o:SOut} (h:kU x b γ f=some o):(∀g,kU x b γ g=some o)\/∃γ' st',f γ' st'=some o/\∀g,kU x b γ g=g γ' st':=by
 cases x with
 | none=>exact aP h
 | some x=>cases x with
  | exc k s=>exact .inl fun _=>h
  | ok a s=>cases a with
   | false=>exact .inl fun _=>h
   | true=>exact sP (y:=b s) h
noncomputable def cV (t:Lo->ai->Option (Out Bool)) (b:Lo->ai->Option SOut):Nat->Lo->ai->Option SOut
 | 0,_,_=>none
 | n+1,γ,st=>kU (t γ st) (b γ) γ (cV t b n)
theorem mW {n:Nat} {γ:Lo} {st:ai} {o:SOut} (h:cV t b n γ st=some o):cV t b (n+1) γ st=some o:=by
 induction n generalizing γ st with
 | zero=>exact aP h
 | succ n ih=>exact (jF h).elim (fun k=>k _) fun z=>z.elim fun γ' z=>z.elim fun st' z=>(z.2 _).trans (ih z.1)
theorem kb {n m:Nat} (hnm:n<=m) {γ:Lo} {st:ai} {o:SOut} (h:cV t b n γ st=some o):cV t b m γ st=some o:=by
 induction hnm with
 | refl=>exact h
 | step _ ih=>exact mW ih
open Classical in
noncomputable def eJ (t:Lo->ai->Option (Out Bool)) (b:Lo->ai->Option SOut) (γ:Lo) (st:ai):Option SOut:=
 if h:∃n o,cV t b n γ st=some o then some h.choose_spec.choose else none
theorem hY {n:Nat} {γ:Lo} {st:ai} {o:SOut} (h:cV t b n γ st=some o):eJ t b γ st=some o:=by
 have ex:∃n o,cV t b n γ st=some o:=⟨n,o,h⟩
 unfold eJ
 rw [dif_pos ex]
 have h2:=ex.choose_spec.choose_spec
 exact (Nat.le_total n ex.choose).elim (fun q=>h2.symm.trans (kb q h)) fun q=>(kb q h2).symm.trans h
theorem hV {γ:Lo} {st:ai} {o:SOut} (h:eJ t b γ st=some o):∃n,cV t b n γ st=some o:=by
 unfold eJ at h
 by_cases ex:∃n o,cV t b n γ st=some o
 ·rw [dif_pos ex] at h
  exact ⟨_,Option.some.inj h▸ex.choose_spec.choose_spec⟩
 ·rw [dif_neg ex] at h
  exact aP h
theorem p6 (γ:Lo) (st:ai):eJ t b γ st=kU (t γ st) (b γ) γ (eJ t b):=by
 refine Option.ext fun o=>⟨fun h=>?_,fun h=>?_⟩
 ·obtain ⟨n,hn⟩:=hV h
  cases n with
  | zero=>exact aP hn
  | succ n=>exact (jF hn).elim (fun k=>k _) fun z=>z.elim fun γ' z=>z.elim fun st' z=>(z.2 _).trans (hY z.1)
 ·rcases jF h with k | ⟨γ',st',e,k⟩
  ·exact hY (n:=1) (k _)
  ·obtain ⟨n,hn⟩:=hV e
   exact hY (n:=n+1) ((k _).trans hn)
end
section
variable {c:Cx} {ρ ρ₀:Pl} {γ γ':Lo} {st:ai} {h h₀:Heap} {tk:Nat}
theorem SX.ite {test:Expr} {body orelse:List Stmt} {pos:Pos} {m:Option (Out Bool)} {f g:ai->Option SOut} {o:SOut} (hm:dg m γ (fun b st₁=>if b then f st₁ else g st₁)=some o) (x:∀o,m=some o->EtR c γ st test o)
  (y:∀st₁ o,f st₁=some o->SR c γ st₁ body o) (z:∀st₁ o,g st₁=some o->SR c γ st₁ orelse o):SX c γ st (.If test body orelse pos) o:=fun ρ h tk ok=>
 wpAny_If (SX.seq hm (fun o e=>x o e ρ h tk ok) .refl fun b b' ρQ st₁ h₁ tkQ hmJ ok₁ sp₁ _ e=>by
  subst e
  cases b with
  | true=>exact (y _ _ hmJ ρQ h₁ tkQ ok₁).from sp₁
  | false=>exact (z _ _ hmJ ρQ h₁ tkQ ok₁).from sp₁)
theorem SX.expr {e:Expr} {pos:Pos} {m:Option (Out RV)} {o:SOut} (hm:dg m γ (fun _ st₁=>some (.next γ st₁))=some o) (x:∀o,m=some o->EvR c γ st e o) (hs:swapsWith e none pos.line c.env=pure false):SX c γ st (.Expr e pos) o:=fun ρ h tk ok=>
 wpAny_Expr_any (SX.seq hm (fun o e=>x o e ρ h tk ok) .refl fun r v ρQ st₁ h₁ tkQ hmJ ok₁ sp₁ _ y=>W.ends sp₁ ok₁ (Option.some.inj hmJ).symm) (hi:=by unfold interactive;rw [c.kind];rfl) (hs:=hs)
inductive WI (c:Cx) (ρ₀:Pl) (h₀:Heap) (F:Nat->Lo->ai->Prop) (n:Nat):Shared->Prop
 | mk (h:Heap) (tk:Nat) (ρ:Pl) (γ:Lo) (st:ai) (ok:Ok c ρ γ st h) (sp:c.Step ρ₀ h₀ ρ h) (f:F n γ st):WI c ρ₀ h₀ F n ⟨h,c.g,c.d,tk,c.os⟩
theorem SX.while {test:Expr} {body:List Stmt} {pos:Pos} {t:Lo->ai->Option (Out Bool)} {b:Lo->ai->Option SOut} {o:SOut} (hm:eJ t b γ st=some o) (hF:c.Full) (x:∀γ st o,t γ st=some o->EtR c γ st test o) (y:∀γ st o,b γ st=some o->SR c γ st body o) :
  SX c γ st (.While test body [] pos) o:=fun ρ₀ h₀ tkE ok₀=>by
 have back:∀{ρ h e s'},c.Step ρ₀ h₀ ρ h->EW c ρ h (FX o) e s'->notedBy (model pw c.w) c.A c.env (cameBackBy (model pw c.w) c.A c.env (EW c ρ₀ h₀ (FX o))) e s':=fun {ρ h e s'} sp z=>by
  obtain ⟨h₃,t₃,ρ₃,γZ,stQ,e,kk,fl,sp₃,ok₃,e5,e6,q⟩:=z
  exact k8 rfl (congrArg Env.frame hF.env.symm) ok₀ (sp.trans sp₃) ok₃ e5 (e6.older sp) q
 obtain ⟨n,hn⟩:=hV hm
 refine wpAny_While (codeAny_whileLoop (WI c ρ₀ h₀ fun n γ st=>cV t b n γ st=some o) (fun n s hI=>?_) n ⟨h₀,tkE,ρ₀,γ,st,ok₀,.refl,hn⟩)
 obtain ⟨h,tk,ρ,γ,st,ok,sp,hn⟩:=hI
 cases n with
 | zero=>exact aP hn
 | succ n=>
  refine wpAny_mono (SX.seq (Qr:=fun r s₁=>_) hn (fun o e=>x _ _ o e ρ h tk ok) .refl fun r v ρQ st₁ h₁ t₁ hmJ ok₁ sp₁ _ e=>?_) (fun _ _ z=>z) fun e s' z=>back sp z
  subst e
  cases r with
  | false=>exact wpAny_execs_nil (W.ends (sp.trans sp₁) ok₁ (Option.some.inj hmJ).symm)
  | true=>
   refine SX.go hmJ (fun o e=>y _ _ o e ρQ h₁ t₁ ok₁) (fun ρ₃ γZ stQ h₃ t₃ hf sp₃ ok₃=>?_) (fun v ρ₃ γZ stQ h₃ t₃ sp₃ ok₃ q=>⟨h₃,t₃,ρ₃,γZ,stQ,(sp.trans sp₁).trans sp₃,ok₃,q⟩) fun e s' z=>back (sp.trans sp₁) z
   exact ⟨n,Nat.lt_succ_self n,h₃,t₃,ρ₃,γZ,stQ,ok₃,(sp.trans sp₁).trans sp₃,hf⟩
noncomputable def jT (op:Operator) (a b:RV):Option RV:=match op with
 | .Add=>ii (fun a b=>some (.int (a+b))) a b
 | .Sub=>ii (fun a b=>some (.int (a-b))) a b
 | .Mult=>ii (fun a b=>if lS a||lS b then some (.int (a*b)) else none) a b
 | _=>none
theorem o6 {op:Operator} {a b z:RV} (hz:jT op a b=some z):Op2 c γ (inplaceOp op) a b st z:=by
 cases op with
 | Add=>exact Op2.ints hz fun ρ h tk x y t t' e ok=>someE (Q:=fun z=>TR c c.rv ρ γ h tk _ (.ok z st)) e (P.iadd_int (TR.ends .refl ok (.int _ _)))
 | Sub=>exact Op2.ints hz fun ρ h tk x y t t' e ok=>someE (Q:=fun z=>TR c c.rv ρ γ h tk _ (.ok z st)) e (P.isub_int (TR.ends .refl ok (.int _ _)))
 | Mult=>exact Op2.ints hz fun ρ h tk x y t t' e ok=>TR.if_ e fun q=>P.imul_int (TR.ends .refl ok (.int _ _)) (pp q)
 | _=>exact aP hz
theorem SX.aug {x:Str} {xp pos:Pos} {op:Operator} {e:Expr} {m:Option (Out RV)} {i:Nat} {a:RV} {o:SOut} (ha:γ[i]? = some (some a)) (hm:dg m γ (fun r st₁=>(jT op a r).map fun z=>.next (γ.set i (some z)) st₁)=some o) (y:∀o,m=some o->EvR c γ st e o)
  (hF:c.Full) (hx:c.names[i]? = some x):SX c γ st (.AugAssign (.Name x xp) op e pos) o:=fun ρ h tk ok=>by
 refine wpAny_AugAssign_Name ?_
 obtain ⟨mm,hmm,hl⟩:=ok.loc
 obtain ⟨v,hv,yv⟩:=hl i x a hx ha
 have rest:wpAny c.M c.A (eval e c.env) (fun v' s₂=>wpAny c.M c.A (inplaceOp op v v') (fun r s₃=>wpAny c.M c.A (storeName c.env x r) (fun _=>QW c ρ h (FQ c o) .next) (EW c ρ h (FX o)) s₃) (EW c ρ h (FX o)) s₂) (EW c ρ h (FX o)) ⟨h,c.g,c.d,tk,c.os⟩:=
  SX.seq hm (fun o e=>y o e ρ h tk ok) .refl fun r v' ρQ st₁ h₁ tkQ hmJ ok₁ sp₁ _ y₁=>by
   obtain ⟨z,hz,e⟩:=Option.map_eq_some_iff.mp hmJ
   exact TR.known (o6 (c:=c) (γ:=γ) hz ρQ h₁ tkQ v v' ok₁ (sp₁.rep yv) y₁) sp₁ fun w ρ₂ h₂ tkJ ok₂ sp₂ _ yw=>(W.store ok₂ hx (.inr hF) yw).put sp₂ fun h₃ tkZ ok₃ sp₃ _=>W.ends sp₃ ok₃ e.symm
 have hk:=c.lk x (List.mem_of_getElem? hx)
 rcases hv with ⟨k,hv⟩ | ⟨k,a',ha',hv⟩
 ·exact wpAny_loadName_local c.kind k hmm hv rest
 ·exact wpAny_loadName_cell c.kind k ha' hv rest
theorem jI {m:Option (Out Unit)} {o:SOut} (hm:dg m γ (fun _ s=>some (.next γ s))=some o):∃q,m=some q/\(∀ρ h fl s',fl=.next/\QW c ρ h (QR same q γ) () s'->QW c ρ h (FQ c o) fl s')/\∀ρ h v s',EW c ρ h (ER q γ) v s'->EW c ρ h (FX o) v s':=by
 cases m with
 | none=>exact aP hm
 | some q=>
  refine ⟨q,rfl,fun ρ h fl s' hz=>?_,fun ρ h v s' e=>e.mono fun k γ' st' z=>?_⟩
  ·obtain ⟨hz,h₁,t₁,ρQ,γQ,st₁,sp,ok₁,e2,r,yr,e3⟩:=hz
   subst e3 e2 hz
   exact ⟨h₁,t₁,ρQ,γQ,st₁,sp,ok₁,(Option.some.inj hm).symm⟩
  ·obtain ⟨z1,z2⟩:=z
   subst z2 z1
   exact (Option.some.inj hm).symm
theorem SX.setattr {an:Str} {ob e:Expr} {p pos:Pos} {C:Addr} {k:Nat} {m:Option (Out RV)} {n:ai->Option (Out RV)} {o:SOut} (hm:dg (aq m fun r st₁=>aq (n st₁) fun q st₂=>(j3 st₂ C k q r).map fun stQ=>.ok () stQ) γ (fun _ st₁=>some (.next γ st₁))=some o)
  (x:∀o,m=some o->EvR c γ st e o) (y:∀st₁ o,n st₁=some o->EvR c γ st₁ ob o) (hC:ft C=true) (hk:(aV C)[k]? = some an) (hs:swapsWith e (some (.Attribute ob an p)) pos.line c.env=pure false):SX c γ st (.Assign [.Attribute ob an p] e pos) o:=fun ρ h tk ok=>by
 obtain ⟨q,hq,k1,k2⟩:=jI (c:=c) hm
 refine wpAny_mono (plainObj_wpAny_Assign_Attribute (Q:=fun fl s'=>fl=.next/\QW c ρ h (QR same q γ) () s') (E:=EW c ρ h (ER q γ)) (TR.seq hq (fun o e=>x o e ρ h tk ok) .refl fun r v ρQ st₁ h₁ tkQ hmJ ok₁ sp₁ _ y₁=>
  TR.seq hmJ (fun o e=>y st₁ o e ρQ h₁ tkQ ok₁) sp₁ fun q' ov ρ₂ st₂ h₂ tkJ hmQ ok₂ sp₂ sp₃ y₂=>by
   obtain ⟨stQ,hz,e⟩:=Option.map_eq_some_iff.mp hmQ
   exact wpAny_mono ((e▸o7 hz hC hk ok₂ y₂ (sp₃.rep y₁):TR c same ρ₂ γ h₂ tkJ _ q).from sp₂) (fun _ _ z=>⟨rfl,z⟩) fun _ _ z=>z) hs) (k1 ρ h) (k2 ρ h)
theorem SX.augattr {an:Str} {ob e:Expr} {p pos:Pos} {C:Addr} {k:Nat} {op:Operator} {m:Option (Out RV)} {n:ai->Option (Out RV)} {o:SOut}
  (hm:dg (aq m fun ov st₁=>(eH st₁ C k ov).bind fun old=>if gQ old then none else aq (n st₁) fun r st₂=>(jT op old r).bind fun z=>(j3 st₂ C k ov z).map fun stQ=>Out.ok () stQ) γ (fun _ st₁=>some (.next γ st₁))=some o)
  (x:∀o,m=some o->EvR c γ st ob o) (y:∀st₁ o,n st₁=some o->EvR c γ st₁ e o) (hC:ft C=true) (hk:(aV C)[k]? = some an):SX c γ st (.AugAssign (.Attribute ob an p) op e pos) o:=fun ρ h tk ok=>by
 obtain ⟨q,hq,k1,k2⟩:=jI (c:=c) hm
 refine wpAny_mono (wpAny_AugAssign_AttributeAny (Q:=fun fl s'=>fl=.next/\QW c ρ h (QR same q γ) () s') (E:=EW c ρ h (ER q γ)) (TR.seq hq (fun o e=>x o e ρ h tk ok) .refl fun ov v ρQ st₁ h₁ tkQ hmJ ok₁ sp₁ _ y₁=>?_)) (k1 ρ h) (k2 ρ h)
 obtain ⟨old,ho,hmJ⟩:=Option.bind_eq_some_iff.mp hmJ
 obtain ⟨hb,hmJ⟩:=AY hmJ
 refine mO ho hb hC hk ok₁ y₁ fun v' yv=>?_
 refine TR.seq hmJ (fun o e=>y st₁ o e ρQ h₁ (tkQ+1) ok₁) sp₁ fun r vr ρ₂ st₂ h₂ tkJ hmQ ok₂ sp₂ sp₃ y₂=>?_
 obtain ⟨z,hz,hmQ⟩:=Option.bind_eq_some_iff.mp hmQ
 obtain ⟨stQ,hs,e⟩:=Option.map_eq_some_iff.mp hmQ
 refine TR.known (o6 (c:=c) (γ:=γ) hz ρ₂ h₂ tkJ v' vr ok₂ (sp₃.rep yv) y₂) sp₂ fun w ρ₃ h₃ tkZ ok₃ sp₄ sp₅ yw=>?_
 exact wpAny_mono ((e▸o7 hs hC hk ok₃ (sp₅.rep (sp₃.rep y₁)) yw:TR c same ρ₃ γ h₃ tkZ _ q).from sp₄) (fun _ _ z=>⟨rfl,z⟩) fun _ _ z=>z
end
section
variable {c:Cx} {γ γ':Lo} {st st':ai} {ρ ρ₀:Pl} {h h₀:Heap} {tk:Nat} {e:Expr}
theorem DRep.step {ρ ρ':Pl} {h h':Heap} (k:∀{r:RV} {v:Value},Rep ρ h r v->Rep ρ' h' r v) {es:List (Str×Value)} {l:List (Str×RV)} (d:DRep ρ h es l):DRep ρ' h' es l:=by
 induction d with
 | nil=>exact .nil
 | cons a b ih=>exact .cons (k a) ih
theorem DictOf.there {a:Addr} {w:World} {es:List (Str×Value)} (x:h.DictOf (strKind pw w) a es):∃o,h.get? a=some o:=x.imp fun o y=>y.elim fun _ y=>y.elim fun _ y=>y.1
theorem qC {i:Nat} {a:Addr} {es:List (Str×RV)} {k:Str} {t:Tok} {d:RV} {vd:Value} (ok:Ok c ρ γ st h) (hi:ρ.vis[i]? = some a) (hs:st[i]? = some (.dict es)) (hl:es.length<16777216) (yd:Rep ρ h d vd) :
  TR c c.rv ρ γ h tk (call (.builtin "dict.pop") [.ref a,.str k t,vd]) (.ok ((es.lookup k).getD d) (cond (es.lookup k).isSome (st.set i (.dict (bU es k))) st)):=by
 obtain ⟨kvs,dd,rr⟩:=ok.dictAt hi hs
 rcases rr.valueAt (x:=k) with ⟨e1,e2⟩ | ⟨v,r',e1,e2,y⟩
 ·rw [e2]
  exact call_meetsIn F.slot_dict_pop dd.mapOf.typeIs F.entry_dict_pop (F.args_dict_pop_3 _ _ _) (meets_dict_pop_default (strKind pw c.w) a (strKind_is pw c.w k t) (ok.notSys (List.mem_of_getElem? hi) (ew _)) rfl vd) ⟨kvs,dd,e1,TR.ends .refl ok yd⟩
 ·rw [e2]
  refine call_meetsIn F.slot_dict_pop dd.mapOf.typeIs F.entry_dict_pop (F.args_dict_pop_3 _ _ _) (meets_dict_pop_there (strKind pw c.w) a (strKind_is pw c.w k t) [vd] (.inr ⟨_,rfl⟩) rfl) ⟨kvs,v,dd,by rw [rr.length,sizeLine_eq];exact Nat.le_of_lt hl,e1,fun h' hm hsb=>?_⟩
  obtain ⟨ok',sp⟩:=ok.set (o:=.dict (bU es k)) hi (fun b o hb e=>(hsb.2 b hb).trans e) (DictOf.there hm) fun rp=>.dict hm (rr.without.step rp)
  exact TR.ends sp ok' (sp.rep y)
theorem tT {m:CM} {a:RV} {l:List RV} {r:RV} {v:Value} {vs:List Value} (hz:dH m st a l=some (r,st')) (ok:Ok c ρ γ st h) (y:Rep ρ h a v) (yl:RepL ρ h l vs):TR c c.rv ρ γ h tk (call (.builtin m.id) (v::vs)) (.ok r st'):=by
 obtain ⟨i,e0,hz⟩:=Option.bind_eq_some_iff.mp hz
 rw [ck e0] at y
 apply y.elim
 intro A hi
 clear y
 have fin:∀{x:RV×ai} {t:Sem Value},x=(r,st')->TR c c.rv ρ γ h tk t (.ok x.1 x.2)->TR c c.rv ρ γ h tk t (.ok r st'):=fun e=>e▸id
 cases m with
 | append=>
  obtain ⟨xs,e1,hz⟩:=Option.bind_eq_some_iff.mp hz
  obtain ⟨x,e2,hz⟩:=Option.bind_eq_some_iff.mp hz
  obtain ⟨hl,hz⟩:=Option.ite_none_right_eq_some.mp hz
  rw [aR e2] at yl
  apply yl.one
  exact fun v y1=>fin (Option.some.inj hz) (nE ok hi (listAt_eq e1) hl y1)
 | pop=>
  obtain ⟨xs,e1,hz⟩:=Option.bind_eq_some_iff.mp hz
  obtain ⟨x,e2,hz⟩:=Option.bind_eq_some_iff.mp hz
  obtain ⟨hl,hz⟩:=Option.ite_none_right_eq_some.mp hz
  rw [List.isEmpty_iff.mp hl.1] at yl
  apply yl.elim
  exact fin (Option.some.inj hz) (sX ok hi (listAt_eq e1) hl.2 e2)
 | extend=>
  obtain ⟨xs,e1,hz⟩:=Option.bind_eq_some_iff.mp hz
  obtain ⟨x,e2,hz⟩:=Option.bind_eq_some_iff.mp hz
  obtain ⟨ys,e3,hz⟩:=Option.bind_eq_some_iff.mp hz
  obtain ⟨hl,hz⟩:=Option.ite_none_right_eq_some.mp hz
  rw [aR e2,cj e3] at yl
  apply yl.one
  intro v y1
  apply y1.elim
  exact fun a vs f t yy=>fin (Option.some.inj hz) (ml ok hi (listAt_eq e1) hl t yy)
 | get=>
  obtain ⟨es,e1,hz⟩:=Option.bind_eq_some_iff.mp hz
  obtain ⟨p,e2,hz⟩:=Option.bind_eq_some_iff.mp hz
  obtain ⟨k,e3,hz⟩:=Option.map_eq_some_iff.mp hz
  rcases vI e2 with ⟨e4,e5⟩ | e4
  ·rw [e4,bO e3] at yl
   rw [e5] at hz
   apply yl.one
   intro v y1
   apply y1.elim
   exact fun t=>fin hz (tJ ok hi (bg e1))
  ·rw [e4,bO e3] at yl
   apply yl.two
   intro v v' y1 y2
   apply y1.elim
   exact fun t=>fin hz (p7 ok hi (bg e1) y2)
 | take=>
  obtain ⟨es,e1,hz⟩:=Option.bind_eq_some_iff.mp hz
  obtain ⟨p,e2,hz⟩:=Option.bind_eq_some_iff.mp hz
  obtain ⟨k,e3,hz⟩:=Option.bind_eq_some_iff.mp hz
  obtain ⟨hl,hz⟩:=Option.ite_none_right_eq_some.mp hz
  rw [cB e2,bO e3] at yl
  apply yl.two
  intro v v' y1 y2
  apply y1.elim
  exact fun t=>fin (Option.some.inj hz) (qC ok hi (bg e1) hl y2)
noncomputable def cN:Expr->Bool
 | .Call .. =>false
 | _=>true
theorem fW {o:Expr} (h:cN o=true) {a:Str} {env:Env} {w:Sem Value}:attributeBase o a env w=w:=by
 cases o <;> first | rfl | exact aN h
theorem oZ {o:Expr} {an:Str} {pos:Pos} {env:Env} (h:cN o=true):eval (.Attribute o an pos) env=(do
   let v<-eval o env
   standAt pos.atName
   let r<-holding [v] (getAttr v an true)
   letTemporaryGo o v r
   pure r):=by
 show (do
   let v<-attributeBase o an env (eval o env)
   standAt pos.atName
   let r<-holding [v] (getAttr v an true)
   letTemporaryGo o v r
   pure r)=_
 rw [fW h]
noncomputable def CM.name:CM->Str
 | .append=>"append"
 | .pop=>"pop"
 | .extend=>"extend"
 | .get=>"get"
 | .take=>"pop"
noncomputable def CM.ty:CM->String
 | .append=>"list"
 | .pop=>"list"
 | .extend=>"list"
 | .get=>"dict"
 | .take=>"dict"
theorem CM.ready (m:CM):PlainAttrs m.ty/\Slot m.ty m.name m.id/\typeOf (.builtin m.id)=pure (.type "method_descriptor"):=by
 cases m
 ·exact ⟨F.plainAttrs_list,slot_list_append,by show builtinType _=_;rw [builtinType_eq_fast];kernel_rfl⟩
 ·exact ⟨F.plainAttrs_list,F.slot_list_pop,by show builtinType _=_;rw [builtinType_eq_fast];kernel_rfl⟩
 ·exact ⟨F.plainAttrs_list,F.slot_list_extend,by show builtinType _=_;rw [builtinType_eq_fast];kernel_rfl⟩
 ·exact ⟨F.plainAttrs_dict,F.slot_dict_get,by show builtinType _=_;rw [builtinType_eq_fast];kernel_rfl⟩
 ·exact ⟨F.plainAttrs_dict,F.slot_dict_pop,by show builtinType _=_;rw [builtinType_eq_fast];kernel_rfl⟩
noncomputable def mq (m:CM) (st:ai) (a:RV):Bool:=az a.asObj fun i=>cond (m.ty=="list") (listAt st i).isSome (dictAt st i).isSome
theorem vh {m:CM} {a:RV} {v:Value} (hr:mq m st a=true) (ok:Ok c ρ γ st h) (y:Rep ρ h a v):Shared.TypeIs ⟨h,c.g,c.d,tk,c.os⟩ v m.ty/\(∀a,v=.ref a->∃ob,h.get? a=some ob/\ob.dict=none):=by
 obtain ⟨i,e0,hr⟩:=aj hr
 rw [ck e0] at y
 refine y.elim (R:=fun v=>Shared.TypeIs ⟨h,c.g,c.d,tk,c.os⟩ v m.ty/\(∀a,v=.ref a->∃ob,h.get? a=some ob/\ob.dict=none)) fun A hi=>?_
 cases q:m.ty=="list" with
 | true=>
  rw [q] at hr
  obtain ⟨l,hs⟩:=Option.isSome_iff_exists.mp hr
  obtain ⟨vs,n,e,_⟩:=ok.listAt hi (listAt_eq hs)
  rw [beq_iff_eq.mp q]
  exact ⟨⟨_,e,rfl⟩,fun a q=>Value.ref.inj q▸⟨_,e,rfl⟩⟩
 | false=>
  rw [q] at hr
  obtain ⟨l,hs⟩:=Option.isSome_iff_exists.mp hr
  obtain ⟨kvs,d,_⟩:=ok.dictAt hi (bg hs)
  have ty:m.ty="dict":=by cases m <;> first | rfl | exact absurd q (by decide)
  rw [ty]
  refine ⟨d.mapOf.typeIs,fun a q=>Value.ref.inj q▸?_⟩
  obtain ⟨o,es,ep,e,e2,_⟩:=d
  exact ⟨o,e,e2.2.1⟩
theorem EvR.cmeth {mm:CM} {ob:Expr} {apos pos:Pos} {args:List Expr} {m:Option (Out RV)} {n:ai->Option (Out (List RV))} {o:Out RV} (hm:aq m (fun a st₁=>if mq mm st₁ a then aq (n st₁) fun l st₂=>(dH mm st₂ a l).map fun p=>.ok p.1 p.2 else none)=some o)
  (x:∀o,m=some o->EvR c γ st ob o) (y:∀st₁ o,n st₁=some o->ElR c γ st₁ pos args o) (hb:cN ob=true) (hst:(backTo pos (starEach args c.env)).all (fun x=> !x.1)=true) (hn:args.length<29) (hline:(apos.endLine==pos.line)=true) :
  EvR c γ st (.Call (.Attribute ob mm.name apos) args [] pos) o:=fun ρ h tk ok=>by
 obtain ⟨p1,p2,p3⟩:=mm.ready
 refine wpAny_Call_method_late (fW hb) (by rw [hst];show (true&&true&&decide (args.length+0+0<30))=true;simp;lia) hline rfl ?_
 refine TR.seq hm (fun o e=>x o e ρ h tk ok) .refl fun a v ρQ st₁ h₁ tkQ hmJ ok₁ sp₁ _ yv=>?_
 obtain ⟨hr,hmJ⟩:=Option.ite_none_right_eq_some.mp hmJ
 obtain ⟨q1,q2⟩:=vh (tk:=tkQ) hr ok₁ yv
 refine ⟨mm.ty,mm.id,p1,p2,p3,q1,q2,callWith_builtin (by have:=bM hst;simpa using this) (bo hst ?_)⟩
 refine TR.seq hmJ (fun o e=>y _ o e ρQ h₁ tkQ ok₁) sp₁ fun l vs ρ₂ st₂ h₂ tkJ hmQ ok₂ sp₂ sp₃ yl=>?_
 obtain ⟨p,hz,e⟩:=Option.map_eq_some_iff.mp hmQ
 exact (e▸tT hz ok₂ (sp₃.rep yv) yl:TR c c.rv ρ₂ γ h₂ tkJ _ o).from sp₂
noncomputable def dB (st:ai) (a i v:RV):Option ai:=a.asObj.bind fun j=>match i with
 | .str k=>(dictAt st j).bind fun es=>if es.length<16777216 then some (st.set j (.dict (ay es k v))) else none
 | .int k=>(listAt st j).bind fun l=>if 0<=k/\k<l.length/\l.length<16777216 then some (st.set j (.list (l.set k.toNat v))) else none
 | _=>none
theorem RepL.set {l:List RV} {vs:List Value} {r:RV} {v:Value} (y:RepL ρ h l vs) (z:Rep ρ h r v) (i:Nat):RepL ρ h (l.set i r) (vs.set i v):=by
 induction l generalizing vs i with
 | nil=>exact y.elim (R:=fun vs=>RepL ρ h [] (vs.set i v)) .nil
 | cons w l ih=>exact y.elim (R:=fun vs=>RepL ρ h ((w::l).set i r) (vs.set i v)) fun u vs a b=>match i with | 0=>.cons z b | i+1=>.cons a (ih b i)
theorem set_list {j:Nat} {k:Int} {l:List RV} {t:Tok} {v:RV} {vv:Value} {ad:Addr} (ok:Ok c ρ γ st h) (hi:ρ.vis[j]? = some ad) (hs:st[j]? = some (.list l)) (h0:0<=k) (hk:k<l.length) (hl:l.length<16777216) (yv:Rep ρ h v vv):TR c same ρ γ h tk (setItem (.ref ad) (.int k t) vv) (Out.ok () (st.set j (.list (l.set k.toNat v)))):=by
 obtain ⟨vs,n,e,yl⟩:=ok.listAt hi hs
 have tl:Heap.IsList (Shared.heap ⟨h,c.g,c.d,tk,c.os⟩) ad vs.toArray:=dN e
 show wpAny (model pw c.w) c.A (setItem (.ref ad) (.int k t) vv) _ _ _
 unfold setItem
 refine wpAny_holding ?_
 refine wpAny_bind (wpAny_sequenceKey tl.typeIs (by decide) ?_)
 refine wpAny_bind (wpAny_callSpecial?_slot (name:=Str.ofString "__setitem__") tl.typeIs slot_list_setitem
  (wpAny_call_entry slot_list_setitem tl.typeIs entry_list_setitem ?_ (args_list_setitem _ _ _)))
 show wpAny _ _ (Builtin.List.listSubscript? (.int k t) >>= _) _ _ _
 refine wpAny_bind (wpAny_listSubscript_int (fitsIndex_of h0 (Int.lt_trans hk (Int.lt_trans (Int.ofNat_lt.mpr hl) (by decide)))) ?_)
 obtain ⟨k',e2⟩:=Int.eq_ofNat_of_zero_le h0
 subst e2
 have hkl:k'<vs.length:=yl.length▸Int.ofNat_lt.mp hk
 show wpAny _ _ ((seqItemAt ad k' >>= fun r=>pure (r.map (k',·))) >>= _) _ _ _
 refine wpAny_bind (wpAny_bind (wpAny_seqItemAt e rfl (wpAny_pure ?_)))
 rw [show vs.toArray[k']? = some vs[k'] from List.getElem?_toArray.trans (List.getElem?_eq_getElem hkl)]
 show wpAny _ _ (setSeqItemAt ad k' vv >>= _) _ _ _
 have fin:∀{Q:Unit->Shared->Prop} {E:Value->Shared->Prop},Q () ⟨h.update ad (Obj.mapSeq (·.setIfInBounds k' vv)),c.g,c.d,tk,c.os⟩->wpAny c.M c.A.in1 (setSeqItemAt ad k' vv) Q E ⟨h,c.g,c.d,tk,c.os⟩:=fun q=>wpAny_setSeqItemAt e rfl q
 have e':∃n',(h.update ad (Obj.mapSeq (·.setIfInBounds k' vv))).get? ad=some { cls:=.type "list",dict:=none,data:=.seq (vs.set k' vv).toArray n',slots:= #[] }:=by
  rw [Heap.get?_update_self _ e rfl]
  simp [Obj.mapSeq]
 obtain ⟨n',e'⟩:=e'
 obtain ⟨ok',sp⟩:=ok.set (o:=.list (l.set k' v)) hi (fun b o hb eb=>(Heap.get?_update_other _ _ (Ne.symm hb)).trans eb) ⟨_,e'⟩ fun rp=>.list (vs:=vs.set k' vv) e' ((yl.set yv k').map rp)
 refine wpAny_bind (fin ?_)
 first
  | exact wpAny_bind (wpAny_pure (wpAny_pure ⟨.none,rfl,wpAny_pure (TR.ends sp ok' rfl)⟩))
  | exact wpAny_pure ⟨.none,rfl,wpAny_pure (TR.ends sp ok' rfl)⟩
theorem qY {a i v:RV} {va vi vv:Value} (hz:dB st a i v=some st') (ok:Ok c ρ γ st h) (ya:Rep ρ h a va) (yi:Rep ρ h i vi) (yv:Rep ρ h v vv):TR c same ρ γ h tk (setItem va vi vv) (Out.ok () st'):=by
 obtain ⟨j,e0,hz⟩:=Option.bind_eq_some_iff.mp hz
 rw [ck e0] at ya
 apply ya.elim
 intro A hi
 cases i with
 | str k=>
  obtain ⟨es,e1,hz⟩:=Option.bind_eq_some_iff.mp hz
  obtain ⟨hl,hz⟩:=Option.ite_none_right_eq_some.mp hz
  rw [<-Option.some.inj hz]
  apply yi.elim
  intro t
  obtain ⟨kvs,dd,rr⟩:=ok.dictAt hi (bg e1)
  refine wpAny_setItem_pairs (strKind_is pw c.w k t) dd (fun h' hm hsb=>?_) (by rw [rr.length,sizeLine_eq];exact Nat.le_of_lt hl)
  obtain ⟨ok',sp⟩:=ok.set (o:=.dict (ay es k v)) hi (fun b o hb e=>(hsb.2 b hb).trans e) (DictOf.there hm) fun rp=>.dict hm ((rr.stored yv).step rp)
  exact TR.ends sp ok' rfl
 | int k=>
  obtain ⟨l,e1,hz⟩:=Option.bind_eq_some_iff.mp hz
  obtain ⟨⟨h0,h1,hl⟩,hz⟩:=Option.ite_none_right_eq_some.mp hz
  rw [<-Option.some.inj hz]
  apply yi.elim
  exact fun t=>set_list ok hi (listAt_eq e1) h0 h1 hl yv
 | _=>exact aP hz
theorem SX.setitem {ob ix e:Expr} {p pos:Pos} {m:Option (Out RV)} {n n':ai->Option (Out RV)} {o:SOut} (hm:dg (aq m fun r st₁=>aq (n st₁) fun a st₂=>aq (n' st₂) fun i stQ=>(dB stQ a i r).map fun stZ=>Out.ok () stZ) γ (fun _ st₁=>some (.next γ st₁))=some o)
  (x:∀o,m=some o->EvR c γ st e o) (y:∀st₁ o,n st₁=some o->EvR c γ st₁ ob o) (z:∀st₁ o,n' st₁=some o->EvR c γ st₁ ix o) (hs:swapsWith e (some (.Subscript ob ix p)) pos.line c.env=pure false):SX c γ st (.Assign [.Subscript ob ix p] e pos) o:=fun ρ h tk ok=>by
 obtain ⟨q,hq,k1,k2⟩:=jI (c:=c) hm
 refine wpAny_mono (wpAny_Assign_Subscript (Q:=fun fl s'=>fl=.next/\QW c ρ h (QR same q γ) () s') (E:=EW c ρ h (ER q γ)) (TR.seq hq (fun o e=>x o e ρ h tk ok) .refl fun r v ρQ st₁ h₁ tkQ hmJ ok₁ sp₁ _ y₁=>
  TR.seq hmJ (fun o e=>y st₁ o e ρQ h₁ tkQ ok₁) sp₁ fun a va ρ₂ st₂ h₂ tkJ hmQ ok₂ sp₂ sp₃ y₂=>
   TR.seq hmQ (fun o e=>z st₂ o e ρ₂ h₂ tkJ ok₂) sp₂ fun i vi ρ₃ stQ h₃ tkZ hmZ ok₃ sp₄ sp₅ y₃=>by
    obtain ⟨stZ,hz,e⟩:=Option.map_eq_some_iff.mp hmZ
    exact wpAny_mono ((e▸qY hz ok₃ (sp₅.rep y₂) y₃ (sp₅.rep (sp₃.rep y₁)):TR c same ρ₃ γ h₃ tkZ _ q).from sp₄) (fun _ _ z=>⟨rfl,z⟩) fun _ _ z=>z) hs) (k1 ρ h) (k2 ρ h)
end
end
section
open PySem PySem.W PySem.Calls PyProof.Rows PySem.Spec
open PySem.Builtin PySem.Builtin.ObjectAttr
section
variable {w:World} {A:Around} {E:Value->Shared->Prop} {h:Heap} {g:Array GenState} {d:Drawn} {t:Nat} {os:OsState}
variable {nm q:Str} {C N x f:Addr} {bs:List Value} {sn:List Str} {sub:List Value} {ab:Bool} {col:Option Bool} {dd:Option Addr} {k0 k1 k2 k3 k5:Option Value} {newId:String}
 {mN mA:Str->Option Value} {name:Str} {v:Value} {of:Obj}
set_option tactic.hygienic true in
theorem mf {tk:Tok} {Q:PySem.Fin->Shared->Prop} {dx:Addr} {ox:Obj}
  (hC:h.get? C=some (excClassObj nm q C N bs [.type "object"] true sn sub ab col dd k0 k1 k2 k3 k5 newId)) (hn:h.Ns N mN) (hna:mN name=some (.ref f)) (hfo:h.get? f=some of) (hfc:of.cls=.type "function")
  (hx:h.get? x=some ox) (hxc:ox.cls=.ref C) (hxd:ox.dict=some dx) (hxn:∀c,ox.data≠.cls c) (hns:h.Ns dx mA) (hv:mA name=none) (hB:typeLookup (.type "object") name=pure none) (hgg:mN "__getattr__"=none) (hcp:((["__module__","__name__","__qualname__","__doc__","__annotations__"]:List Str).contains name)=false) (hxC:x≠C)
  (hq:Q (.done (.ret (.ref h.objs.size))) ⟨h.push { cls:=.type "method",data:=.fields #[.ref f,.ref x] },g,d,t,os⟩) :
  wpAny (model pw w) A (Builtin.«proto.getattr_hooked» ⟨[.ref x,.str name tk],[]⟩) Q E ⟨h,g,d,t,os⟩:=by
 have hT:(⟨h,g,d,t,os⟩:Shared).TypeIs (.ref f) "function":=⟨_,hfo,hfc⟩
 have hlk:=F.ks_slot_function_get.lookup
 have n1:typeLookup (.type "function") "__set__"=pure none:=by rw [typeLookup_type,builtinLookup_eq_fast];kernel_rfl
 have n2:typeLookup (.type "function") "__delete__"=pure none:=by rw [typeLookup_type,builtinLookup_eq_fast];kernel_rfl
 unfold Builtin.«proto.getattr_hooked»
 repeat (first | (with_reducible refine wpAny_loadPart_at hx ?_;rw [hxc]) | (with_reducible refine wpAny_typeLookup_exc hC hn F.mro_object hB ?_;rw [hna]) | (with_reducible refine wpAny_typeOf hT ?_) | (with_reducible refine wpAny_of_eq n1 ?_) | (with_reducible refine wpAny_of_eq n2 ?_) | wp_step)
 split
 ·rename_i c hcd
  exact absurd hcd (hxn c)
 unfold instanceDict
 repeat (first | (with_reducible refine wpAny_loadPart_at hx ?_;rw [hxc]) | with_reducible refine wpAny_loadPart_at hC ?_ | wp_step)
 rw [hxd]
 repeat (first | (with_reducible refine wpAny_nsGet hns ?_;rw [hv]) | wp_step)
 rw [if_neg (by rw [hcp];exact Bool.false_ne_true)]
 repeat (first | (with_reducible refine wpAny_typeLookup_exc hC hn F.mro_object F.lk_object_getattr ?_;rw [hgg]) | (with_reducible refine wpAny_call_entry F.ks_slot_function_get hT F.ks_entry_function_get ?_ (F.ks_getArgs_function _ _ _)) | (with_reducible refine ⟨_,rfl,?_⟩) | wp_step)
 exact hq
theorem oS {expr:Bool} {Q:Value->Shared->Prop} {dx:Addr} {ox:Obj}
  (hC:h.get? C=some (excClassObj nm q C N bs [.type "object"] true sn sub ab col dd k0 k1 k2 k3 k5 newId)) (hn:h.Ns N mN) (hng:mN "__getattribute__"=none) (hna:mN name=some (.ref f)) (hfo:h.get? f=some of) (hfc:of.cls=.type "function")
  (hx:h.get? x=some ox) (hxc:ox.cls=.ref C) (hxd:ox.dict=some dx) (hxn:∀c,ox.data≠.cls c) (hns:h.Ns dx mA) (hv:mA name=none) (hB:typeLookup (.type "object") name=pure none) (hgg:mN "__getattr__"=none) (hcp:(["__module__","__name__","__qualname__","__doc__","__annotations__"]:List Str).contains name=false) (hxC:x≠C)
  (hq:Q (.ref h.objs.size) ⟨h.push { cls:=.type "method",data:=.fields #[.ref f,.ref x] },g,d,t+1,os⟩):wpAny (model pw w) A (getAttr (.ref x) name expr) Q E ⟨h,g,d,t,os⟩:=by
 unfold getAttr getAttrBy
 repeat (first | (with_reducible refine wpAny_loadPart_at hx ?_;rw [hxc]) | (with_reducible refine wpAny_typeLookup_exc hC hn F.mro_object F.lk_object_ga ?_;rw [hng]) | wp_step)
 show wpAny _ _ ((runValue (.builtin "proto.getattr_hooked" ⟨[.ref x,.str name t],[]⟩)).onRaise (noteIf true (.ref x) (.str name t))) _ _ _
 refine wpAny_onRaise (wpAny_runValue (codeAny_builtin F.plainObj_entry_getattr_hooked (mf hC hn hna hfo hfc hx hxc hxd hxn hns hv hB hgg hcp hxC ?_)))
 exact wpAny_pure hq
end
end
section
open PySem PySem.W PySem.Calls PyProof.Rows PySem.Spec
noncomputable def copyNames:List Str:=["__module__","__name__","__qualname__","__doc__","__annotations__"]
noncomputable def refOf:Value->Option Addr
 | .ref a=>some a
 | _=>none
theorem tq {v:Value} {a:Addr} (h:refOf v=some a):v=.ref a:=by
 cases v with
 | ref b=>exact congrArg Value.ref (Option.some.inj h)
 | _=>exact aP h
theorem sj {o:Option Value} {a:Addr} (h:decide (o.bind refOf=some a)=true):o=some (.ref a):=by
 obtain ⟨v,e1,e2⟩:=Option.bind_eq_some_iff.mp (of_decide_eq_true h)
 rw [e1,tq e2]
theorem mC {o:Option Obj} (h:fY o=true):∃x,o=some x:=by
 cases o with
 | none=>exact aN h
 | some x=>exact ⟨x,rfl⟩
noncomputable def se (H:Heap) (C:Addr) (tab:List (Str×Addr)):Bool:=
 tab.all fun p=>decide ((H.nsMap (iu (H.get? C)) p.1).bind refOf=some p.2)&&fZ p.1&&fY (H.get? p.2)&&(rF H p.2).isSome && !(aV C).contains p.1 && !copyNames.contains p.1
noncomputable def methR:List (Str×Addr):=[("worth",593),("value_of_name",607),("fn",626),("rows_worth",633)]
theorem su (w:World):se (MH w) 685 methR=true:=by kernel_rfl
structure lp (w:World) (C:Addr) (name:Str) (f:Addr):Prop where
 at_:∃N mN,ClsAt (MH w) C N mN/\mN "__getattribute__"=none/\mN "__getattr__"=none/\mN name=some (.ref f)
 fn:∃o,(MH w).get? f=some o/\o.cls=.type "function"
 isFn:isFn w f
 lacks:typeLookup (.type "object") name=pure none
 lay:name∉aV C
 copy:copyNames.contains name=false
theorem qd {w:World} {C:Addr} {tab:List (Str×Addr)} (hc:classOk (MH w) C (aV C)=true) (X:CObj (MH w) C (iu ((MH w).get? C)) [.type "object"] "object.__new__") (h:se (MH w) C tab=true) {name:Str} {f:Addr} (m:(name,f)∈tab):lp w C name f:=by
 have hcls:=hc
 unfold classOk at hcls
 have hfn:∀a,(rF (MH w) a).isSome=true->isFn w a:=fun a q=>by
  obtain ⟨fd,e⟩:=Option.isSome_iff_exists.mp q
  exact oX e
 generalize hH:MH w=H at h hcls hfn X
 simp only [Bool.and_eq_true,Option.isNone_iff_eq_none] at hcls
 obtain ⟨⟨⟨⟨h2,h3⟩,h4⟩,h5⟩,h6⟩:=hcls
 have hm:=List.all_eq_true.mp h _ m
 simp only [Bool.and_eq_true,Bool.not_eq_true'] at hm
 obtain ⟨⟨⟨⟨⟨m1,m2⟩,m3⟩,m4⟩,m5⟩,m6⟩:=hm
 obtain ⟨o,ho⟩:=mC m3
 refine ⟨⟨_,_,by rw [hH];exact X.cls (.of_isNs h2),h3,h5,sj m1⟩,⟨o,by rw [hH];exact ho,fG m3 ho⟩,hfn f m4,iq m2,fun q=>Bool.false_ne_true (m5.symm.trans (List.contains_iff_mem.mpr q)),m6⟩
theorem sb {w:World} {name:Str} {f:Addr} (m:(name,f)∈methR):lp w 685 name f:=qd (n7 w) (jk w) (su w) m
section
variable {c:Cx} {γ γ':Lo} {st st':ai} {ρ ρ₀:Pl} {h h₀:Heap} {tk:Nat} {e:Expr}
noncomputable def oN (f C:Addr) (a:RV) (st:ai):Option (Out RV):=a.asObj.bind fun i=>(fieldsOf st C (.obj i)).map fun _=>.ok (.obj st.length) (st++[.meth f i])
theorem EvR.bound {f C:Addr} {ob:Expr} {an:Str} {pos:Pos} {m:Option (Out RV)} {o:Out RV} (hm:aq m (oN f C)=some o) (x:∀o,m=some o->EvR c γ st ob o) (M:lp c.w C an f) (hb:cN ob=true):EvR c γ st (.Attribute ob an pos) o:=fun ρ h tk ok=>
 Attribute_any_ (TR.seq hm (fun o e=>x o e ρ h tk ok) .refl fun a v₁ ρQ st₁ h₁ tkQ hmJ ok₁ sp₁ _ y₁=>by
  obtain ⟨i,e0,hmJ⟩:=Option.bind_eq_some_iff.mp hmJ
  obtain ⟨p,hf,e⟩:=Option.map_eq_some_iff.mp hmJ
  obtain ⟨i',q,e1,e2⟩:=di hf
  have q:i=i':=by injection q
  subst e q
  rw [ck e0] at y₁
  apply y₁.elim
  intro x hi
  obtain ⟨d,mm,ox,hj,I,hne,hx,hxc,hxd,hxn,hns,hl,hv,hu⟩:=ok₁.instAt hi e1 e2
  obtain ⟨N,mN,X,g1,g2,g3⟩:=M.at_
  obtain ⟨of,hof,hofc⟩:=M.fn
  have hxC:x≠C:=fun e=>by
   obtain ⟨_,_,_,_,_,_,_,_,_,_,_,_,hCm⟩:=mL X
   exact ok₁.mod_off C _ hCm (e▸List.mem_of_getElem? hi)
  have X':=X.keeps ok₁.mod
  obtain ⟨nm,q,bs,sn,sub,col,dd,k0,k1,k2,k3,k5,hCo⟩:=mL X'
  refine oS hCo X'.ns g1 g3 (ok₁.mod _ _ hof) hofc hx hxc hxd hxn hns.ns (hu an fun z=>M.lay (List.mem_of_mem_take z)) M.lacks g2 M.copy hxC ?_
  obtain ⟨ok₂,sp₂⟩:=ok₁.new (a:=h₁.objs.size) (o:=.meth f i) (h':=h₁.push { cls:=.type "method",data:=.fields #[.ref f,.ref x] }) Heap.new_none (fun b o e=>Heap.get?_push_of_some _ e)
   fun rp=>.meth (Heap.get?_push_size _ rfl) (Pre.snoc.1 _ _ hi)
  exact TR.ends (sp₁.trans sp₂) ok₂ (.obj (by rw [<-ok₁.sto.len];exact Pl.snoc_at))) (oZ hb)
theorem EvR.mcall {f C:Addr} {ob:Expr} {an:Str} {apos pos:Pos} {args:List Expr} {m:Option (Out RV)} {n:ai->Option (Out (List RV))} {F:List RV->ai->Option (Out RV)} {o:Out RV}
  (hm:aq m (fun a st₁=>if (fieldsOf st₁ C a).isSome then aq (n st₁) fun l st₂=>F (a::l) st₂ else none)=some o) (x:∀o,m=some o->EvR c γ st ob o) (y:∀st₁ o,n st₁=some o->ElR c γ st₁ pos args o)
  (k:∀rs st o,F rs st=some o->CR c.w c.n c.A.handled (.stat f) rs st o) (M:lp c.w C an f) (hb:cN ob=true) (hst:(backTo pos (starEach args c.env)).all (fun x=> !x.1)=true) (hn:args.length<29) (hline:(apos.endLine==pos.line)=true) :
  EvR c γ st (.Call (.Attribute ob an apos) args [] pos) o:=fun ρ h tk ok=>by
 show wpAny c.M c.A (eval (.Call (.Attribute ob an apos) args [] pos) c.env) _ _ _
 rw [pA hst hn hline,fW hb]
 refine wpAny_bind (TR.seq hm (fun o e=>x o e ρ h tk ok) .refl fun a v₁ ρQ st₁ h₁ tkQ hmJ ok₁ sp₁ _ y₁=>wpAny_bind (wpAny_standAt ?_))
 obtain ⟨hs,hmJ⟩:=Option.ite_none_right_eq_some.mp hmJ
 obtain ⟨p,hf⟩:=Option.isSome_iff_exists.mp hs
 obtain ⟨i,e,e1,e2⟩:=di hf
 subst e
 apply y₁.elim
 intro xa hi
 obtain ⟨d,mm,ox,hj,I,hne,_,_,_,_,hns,hl,hv,hu⟩:=ok₁.instAt hi e1 e2
 obtain ⟨N,mN,X,g1,g2,g3⟩:=M.at_
 obtain ⟨of,hof,hofc⟩:=M.fn
 have X':=X.keeps ok₁.mod
 obtain ⟨nm,q,bs,sn,sub,col,dd,k0,k1,k2,k3,k5,hCo⟩:=mL X'
 refine wpAny_bind (wpAny_holding (method_of hCo X'.ns g1 g2 g3 (ok₁.mod _ _ hof) hofc M.lacks I (hu an fun z=>M.lay (List.mem_of_mem_take z)) ?_))
 refine callWith_of (P:=kept c.w) (bM hst) (fun h k=>⟨_,.inl rfl,kW M.isFn k⟩) (bo hst ?_)
 refine TR.seq hmJ (fun o e=>y _ o e ρQ h₁ tkQ ok₁) sp₁ fun rs ws ρ₂ st₂ h₂ tkJ hmQ ok₂ sp₂ sp₃ yr=>?_
 exact ⟨ok₂.mod,(TR.call ok₂ (.stat f) (.cons (sp₃.rep (.obj hi)) yr) (k _ _ _ hmQ)).from sp₂⟩
theorem CR.bound {w:World} {n:Nat} {hd:Option Value} {f:Addr} {i j:Nat} {rs:List RV} {st:ai} {o:Out RV} (x:CR w n hd (.stat f) (.obj i::rs) st o) (hs:st[j]? = some (.meth f i)):CR w n hd (.obj j) rs st o:=fun A envs g d os ρ h tk v vs a1 a2 a3 a4 a5 a6 a7 af a8 a9=>by
 apply af.elim
 intro b hj
 apply (a7.reps j _ _ hj hs).elim
 exact fun s e hi=>ks_codeAny_call_bound e (x A envs g d os ρ h tk (.ref f) _ a1 a2 a3 a4 a5 a6 a7 (.stat f) (.cons (.obj hi) a8) a9)
noncomputable def AObj.asMeth:AObj->Option (Addr×Nat)
 | .meth f i=>some (f,i)
 | _=>none
theorem qh {r:AObj} {p:Addr×Nat} (h:r.asMeth=some p):r=.meth p.1 p.2:=by
 cases r with
 | meth f i=>rw [<-Option.some.inj h]
 | _=>exact aP h
noncomputable def sI (st:ai) (a:RV):Option (Addr×Nat):=a.asObj.bind fun j=>st[j]?.bind AObj.asMeth
inductive A2 (w:World) (v:Value) (h:Heap):Prop
 | mk (b f s:Addr) (e:v=.ref b) (hb:h.get? b=some { cls:=.type "method",dict:=none,data:=.fields #[.ref f,.ref s],slots:= #[] }) (k:kept w h) (hf:isFn w f)
set_option backward.match.sparseCases true in
theorem lN {w:World} {v:Value} {h:Heap} {M:Model} (q:A2 w v h):Looks M h (keeperOf v) .boundFrame:=by
 obtain ⟨b,f,s,e,hb,kp,hfn⟩:=q
 subst e
 obtain ⟨of,fd,hof,hfd⟩:=hfn
 intro A Q E s hk q
 unfold keeperOf
 refine wpAny_bind (wpAny_loadPart (hk _ _ hb) ?_)
 show wpAny _ _ (do return match (<-load f).data with | .func _=>Keeper.boundFrame | _=>.caller) _ _ _
 refine wpAny_bind (wpAny_loadPart (hk _ _ (kp _ _ hof)) ?_)
 rw [hfd]
 exact wpAny_pure q
theorem EvR.vcall {x:Str} {np pos:Pos} {args:List Expr} {a:RV} {n:Option (Out (List RV))} {F:Addr->List RV->ai->Option (Out RV)} {o:Out RV}
  (hm:aq n (fun l st₂=>(sI st₂ a).bind fun p=>F p.1 (.obj p.2::l) st₂)=some o)
  (hf:EvR c γ st (.Name x np) (.ok a st)) (y:∀o,n=some o->ElR c γ st pos args o) (k:∀f rs st o,F f rs st=some o->CR c.w c.n c.A.handled (.stat f) rs st o/\isFn c.w f)
  (hst:(backTo pos (starEach args c.env)).all (fun x=> !x.1)=true):EvR c γ st (.Call (.Name x np) args [] pos) o:=fun ρ h tk ok=>
 wpAny_Call_ofName (TR.known (hf ρ h tk ok) .refl fun v ρQ h₁ tkQ ok₁ sp₁ _ yf=>by
  refine callWith_of (P:=A2 c.w v) (bM hst) (fun h q=>⟨_,.inr (.inr rfl),lN q⟩) (bo hst ?_)
  refine TR.seq hm (fun o e=>y o e ρQ h₁ tkQ ok₁) sp₁ fun rs ws ρ₂ st₂ h₂ tkJ hmQ ok₂ sp₂ sp₃ yr=>?_
  obtain ⟨p,hp,hmQ⟩:=Option.bind_eq_some_iff.mp hmQ
  obtain ⟨j,ea,hp⟩:=Option.bind_eq_some_iff.mp hp
  obtain ⟨o',hs,ho'⟩:=Option.bind_eq_some_iff.mp hp
  rw [qh ho'] at hs
  rw [ck ea] at yf
  obtain ⟨kc,kf⟩:=k _ _ _ _ hmQ
  apply yf.elim
  intro b hj
  have hjQ:=sp₃.pre.1 _ _ hj
  apply (ok₂.sto.reps j _ _ hjQ hs).elim
  exact fun s e hi=>⟨⟨_,_,_,rfl,e,ok₂.mod,kf⟩,(TR.call ok₂ (.obj hjQ) yr (kc.bound hs)).from sp₂⟩)
end
noncomputable def iX (H:Heap) (C f:Addr):Bool:=decide ((H.nsMap (iu (H.get? C)) "__init__").bind refOf=some f)&&fY (H.get? f)&&(rF H f).isSome
theorem oP (w:World):iX (MH w) 237 234=true:=by kernel_rfl
theorem tK (w:World):iX (MH w) 685 586=true:=by kernel_rfl
theorem lW (w:World):iX (MH w) 180 177=true:=by kernel_rfl
structure jx (w:World) (C f:Addr):Prop where
 at_:∃N mN,ClsAt (MH w) C N mN/\mN "__init__"=some (.ref f)
 fn:∃o,(MH w).get? f=some o/\o.cls=.type "function"
theorem jl {w:World} {C f:Addr} (hc:classOk (MH w) C (aV C)=true) (X:CObj (MH w) C (iu ((MH w).get? C)) [.type "object"] "object.__new__") (h:iX (MH w) C f=true):jx w C f:=by
 have hcls:=hc
 unfold classOk at hcls
 generalize hH:MH w=H at h hcls X
 simp only [Bool.and_eq_true,Option.isNone_iff_eq_none] at hcls
 obtain ⟨⟨⟨⟨h2,h3⟩,h4⟩,h5⟩,h6⟩:=hcls
 simp only [iX,Bool.and_eq_true] at h
 obtain ⟨⟨m1,m3⟩,m4⟩:=h
 obtain ⟨o,ho⟩:=mC m3
 exact ⟨⟨_,_,by rw [hH];exact X.cls (.of_isNs h2),sj m1⟩,⟨o,by rw [hH];exact ho,fG m3 ho⟩⟩
theorem qk (w:World):jx w 237 234:=jl (ni w) (jo w) (oP w)
theorem ur (w:World):jx w 685 586:=jl (n7 w) (jk w) (tK w)
theorem m0 (w:World):jx w 180 177:=jl (i7 w) (gA w) (lW w)
section
variable {c:Cx} {γ γ':Lo} {st st':ai} {ρ ρ₀:Pl} {h h' h₀:Heap} {tk:Nat} {e:Expr}
theorem nj {α β:Type} {l:List α} {s:List β} {a:α} {b:β} (h:l.length=s.length):(l++[a]).length=(s++[b]).length:=by rw [List.length_append,List.length_append,h];rfl
theorem Ok.new2 {a b:Addr} {oa ob:AObj} (ok:Ok c ρ γ st h) (ha:h.get? a=none) (hb:h.get? b=none) (hab:a≠b) (hk:∀b o,h.get? b=some o->h'.get? b=some o)
  (hra:(∀{r:RV} {v:Value},Rep ρ h r v->Rep ((ρ.snoc a).snoc b) h' r v)->ORep c.w ((ρ.snoc a).snoc b) h' a oa) (hrb:(∀{r:RV} {v:Value},Rep ρ h r v->Rep ((ρ.snoc a).snoc b) h' r v)->ORep c.w ((ρ.snoc a).snoc b) h' b ob) :
  Ok c ((ρ.snoc a).snoc b) γ ((st++[oa])++[ob]) h'/\c.Step ρ h ((ρ.snoc a).snoc b) h':=by
 have pre:Pre ρ ((ρ.snoc a).snoc b):=Pre.snoc.trans Pre.snoc
 have mem:∀{P:Addr->Prop},P a->P b->(∀z∈ρ.vis,P z)->∀z∈((ρ.snoc a).snoc b).vis,P z:=fun pa pb k z m=>(List.mem_append.mp m).elim (fun m=>(List.mem_append.mp m).elim (k z) fun m=>List.mem_singleton.mp m▸pa) fun m=>List.mem_singleton.mp m▸pb
 obtain ⟨m,hns,hl⟩:=ok.loc
 refine ok.become (zs:=[]) dX (fun b o _ e=>hk b o e) dX dX pre (mem (.inr ha) (.inr hb) fun z m=>.inl m)
  (fun x a' e=>(ok.cel x a' e).imp fun cv z=>IsCell.at z fun o e'=>hk _ _ e') ok.keys (fun rp=>⟨m,hns.keeps hk,hl.mono rp fun x a' e v z=>IsCell.at z fun o e'=>hk _ _ e'⟩) fun kz kh=>?_
 have rp:∀{r:RV} {v:Value},Rep ρ h r v->Rep ((ρ.snoc a).snoc b) h' r v:=fun y=>y.mono pre.1 kz
 have len:(ρ.vis++[a]).length=(st++[oa]).length:=nj ok.sto.len
 refine ⟨nj len,fH (fH ok.sto.nd (ok.free_off ha)) fun m=>(List.mem_append.mp m).elim (ok.free_off hb) fun q=>hab (List.mem_singleton.mp q).symm,
  mem ⟨ok.free_fr ha,ok.mh_free ha⟩ ⟨ok.free_fr hb,ok.mh_free hb⟩ ok.sto.off,fun j z o e1 e2=>?_,fun z m=>?_⟩
 ·rcases g0 len e1 e2 with ⟨e1,e2⟩ | ⟨e1,e2⟩
  ·rcases g0 ok.sto.len e1 e2 with ⟨e1,e2⟩ | ⟨e1,e2⟩
   ·exact (ok.sto.reps j z o e1 e2).mono pre.1 kz fun o e=>hk z o e
   ·subst e1 e2
    exact hra rp
  ·subst e1 e2
   exact hrb rp
 ·obtain ⟨a1,a2,o,a3,a4⟩:=ok.sto.hid z m
  exact ⟨fun q=>mem (P:=fun y=>y=z->False) (fun e=>aP (ha.symm.trans ((congrArg h.get? e).trans a3))) (fun e=>aP (hb.symm.trans ((congrArg h.get? e).trans a3))) (fun y m e=>a1 (e▸m)) z q rfl,a2,o,kh z o m a3,a4⟩
theorem oK {w:World} {C f:Addr} (N:jx w C f) {h:Heap} {M:Model} (k:kept w h):Looks M h (keeperOf (.ref C)) .machine:=fun A Q E s hk q=>by
 obtain ⟨N,mN,X,_⟩:=N.at_
 obtain ⟨nm,cq,bs,sn,sub,col,dd,k0,k1,k2,k3,k5,hC⟩:=mL X
 obtain ⟨hp,g,d,t,os⟩:=s
 have hC:=hk _ _ (k _ _ hC)
 exact wpAny_keeperOf_exc hC q
noncomputable def wL (C:Addr) (F:List RV->ai->Option (Out RV)) (l:List RV) (st:ai):Option (Out RV):=
 aq (F (.obj (st.length+1)::l) ((st++[.attrs C []])++[.inst C (some st.length)])) fun r st₂=>if isNone r then some (.ok (.obj (st.length+1)) st₂) else none
theorem tj {α:Type} {l:List α} {a b:α} {n:Nat} (h:l.length=n):(l++[a]++[b])[n]? = some a:=by
 subst h
 exact (List.getElem?_append_left (by rw [List.length_append];exact Nat.lt_succ_self _)).trans List.getElem?_concat_length
theorem tL {α:Type} {l:List α} {a b:α} {n:Nat} (h:l.length=n):(l++[a]++[b])[n+1]? = some b:=by
 subst h
 have e:=List.getElem?_concat_length (l:=l++[a]) (a:=b)
 rw [List.length_append] at e
 exact e
theorem EvR.new {C f:Addr} {x:Str} {np pos:Pos} {args:List Expr} {n:Option (Out (List RV))} {F:List RV->ai->Option (Out RV)} {o:Out RV} (hm:aq n (wL C F)=some o)
  (hf:EvR c γ st (.Name x np) (.ok (.stat C) st)) (y:∀o,n=some o->ElR c γ st pos args o) (hn:0<c.n) (k:∀rs st o,F rs st=some o->CR c.w (c.n-1) c.A.handled (.stat f) rs st o) (N:jx c.w C f)
  (hst:(backTo pos (starEach args c.env)).all (fun x=> !x.1)=true):EvR c γ st (.Call (.Name x np) args [] pos) o:=fun ρ h tk ok=>
 wpAny_Call_ofName (TR.known (hf ρ h tk ok) .refl fun v ρQ h₁ tkQ ok₁ sp₁ _ yf=>by
  apply yf.elim
  refine callWith_of (P:=kept c.w) (bM hst) (fun h k=>⟨_,.inr (.inl rfl),oK N k⟩) (bo hst ?_)
  refine TR.seq hm (fun o e=>y o e ρQ h₁ tkQ ok₁) sp₁ fun rs vs ρ₂ st₂ h₂ tkJ hmQ ok₂ sp₂ _ yr=>⟨ok₂.mod,?_⟩
  obtain ⟨nN,mN,X,hi⟩:=N.at_
  obtain ⟨oI,hoI,hcI⟩:=N.fn
  have hns:=X.ns.keeps ok₂.mod
  obtain ⟨nm,cq,bs,sn,sub,col,dd,k0,k1,k2,k3,k5,hC⟩:=mL X
  refine wpAny_call_obj_init PySem.F.objNew (ok₂.mod _ _ hC) hns hi (ok₂.mod _ _ hoI) hcI fun h' x dx Mk=>?_
  obtain ⟨ox,hx,hcx,hncx,hdx⟩:=Mk.inst
  have hdd:=Mk.dict ox hx
  obtain ⟨hne,hnsd⟩:dx≠x/\h'.Ns1 dx fun _=>none:=by
   rcases hdx with ⟨hn0,_⟩ | ⟨d',hd',hne,hns'⟩
   ·exact aP (hn0.symm.trans hdd)
   ·exact Option.some.inj (hd'.symm.trans hdd)▸⟨hne,hns'⟩
  have hat:(((ρ₂.snoc dx).snoc x).vis)[st₂.length+1]? = some x:=tL ok₂.sto.len
  obtain ⟨ok₃,sp₃⟩:=ok₂.new2 (oa:=.attrs C []) (ob:=.inst C (some st₂.length)) Mk.newD Mk.newX hne Mk.keeps
   (fun _=>.attrs hnsd (Nat.zero_le _) (fun j k r _ e=>aP e) fun _ _=>rfl) (fun _=>.inst hx hcx hdd hncx hne (tj ok₂.sto.len))
  have sp₃':=sp₂.trans sp₃
  obtain ⟨q,e,kq,kx⟩:=eF (P:=fun q=>(∀r s,q=.ok r s->isNone r=true/\o=.ok (.obj (st₂.length+1)) s)/\∀k s,q=.exc k s->o=.exc k s) hmQ
   (fun a s e=>⟨fun r s' z=>by
    obtain ⟨z1,z2⟩:=jN z
    subst z1 z2
    obtain ⟨g1,g2⟩:=Option.ite_none_right_eq_some.mp e
    exact ⟨g1,(Option.some.inj g2).symm⟩,fun _ _ z=>eu z⟩) fun k s e=>⟨fun _ _ z=>eu z.symm,fun _ _ z=>e.trans (pj z)⟩
  have hd:c.A.depth+1+(c.n-1)<recursionLimit:=by rw [Nat.add_assoc,Nat.add_sub_cancel' hn];exact c.room
  have hu:c.A.units+(Code.builtin "type.__call__" ⟨.ref C::vs,[]⟩).cUnits+8*(c.n-1)+8<cLine:=by
   rw [show (Code.builtin "type.__call__" ⟨.ref C::vs,[]⟩).cUnits=1 from rfl]
   have h1:1+8*(c.n-1)<=8*c.n:=by lia
   exact Nat.lt_of_le_of_lt (Nat.add_le_add_right (by rw [Nat.add_assoc];exact Nat.add_le_add_left h1 _) 8) c.units
  refine wpAny_mono (TR.callA (A:=c.A.under (.builtin "type.__call__" ⟨.ref C::vs,[]⟩)) (tk:=tkJ) ok₃ (.stat f) (RepL.cons (.obj hat) (sp₃.repL yr)) (k _ _ _ e) c.afr rfl hd hu ok₃.hnd) (fun v s' z=>?_) fun v s' ee=>(ee.mono fun k γ' st' z=>⟨z.1,kx _ _ z.2⟩).from sp₃'
  obtain ⟨h₄,t₄,ρJ,γA,stZ,sp₄,ok₄,e2,r',y',e3⟩:=z
  obtain ⟨g1,g2⟩:=kq _ _ e3
  rw [eS g1] at y'
  rw [e2] at ok₄
  rw [g2]
  apply y'.elim
  exact ⟨rfl,TR.ends (sp₃'.trans sp₄) ok₄ (.obj (sp₄.pre.1 _ _ hat))⟩)
end
section
variable {c:Cx} {γ:Lo} {st:ai} {ρ ρ₀:Pl} {h h₀:Heap} {tk:Nat} {target:Expr} {l:List RV} {I:Addr} {h':Heap}
theorem d8 {fs:List Addr} {n:Nat} {P:Nat->Heap->Heap->Value->Prop} {St:Nat->Heap->Prop} {K:Pl->Heap->Prop} {oI:Obj} {ivs:Array Value} (ok:Ok c ρ γ st h) (W:Wk c.w c.A I (I::fs) [I] [] n target P St) (hI:h.get? I=none)
  (hk:∀b o,h.get? b=some o->h'.get? b=some o) (eI:h'.get? I=some oI) (dI:oI.data=.fields ivs) (hf:∀b∈fs,b∉ρ.vis/\∃o,h.get? b=some o/\¬ Dull o) (hs:St 0 h') (k0:K ρ h') (hl:l.length=n)
  (hK:ia K) (hP:Gives P K l):jr c ρ h γ st target l I h':=by
 obtain ⟨ok₂,sp₂⟩:=ok.grow hk
 exact ⟨_,_,_,_,_,_,K,ρ,W,⟨sp₂,rfl,ok₂,hs,k0,cI ⟨ok.free_off hI,oI,eI,aW dI⟩ fun b hb=>⟨(hf b hb).1,(hf b hb).2.imp fun o y=>⟨hk _ _ y.1,y.2⟩⟩⟩,cI hI dX,dX,hl,hK,hP,rfl,hk⟩
theorem qi {v:Value} {Q:Value->Shared->Prop} {E:Value->Shared->Prop} (hh:c.A.handled=none) (ok:Ok c ρ γ st h) (y:Rep ρ h (.tup l) v) (hq:∀I h',jr c ρ h γ st target l I h'->Q (.ref I) ⟨h',c.g,c.d,tk,c.os⟩):wpAny c.M c.A (pyIter v) Q E ⟨h,c.g,c.d,tk,c.os⟩:=by
 refine y.elim (R:=fun v=>wpAny c.M c.A (pyIter v) Q E ⟨h,c.g,c.d,tk,c.os⟩) fun ax vs f t yl=>?_
 refine wpAny_pyIter_tuple t ?_
 have hk:∀b o,h.get? b=some o->(h.push { cls:=.type "tuple_iterator",data:=.fields #[.ref ax,.int 0 0] }).get? b=some o:=fun b o e=>Heap.get?_push_of_some _ e
 obtain ⟨ok₂,sp₂⟩:=ok.grow hk
 obtain ⟨ol,el,cl,nl,dl⟩:=t
 exact hq _ _ (d8 (K:=fun ρ h=>RepL ρ h l vs) ok (Wk.tuple hh h.objs.size ax (Nat.ne_of_lt (Heap.lt_size el)) vs.toArray) Heap.new_none hk (Heap.get?_push_size _ rfl) rfl (cI ⟨f.1,ol,el,bn ⟨_,_,dl⟩⟩ dX) ⟨⟨_,Heap.get?_push_size _ rfl,rfl,rfl⟩,⟨ol,hk _ _ el,cl,nl,dl⟩⟩ (sp₂.repL yl) yl.length.symm
  fE fun i r ρ h h' v _ q rp e1 e2=>rp _ _ (q.arr e1 e2))
theorem ItR.tup {iter:Expr} {m:Option (Out RV)} {o:Out (List RV)} (hm:aq m (fun r st₁=>r.asTup.map fun l=>.ok l st₁)=some o) (hh:c.A.handled=none) (x:∀o,m=some o->EvR c γ st iter o):ItR c γ st target iter o:=fun ρ h tk ok=>
 TR.seq hm (fun o e=>x o e ρ h tk ok) .refl fun r v ρQ st₁ h₁ tkQ hmJ ok₁ sp₁ _ y=>by
  obtain ⟨l,e1,e2⟩:=Option.map_eq_some_iff.mp hmJ
  subst e2
  exact qi hh ok₁ (gf e1▸y) fun I h' s=>⟨I,h',_,ρQ,h₁,_,_,sp₁,ok₁,s⟩
theorem ItR.call1 {x:Str} {id:String} {np pos:Pos} {a:Expr} {g:RV->Option (List RV)} {m:Option (Out (List RV))} {o:Out (List RV)} (hm:aq m (fun l st₁=>(oneOf l).bind fun r=>(g r).map fun l=>.ok l st₁)=some o)
  (hf:EvR c γ st (.Name x np) (.ok (.ty id) st)) (y:∀o,m=some o->ElR c γ st pos [a] o) (hst:(backTo pos (starEach [a] c.env)).all (fun x=> !x.1)=true)
  (k:∀r l st₁ ρ h tk v Q E,g r=some l->Ok c ρ γ st₁ h->Rep ρ h r v->(∀ρQ h₁ I h' t' X h'' t'',c.Step ρ h ρQ h₁->Ok c ρQ γ st₁ h₁->(∀Q' E',(jr c ρQ h₁ γ st₁ target l I h''->Q' (.ref I) ⟨h'',c.g,c.d,t'',c.os⟩)->wpAny c.M c.A (pyIter X) Q' E' ⟨h',c.g,c.d,t',c.os⟩)->Q X ⟨h',c.g,c.d,t',c.os⟩)->wpAny c.M c.A (call (.type id) [v]) Q E ⟨h,c.g,c.d,tk,c.os⟩) :
  ItR c γ st target (.Call (.Name x np) [a] [] pos) o:=fun ρ h tk ok=>
 wpAny_Call_ofName (TR.known (hf ρ h tk ok) .refl fun v ρQ h₁ tkQ ok₁ sp₁ _ yf=>by
  apply yf.elim
  refine callWith_type hst ?_
  refine TR.seq hm (fun o e=>y o e ρQ h₁ tkQ ok₁) sp₁ fun rs vs ρ₂ st₂ h₂ tkJ hmQ ok₂ sp₂ _ yr=>?_
  obtain ⟨r,e1,hmQ⟩:=Option.bind_eq_some_iff.mp hmQ
  obtain ⟨l,hl,e⟩:=Option.map_eq_some_iff.mp hmQ
  subst e
  rw [aR e1] at yr
  apply yr.one
  exact fun v yr1=>k _ _ _ _ _ _ _ _ _ hl ok₂ yr1 fun ρ₃ h₃ I h' t' X h'' t'' sp₃ ok₃ z=>z _ _ fun s=>⟨I,h'',t'',ρ₃,h₃,_,_,sp₂.trans sp₃,ok₃,s⟩)
noncomputable def iZ (r:RV):Option (List RV):=r.asInt.bind fun n=>if 0<=n/\n<2^62 then some ((List.range n.toNat).map fun (i:Nat)=>.int (i:Int)) else none
noncomputable def tI (r:RV):Option (List RV):=r.asLst.map List.reverse
theorem ItR.range {x:Str} {np pos:Pos} {a:Expr} {m:Option (Out (List RV))} {o:Out (List RV)} (hm:aq m (fun l st₁=>(oneOf l).bind fun r=>(iZ r).map fun l=>.ok l st₁)=some o) (hh:c.A.handled=none)
  (hf:EvR c γ st (.Name x np) (.ok (.ty "range") st)) (y:∀o,m=some o->ElR c γ st pos [a] o) (hst:(backTo pos (starEach [a] c.env)).all (fun x=> !x.1)=true):ItR c γ st target (.Call (.Name x np) [a] [] pos) o:=
 ItR.call1 hm hf y hst fun r l st₁ ρ h tk v Q E hg ok y q=>by
  obtain ⟨n,e1,hg⟩:=Option.bind_eq_some_iff.mp hg
  obtain ⟨⟨h1,h2⟩,hl⟩:=Option.ite_none_right_eq_some.mp hg
  have hl:=Option.some.inj hl
  obtain ⟨m,hn⟩:=Int.eq_ofNat_of_zero_le h1
  subst hl hn
  rw [aO e1] at y
  apply y.elim
  intro t
  have sz:=Heap.size_push h { cls:=.type "range",data:=.fields #[.int 0 tk,.int (m:Int) t,.int 1 (tk+1)] }
  refine call_range_1 (q ρ h (h.objs.size+1) _ _ _ ((h.push { cls:=.type "range",data:=.fields #[.int 0 tk,.int (m:Int) t,.int 1 (tk+1)] }).push { cls:=.type "range_iterator",data:=.fields #[rawInt 0,rawInt (Builtin.Range.rangeSize 0 (m:Int) 1),rawInt 1] }) (tk+1+1) .refl ok fun Q' E' k=>?_)
  refine wpAny_pyIter_range (IsRange.new ..) (small_one (by decide) (by decide) (Int.le_trans (by decide) h1) h2) ?_
  have hsz:Builtin.Range.rangeSize 0 (m:Int) 1=(m:Int):=by rw [rangeSize_one];split <;> lia
  have z:=k (d8 (fs:=[]) (K:=fun _ _=>True) ok (Wk.range hh (h.objs.size+1) 0 1 m) (Heap.get?_none_of_le (Nat.le_succ _))
   (fun b o e=>Heap.get?_push_of_some _ (Heap.get?_push_of_some _ e)) (by rw [<-sz];exact Heap.get?_push_size _ rfl) rfl dX ?_ trivial (by rw [List.length_map,List.length_range];rfl) (fun _ _ _ _ _ _=>trivial) ?_)
  ·rw [Heap.size_push];exact z
  ·show IsRangeIter _ _ ((0:Int)+((0:Nat):Int)*1) ((m:Int)-((0:Nat):Int)) 1
   rw [show ((0:Int)+((0:Nat):Int)*1)=0 from rfl,show (m:Int)-((0:Nat):Int)=Builtin.Range.rangeSize 0 (m:Int) 1 from (Int.sub_zero _).trans hsz.symm,<-sz]
   exact Heap.get?_push_size _ rfl
  ·intro i r ρ h h' v _ _ _ hr hv
   obtain ⟨t,e⟩:=hv
   subst e
   rw [List.getElem?_map] at hr
   obtain ⟨j,hj,hr⟩:=Option.map_eq_some_iff.mp hr
   obtain ⟨_,hj⟩:=List.getElem?_eq_some_iff.mp hj
   rw [List.getElem_range] at hj
   subst hj hr
   rw [Int.mul_one,Int.zero_add]
   exact .int _ _
theorem ItR.rev {x:Str} {np pos:Pos} {a:Expr} {m:Option (Out (List RV))} {o:Out (List RV)} (hm:aq m (fun l st₁=>(oneOf l).bind fun r=>(tI r).map fun l=>.ok l st₁)=some o) (hh:c.A.handled=none)
  (hf:EvR c γ st (.Name x np) (.ok (.ty "reversed") st)) (y:∀o,m=some o->ElR c γ st pos [a] o) (hst:(backTo pos (starEach [a] c.env)).all (fun x=> !x.1)=true):ItR c γ st target (.Call (.Name x np) [a] [] pos) o:=
 ItR.call1 hm hf y hst fun r l st₁ ρ h tk v Q E hg ok y q=>by
  obtain ⟨l₀,e1,hl⟩:=Option.map_eq_some_iff.mp hg
  subst hl
  rw [cj e1] at y
  refine y.elim (R:=fun v=>wpAny c.M c.A (call (.type "reversed") [v]) Q E ⟨h,c.g,c.d,tk,c.os⟩) fun ax vs f t yl=>?_
  have hI:(h.push (revObj ax ((vs.toArray.size:Int)-1))).IsRevIter h.objs.size ax ((vs.toArray.size:Int)-1):=⟨_,Heap.get?_push_size _ rfl,rfl,rfl⟩
  refine call_reversed_list t (q ρ h h.objs.size _ _ _ _ _ .refl ok fun Q' E' k=>wpAny_pyIter_revIter hI (k ?_))
  obtain ⟨ol,el,cl,nl,dl⟩:=t
  have hk:∀b o,h.get? b=some o->(h.push (revObj ax ((vs.toArray.size:Int)-1))).get? b=some o:=fun b o e=>Heap.get?_push_of_some _ e
  obtain ⟨ok₂,sp₂⟩:=ok.grow hk
  refine d8 (K:=fun ρ h=>RepL ρ h l₀ vs) ok (Wk.rev hh h.objs.size ax (Nat.ne_of_lt (Heap.lt_size el)) vs.toArray) Heap.new_none hk (Heap.get?_push_size _ rfl) rfl (cI ⟨f.1,ol,el,bn ⟨_,_,dl⟩⟩ dX) ⟨Nat.zero_le _,(Int.sub_zero ((vs.toArray.size:Int)-1)).symm▸hI,⟨ol,hk _ _ el,cl,nl,dl⟩⟩ (sp₂.repL yl) (List.length_reverse.trans yl.length.symm)
   fE fun i r ρ h h' v _ q rp e1 e2=>?_
  have hi:=(List.getElem?_eq_some_iff.mp e1).1
  rw [List.length_reverse] at hi
  rw [List.getElem?_reverse hi] at e1
  rw [show vs.toArray.size=l₀.length from q.length] at e2
  exact rp _ _ (q.arr e1 e2)
end
noncomputable def oQ:List (Str×RV)->List (Str×RV)->Option Bool
 | [],_=>some true
 | p::l,l'=>(l'.lookup p.1).elim (some false) fun r'=>(eqv 2 p.2 r').bind fun t=>cond t (oQ l l') (some false)
noncomputable def gq (l l':List (Str×RV)):Option Bool:=if l.length=l'.length then oQ l l' else some false
section
variable {w:World} {A:Around} {s:Shared} {ρ:Pl}
theorem DRep.at {h:Heap} {es:List (Str×Value)} {l:List (Str×RV)} {i:Nat} (d:DRep ρ h es l) (hi:i<l.length):∃v,es[i]? = some (l[i].1,v)/\Rep ρ h l[i].2 v:=by
 induction d generalizing i with
 | nil=>exact absurd hi (Nat.not_lt_zero _)
 | cons a b ih=>cases i with
  | zero=>exact ⟨_,rfl,a⟩
  | succ i=>exact ih (Nat.lt_of_succ_lt_succ hi)
theorem qE {h:Heap} {e':Array DictEntry} {es':List (Str×Value)} {l':List (Str×RV)} (g:Pairs (strKind pw w) e'.toList es') (yb:DRep ρ h es' l') (k:Str) :
  ((e'.findIdx? fun e=>(strKind pw w).is k e.key)=none/\l'.lookup k=none)\/∃j,∃hj:j<e'.size,(e'.findIdx? fun e=>(strKind pw w).is k e.key)=some j/\∃r,l'.lookup k=some r/\Rep ρ h r e'[j].val:=by
 have hf:=findBy_of_findIdx? (strKind pw w).is e' k
 have hv:findBy (strKind pw w).is e' k=valueAt es' k:=by rw [<-g.find k];obtain ⟨t⟩:=e';simp [findBy]
 rw [hv] at hf
 cases q:e'.findIdx? fun e=>(strKind pw w).is k e.key with
 | none=>
  rw [q] at hf
  rcases yb.valueAt (x:=k) with h | ⟨v,r,h1,h2,y⟩
  ·exact .inl ⟨rfl,h.2⟩
  ·exact aP (hf.symm.trans h1)
 | some j=>
  have hj:=(Array.findIdx?_eq_some_iff_getElem.mp q).1
  rw [q] at hf
  have hf:valueAt es' k=(e'[j]?).map (·.val):=hf
  rw [Array.getElem?_eq_getElem hj] at hf
  rcases yb.valueAt (x:=k) with h | ⟨v,r,h1,h2,y⟩
  ·exact aP (h.1.symm.trans hf)
  ·have hv:v=e'[j].val:=Option.some.inj (h1.symm.trans hf)
   exact .inr ⟨j,hj,rfl,r,h2,hv▸y⟩
inductive SI (s:Shared) (n:Nat) (F:Nat->Prop):List Nat->Option Bool×PUnit->Shared->Prop
 | mk (i:Nat) (hi:i<=n) (f:F i):SI s n F (List.range' i (n-i)) (none,⟨⟩) s
theorem lH {id:String} {a b:Addr} {es es':List (Str×Value)} {l l':List (Str×RV)} {z:Bool} {Q:Bool->Shared->Prop} {E:Value->Shared->Prop} (ha:s.heap.DictOf (strKind pw w) a es) (hb:s.heap.DictOf (strKind pw w) b es') (ya:DRep ρ s.heap es l) (yb:DRep ρ s.heap es' l')
  (na:(a==sysModules)=false) (nb:(b==sysModules)=false) (hz:gq l l'=some z) (hu:A.units+4<cLine) (hq:Q z s):wpAny (model pw w) A (Builtin.Dict.samePairs id a b) Q E s:=by
 obtain ⟨o,e,ep,g1,_,g2,g3,g4,_⟩:=ha
 obtain ⟨o',e',ep',g1',_,g2',g3',g4',_⟩:=hb
 have hle:e.size=l.length:=g4.length.trans ya.length
 have hle':e'.size=l'.length:=g4'.length.trans yb.length
 unfold Builtin.Dict.samePairs Builtin.Dict.showsAll
 refine wpAny_bind (fX (by rw [na];exact Bool.false_ne_true) (wpAny_pure ?_))
 refine wpAny_bind (fX (by rw [nb];exact Bool.false_ne_true) (wpAny_pure ?_))
 refine wpAny_bind (wpAny_dictEntries g1 g2 (wpAny_bind (wpAny_dictEntries g1' g2' ?_)))
 unfold gq at hz
 by_cases hn:l.length=l'.length
 ·rw [if_pos hn] at hz
  refine fX (by rw [hle,hle',hn,bne_self_eq_false];exact Bool.false_ne_true) (wpAny_bind (wpAny_dictEpoch g1 g2 (wpAny_bind ?_)))
  rw [Std.Legacy.Range.forIn_eq_forIn_range']
  simp only [Std.Legacy.Range.size,Nat.sub_zero,Nat.add_sub_cancel,Nat.div_one]
  refine wpAny_forIn_list _ (SI s e.size fun i=>oQ (l.drop i) l'=some z) _ ?_ ?_ _ _ (.mk 0 (Nat.zero_le _) hz)
  ·intro x rest r s' hI
   generalize hr:x::rest=R at hI
   obtain ⟨i,hi,hd⟩:=hI
   have hlt:i<e.size:=by
    rcases Nat.lt_or_eq_of_le hi with h | h
    ·exact h
    ·rw [h,Nat.sub_self] at hr;exact nomatch hr
   rw [show e.size-i=(e.size-(i+1))+1 from (Nat.succ_pred_eq_of_pos (Nat.sub_pos_of_lt hlt)).symm,List.range'_succ] at hr
   injection hr with h1 h2
   subst h1 h2
   refine wpAny_bind (wpAny_dictEntries g1 g2 ?_)
   rw [Array.getElem?_eq_getElem hlt]
   have hll:x<l.length:=hle▸hlt
   obtain ⟨v,hkv,yv⟩:=ya.at hll
   obtain ⟨hkey,hval⟩:=g4.get? (e:=e[x]) (Array.getElem?_toList.trans (Array.getElem?_eq_getElem hlt)) hkv
   obtain ⟨k',hkey',hhash⟩:=g3 e[x] (Array.getElem_mem hlt)
   have hk:=(strKind pw w).inj _ _ _ hkey' hkey
   subst hk
   rw [List.drop_eq_getElem_cons hll] at hd
   have hd:((l'.lookup l[x].1).elim (some false) fun r'=>(eqv 2 l[x].2 r').bind fun t=>cond t (oQ (l.drop (x+1)) l') (some false))=some z:=hd
   show wpAny _ _ (holding _ (dictFind b e[x].key e[x].hash >>= _) >>= _) _ _ _
   rw [hhash]
   refine wpAny_bind (wpAny_holding (wpAny_bind (wpAny_dictFind_of hkey g1' g2' g3' ?_)))
   rcases qE g4' yb l[x].1 with ⟨e1,e2⟩ | ⟨j,hj,e1,r',e2,y'⟩
   ·rw [e2] at hd
    rw [e1]
    exact wpAny_pure (wpAny_pure (wpAny_pure (Option.some.inj hd▸hq)))
   ·rw [e2] at hd
    obtain ⟨q,hq',hd⟩:=Option.bind_eq_some_iff.mp hd
    rw [e1]
    refine wpAny_bind (wpAny_dictEntries g1' g2' ?_)
    rw [Array.getElem?_eq_getElem hj]
    show wpAny _ _ (holding _ (eqBool e[x].val e'[j].val)) _ _ _
    rw [hval]
    refine wpAny_holding (nK 2 A _ _ _ _ _ (Nat.lt_of_succ_lt hu) yv y' hq' pw w _ _ ?_)
    cases q with
    | true=>
     show wpAny _ _ (dictEpoch a >>= _) _ _ _
     exact wpAny_bind (wpAny_dictEpoch g1 g2 (fX (by rw [bne_self_eq_false];exact Bool.false_ne_true) (wpAny_pure (.mk (x+1) hlt hd))))
    | false=>exact wpAny_pure (wpAny_pure (Option.some.inj hd▸hq))
  ·intro r s' hI
   generalize hr:[]=R at hI
   obtain ⟨i,hi,hd⟩:=hI
   rcases Nat.lt_or_eq_of_le hi with h | h
   ·rw [show e.size-i=(e.size-(i+1))+1 from (Nat.succ_pred_eq_of_pos (Nat.sub_pos_of_lt h)).symm,List.range'_succ] at hr
    exact qm hr
   ·rw [h,hle,List.drop_length] at hd
    exact wpAny_pure (Option.some.inj hd▸hq)
 ·rw [if_neg hn] at hz
  exact xo (by rw [hle,hle'];exact bne_iff_ne.mpr hn) (wpAny_bind (wpAny_rule (wpAny_pure (Option.some.inj hz▸hq))))
theorem j9 (wanted:Bool) {name:String} {a b:Addr} {es es':List (Str×Value)} {l l':List (Str×RV)} {z:Bool} {Q:Fin->Shared->Prop} {E:Value->Shared->Prop} (ha:s.heap.DictOf (strKind pw w) a es) (hb:s.heap.DictOf (strKind pw w) b es') (ya:DRep ρ s.heap es l) (yb:DRep ρ s.heap es' l')
  (na:(a==sysModules)=false) (nb:(b==sysModules)=false) (hz:gq l l'=some z) (hu:A.units+4<cLine) (hq:Q (.done (.ret (.bool (z==wanted)))) s) :
  wpAny (model pw w) A (do
   let (self,other)<-Builtin.Dict.dictSlotArgs name ⟨[.ref a,.ref b],[]⟩
   if !(<-isInstance other (.type "dict")) then rule s!"dict.{name}.not-a-dict";return<-ret .notImplemented
   ret (.bool ((<-Builtin.Dict.samePairs s!"dict.{name}" (<-Builtin.Dict.addrOf self) (<-Builtin.Dict.addrOf other))==wanted))) Q E s:=by
 unfold Builtin.Dict.dictSlotArgs
 refine wpAny_bind (wpAny_bind (wpAny_notOrdered_dict ha.typeIs ?_))
 show wpAny _ _ (pure (Value.ref a,Value.ref b)) _ _ _
 refine wpAny_pure (wpAny_bind (wpAny_isInstance hb.typeIs isSubtype_dict_dict (fX Bool.false_ne_true ?_)))
 show wpAny _ _ (Builtin.Dict.samePairs _ a b >>= _) _ _ _
 exact wpAny_bind (lH ha hb ya yb na nb hz hu (wpAny_pure hq))
end
noncomputable def o0 (l l':List RV):Option Bool:=if l.length=l'.length then (if l.length=0 then some true else none) else some false
noncomputable def ue (st:ai) (i j:Nat):Option Bool:=((dictAt st i).bind fun l=>(dictAt st j).bind fun l'=>gq l l').or ((listAt st i).bind fun l=>(listAt st j).bind fun l'=>o0 l l')
noncomputable def dh (op:CmpOp) (st:ai) (a b:RV):Option Bool:=a.asObj.elim (xJ op st a b) fun i=>b.asObj.elim (xJ op st a b) fun j=>match op with
 | .Eq=>ue st i j
 | .NotEq=>(ue st i j).map (!·)
 | _=>none
section
variable {c:Cx} {γ:Lo} {st:ai} {ρ ρ₀:Pl} {h h₀:Heap} {tk:Nat}
noncomputable def xh (wanted:Bool):CmpOp:=cond wanted .Eq .NotEq
theorem vP {a b:Addr} {es es':List (Str×Value)} {l l':List (Str×RV)} {z:Bool} (da:h.DictOf (strKind pw c.w) a es) (db:h.DictOf (strKind pw c.w) b es') (ya:DRep ρ h es l) (yb:DRep ρ h es' l') (na:(a==sysModules)=false) (nb:(b==sysModules)=false) (hz:gq l l'=some z) (ok:Ok c ρ γ st h) (wanted:Bool) :
  TR c c.rv ρ γ h tk (richCompare (xh wanted) (.ref a) (.ref b)) (.ok (.bool (z==wanted)) st):=by
 have hu:c.A.units+1+4<cLine:=Nat.lt_of_le_of_lt (Nat.le_trans (Nat.add_le_add_left (show 5<=8 by decide) c.A.units) (Nat.add_le_add_right (Nat.le_add_right _ (8*c.n)) 8)) c.units
 have q:=TR.ends (c:=c) (γ:=γ) (st:=st) (tk:=tk) (rel:=c.rv) .refl ok (Rep.bool (ρ:=ρ) (h:=h) (z==wanted))
 cases wanted with
 | false=>exact wpAny_richCompare_same_room (op:=.NotEq) da.typeIs db.typeIs F.slot_dict_ne (call_meetsIn (S:=fun A R s=>A=c.A/\s=⟨h,c.g,c.d,tk,c.os⟩/\R (.ok (.ret (.bool (z==false)))) s) F.slot_dict_ne da.typeIs F.entry_dict_ne (F.args_dict_ne_2 _ _) (fun A R s hS=>by
   obtain ⟨rfl,rfl,hR⟩:=hS
   exact j9 false (name:="__ne__") da db ya yb na nb hz hu hR) ⟨rfl,rfl,(fun x=>nomatch x),q⟩) (Nat.lt_of_le_of_lt (by lia) c.units)
 | true=>exact wpAny_richCompare_same_room (op:=.Eq) da.typeIs db.typeIs F.slot_dict_eq (call_meetsIn (S:=fun A R s=>A=c.A/\s=⟨h,c.g,c.d,tk,c.os⟩/\R (.ok (.ret (.bool (z==true)))) s) F.slot_dict_eq da.typeIs F.entry_dict_eq (F.args_dict_eq_2 _ _) (fun A R s hS=>by
   obtain ⟨rfl,rfl,hR⟩:=hS
   exact j9 true (name:="__eq__") da db ya yb na nb hz hu hR) ⟨rfl,rfl,(fun x=>nomatch x),q⟩) (Nat.lt_of_le_of_lt (by lia) c.units)
theorem mc {n:Nat} (h:n=0):((List.range n).all fun _=>true)=true:=by subst h;rfl
theorem vp {a b:Addr} {vs vs':List Value} {z:Bool} (ta:h.IsList a vs.toArray) (tb:h.IsList b vs'.toArray) (hz:(if vs.length=vs'.length then (if vs.length=0 then some true else none) else some false)=some z) (ok:Ok c ρ γ st h) (wanted:Bool) :
  TR c c.rv ρ γ h tk (richCompare (xh wanted) (.ref a) (.ref b)) (.ok (.bool (z==wanted)) st):=by
 have hu:c.A.units+8<cLine:=Nat.lt_of_le_of_lt (Nat.add_le_add_right (Nat.le_add_right _ (8*c.n)) 8) c.units
 have q:=TR.ends (c:=c) (γ:=γ) (st:=st) (tk:=tk) (rel:=c.rv) .refl ok (Rep.bool (ρ:=ρ) (h:=h) (z==wanted))
 by_cases hl:vs.length=vs'.length
 ·obtain ⟨h0,e⟩:=Option.ite_none_right_eq_some.mp ((if_pos hl).symm.trans hz)
  have e:=Option.some.inj e
  subst e
  cases wanted with
  | false=>
   have:=SeqAt.RcNeAt.lists (s:=⟨h,c.g,c.d,tk,c.os⟩) (A:=c.A) (e:=fun _=>true) ta tb hl (by lia) (fun k h1 _=>absurd (Nat.lt_of_lt_of_eq h1 h0) (Nat.not_lt_zero k))
   rw [mc (show vs.toArray.size=0 from h0)] at this
   exact this _ _ _ _ q
  | true=>
   have:=SeqAt.RcAt.lists (s:=⟨h,c.g,c.d,tk,c.os⟩) (A:=c.A) (e:=fun _=>true) ta tb hl (by lia) (fun k h1 _=>absurd (Nat.lt_of_lt_of_eq h1 h0) (Nat.not_lt_zero k))
   rw [mc (show vs.toArray.size=0 from h0)] at this
   exact this _ _ _ _ q
 ·have e:=Option.some.inj ((if_neg hl).symm.trans hz)
  subst e
  cases wanted with
  | false=>exact SeqAt.RcNeAt.lists_lengths ta tb (bne_iff_ne.mpr hl) (by lia) _ _ _ _ q
  | true=>exact SeqAt.RcAt.lists_lengths ta tb (bne_iff_ne.mpr hl) (by lia) _ _ _ _ q
theorem pX {i j:Nat} {z:Bool} (hz:ue st i j=some z) {v₁ v₂:Value} (ok:Ok c ρ γ st h) (y₁:Rep ρ h (.obj i) v₁) (y₂:Rep ρ h (.obj j) v₂) (wanted:Bool) :
  TR c c.rv ρ γ h tk (richCompare (xh wanted) v₁ v₂) (.ok (.bool (z==wanted)) st):=by
 apply y₁.elim
 intro a hi
 apply y₂.elim
 intro b hj
 rcases Option.or_eq_some_iff.mp hz with hz | ⟨_,hz⟩
 ·obtain ⟨l,e1,hz⟩:=Option.bind_eq_some_iff.mp hz
  obtain ⟨l',e2,hz⟩:=Option.bind_eq_some_iff.mp hz
  obtain ⟨es,da,ya⟩:=ok.dictAt hi (bg e1)
  obtain ⟨es',db,yb⟩:=ok.dictAt hj (bg e2)
  exact vP da db ya yb (ok.notSys (List.mem_of_getElem? hi) (ew _)) (ok.notSys (List.mem_of_getElem? hj) (ew _)) hz ok wanted
 ·obtain ⟨l,e1,hz⟩:=Option.bind_eq_some_iff.mp hz
  obtain ⟨l',e2,hz⟩:=Option.bind_eq_some_iff.mp hz
  obtain ⟨vs,n,ea,ya⟩:=ok.listAt hi (listAt_eq e1)
  obtain ⟨vs',n',eb,yb⟩:=ok.listAt hj (listAt_eq e2)
  exact vp (dN ea) (dN eb) (by rw [ya.length,yb.length];exact hz) ok wanted
theorem iz {op:CmpOp} {a b:RV} {z:Bool} (hz:dh op st a b=some z):Op2 c γ (compareOp op) a b st (.bool z):=by
 unfold dh at hz
 cases ea:a.asObj with
 | none=>rw [ea] at hz;exact pn hz
 | some i=>
  cases eb:b.asObj with
  | none=>rw [ea,eb] at hz;exact pn hz
  | some j=>
   rw [ea,eb] at hz
   rw [ck ea,ck eb]
   cases op with
   | Eq=>exact fun ρ h tk v₁ v₂ ok y₁ y₂=>by have:=pX (tk:=tk) hz ok y₁ y₂ true;rw [beq_true] at this;exact this
   | NotEq=>
    obtain ⟨z',hz',e⟩:=Option.map_eq_some_iff.mp hz
    subst e
    exact fun ρ h tk v₁ v₂ ok y₁ y₂=>by have:=pX (tk:=tk) hz' ok y₁ y₂ false;rw [beq_false] at this;exact this
   | _=>exact aP hz
end
section
variable {c:Cx} {γ:Lo} {st:ai} {ρ ρ₀:Pl} {h h₀:Heap} {tk:Nat} {pos:Pos}
noncomputable def ow (k:ai->Option (Out RV)) (v:ai->Option (Out RV)) (st:ai):Option (Out RV):=
 aq (k (st++[.dict []])) fun a s₁=>aq (v s₁) fun b s₂=>a.asStr.bind fun x=>(dictAt s₂ st.length).bind fun es=>if es.isEmpty=true then some (.ok (.obj st.length) (s₂.set st.length (.dict [(x,b)]))) else none
theorem DRep.nil_eq {es:List (Str×Value)} (y:DRep ρ h es []):es=[]:=by cases y;rfl
theorem Ok.dict_new (ok:Ok c ρ γ st h):Ok c (ρ.snoc h.objs.size) γ (st++[.dict []]) (h.push { cls:=.type "dict",data:=.dict #[] })/\c.Step ρ h (ρ.snoc h.objs.size) (h.push { cls:=.type "dict",data:=.dict #[] }):=
 ok.new (a:=h.objs.size) (o:=.dict []) (h':=h.push { cls:=.type "dict",data:=.dict #[] }) Heap.new_none (fun b o e=>Heap.get?_push_of_some _ e) fun rp=>.dict (Heap.DictOf.new h) .nil
theorem EvR.dict0:EvR c γ st (.Dict [] [] pos) (.ok (.obj st.length) (st++[.dict []])):=fun ρ h tk ok=>
 wpAny_Dict_empty (TR.ends ok.dict_new.2 ok.dict_new.1 (.obj (by rw [<-ok.sto.len];exact Pl.snoc_at)))
theorem EvR.dict1 {ke ve:Expr} {k v:ai->Option (Out RV)} {o:Out RV} (hm:ow k v st=some o) (x:∀st o,k st=some o->EvR c γ st ke o) (y:∀st o,v st=some o->EvR c γ st ve o):EvR c γ st (.Dict [some ke] [ve] pos) o:=fun ρ h tk ok=>by
 refine wpAny_Dict_pairs (knd:=strKind pw c.w) (pairs:=[(eval ke c.env,do let x<-eval ve c.env;standAt pos;pure x)]) rfl (by simp) (cn rfl) (evalPairs_cons ?_)
 obtain ⟨ok₁,sp₁⟩:=ok.dict_new
 have hat:(ρ.snoc h.objs.size).vis[st.length]? = some h.objs.size:=by rw [<-ok.sto.len];exact Pl.snoc_at
 refine TR.seq hm (fun o e=>x _ o e _ _ tk ok₁) sp₁ fun a va ρ₂ st₂ h₂ tkJ hmQ ok₂ sp₂ sp₂' ya=>?_
 refine wpAny_bind (TR.seq hmQ (fun o e=>y _ o e _ _ tkJ ok₂) sp₂ fun b vb ρ₃ stQ h₃ tkZ hmZ ok₃ sp₃ sp₃' yb=>wpAny_bind (wpAny_standAt (wpAny_pure (evalPairs_nil ?_))))
 obtain ⟨s,e1,hmZ⟩:=Option.bind_eq_some_iff.mp hmZ
 obtain ⟨es,e2,hmZ⟩:=Option.bind_eq_some_iff.mp hmZ
 obtain ⟨e3,hmZ⟩:=Option.ite_none_right_eq_some.mp hmZ
 have e4:=List.isEmpty_iff.mp e3
 have hf:=Option.some.inj hmZ
 subst e4 hf
 rw [bO e1] at ya
 have hatQ:=sp₃'.pre.1 _ _ (sp₂'.pre.1 _ _ hat)
 obtain ⟨kvs,d,r⟩:=ok₃.dictAt hatQ (bg e2)
 have e:=r.nil_eq
 subst e
 apply (sp₃'.rep ya).elim
 intro t
 refine ⟨[(s,vb)],⟨strKind_is _ _ _ _,rfl,trivial⟩,d,fun h' hm hsb=>?_⟩
 obtain ⟨ok₄,sp₄⟩:=ok₃.set (o:=.dict [(s,b)]) hatQ (fun b o hb e=>(hsb.2 b hb).trans e) (DictOf.there hm) fun rp=>.dict hm (.cons (rp yb) .nil)
 exact TR.ends (sp₃.trans sp₄) ok₄ (.obj (sp₄.pre.1 _ _ hatQ))
noncomputable def oo (l:List RV) (st:ai):Option (Out RV):=(oneOf l).bind fun r=>r.asObj.bind fun i=>(dictAt st i).bind fun es=>if es.length<16777216 then some (.ok (.obj st.length) (st++[.dict es])) else none
theorem EvR.dcopy {x:Str} {np:Pos} {args:List Expr} {m:Option (Out (List RV))} {o:Out RV} (hm:aq m oo=some o) (hf:EvR c γ st (.Name x np) (.ok (.ty "dict") st)) (y:∀o,m=some o->ElR c γ st pos args o)
  (hst:(backTo pos (starEach args c.env)).all (fun x=> !x.1)=true):EvR c γ st (.Call (.Name x np) args [] pos) o:=fun ρ h tk ok=>
 wpAny_Call_ofName (TR.known (hf ρ h tk ok) .refl fun v ρQ h₁ tkQ ok₁ sp₁ _ yf=>by
  apply yf.elim
  refine callWith_type hst (TR.seq hm (fun o e=>y o e ρQ h₁ tkQ ok₁) sp₁ fun rs vs ρ₂ st₂ h₂ tkJ hmQ ok₂ sp₂ _ yr=>?_)
  obtain ⟨r,e1,hmQ⟩:=Option.bind_eq_some_iff.mp hmQ
  obtain ⟨i,e2,hmQ⟩:=Option.bind_eq_some_iff.mp hmQ
  obtain ⟨l,e3,hmQ⟩:=Option.bind_eq_some_iff.mp hmQ
  obtain ⟨hl,hmQ⟩:=Option.ite_none_right_eq_some.mp hmQ
  have hmQ:=Option.some.inj hmQ
  subst hmQ
  rw [aR e1,ck e2] at yr
  apply yr.one
  intro v yv
  apply yv.elim
  intro a hi
  obtain ⟨es,d,r⟩:=ok₂.dictAt hi (bg e3)
  refine kt_call_dict (knd:=strKind pw c.w) (ok₂.notSys (List.mem_of_getElem? hi) (ew _)) d (by rw [r.length,sizeLine_eq];exact Nat.le_of_lt hl) fun h' hm hsb=>?_
  obtain ⟨ok₃,sp₃⟩:=ok₂.new (a:=h₂.objs.size) (o:=.dict l) (h':=h') Heap.new_none (fun b o e=>(hsb.2 b (Nat.ne_of_lt (Heap.lt_size e))).trans (Heap.get?_push_of_some _ e)) fun rp=>.dict hm (r.step rp)
  exact TR.ends (sp₂.trans sp₃) ok₃ (.obj (by rw [<-ok₂.sto.len];exact Pl.snoc_at)))
theorem EvR.chain {l r₁ r₂:Expr} {opZ opJ:CmpOp} {m:Option (Out RV)} {n n':ai->Option (Out RV)} {o:Out RV}
  (hm:aq m (fun a s₁=>aq (n s₁) fun b s₂=>(dh opZ s₂ a b).bind fun t=>if t then aq (n' s₂) fun d s₃=>(dh opJ s₃ b d).map fun z=>.ok (.bool z) s₃ else some (.ok (.bool false) s₂))=some o)
  (x:∀o,m=some o->EvR c γ st l o) (y:∀st₁ o,n st₁=some o->EvR c γ st₁ r₁ o) (z:∀st₁ o,n' st₁=some o->EvR c γ st₁ r₂ o) (hb:lastMarks [opZ,opJ] [r₁,r₂]=false):EvR c γ st (.Compare l [opZ,opJ] [r₁,r₂] pos) o:=fun ρ h tk ok=>
 Compare_chain (hm:=hb) (TR.seq hm (fun o e=>x o e ρ h tk ok) .refl fun a va ρQ st₁ h₁ tkQ hmJ ok₁ sp₁ _ ya=>chain_link
  (TR.seq hmJ (fun o e=>y _ o e ρQ h₁ tkQ ok₁) sp₁ fun b vb ρ₂ st₂ h₂ tkJ hmQ ok₂ sp₂ sp₂' yb=>by
   obtain ⟨t,ht,hmQ⟩:=Option.bind_eq_some_iff.mp hmQ
   refine TR.known (iz ht ρ₂ h₂ tkJ va vb ok₂ (sp₂'.rep ya) yb) sp₂ fun v ρ₃ h₃ tkZ ok₃ sp₃ sp₃' yv=>?_
   apply yv.elim
   refine wpAny_truthy_bool ?_
   cases t with
   | false=>exact TR.ends' hmQ sp₃ ok₃ (.bool _)
   | true=>
    refine chain_last (TR.seq hmQ (fun o e=>z _ o e ρ₃ h₃ tkZ ok₃) sp₃ fun d vd ρJ stZ h₄ tkA hmE ok₄ sp₄ sp₄' yd=>?_)
    obtain ⟨q,hq,e⟩:=Option.map_eq_some_iff.mp hmE
    exact (e▸iz hq ρJ h₄ tkA vb vd ok₄ (sp₄'.rep (sp₃'.rep yb)) yd:TR c c.rv ρJ γ h₄ tkA _ o).from sp₄))
end
inductive IK where
 | one | zip | range | rev
structure cK where
 q:Bool
 n:Nat
 run:Bool->Nat->Addr->List RV->ai->Option (Out RV)
noncomputable def wV (q:Bool) (r:RV) (st:ai):Option (Out (List RV)):=(r.asLst.or (cond q r.asTup none)).map fun l=>.ok l st
noncomputable def uy (q:Bool) (l:List RV) (st:ai):Option (Out (List RV)):=(oneOf l).bind fun r=>wV q r st
noncomputable def xq (l:List RV) (st:ai):Option (Out (List RV)):=(oneOf l).bind fun r=>(iZ r).map fun l=>.ok l st
noncomputable def zW (l:List RV) (st:ai):Option (Out (List RV)):=(oneOf l).bind fun r=>(tI r).map fun l=>.ok l st
noncomputable def sT (q:Bool) (ik:IK) (m:Option (Out (List RV))):Option (Out (List RV)):=match ik with
 | .one=>aq m (uy q)
 | .zip=>if q then aq m zD else none
 | .range=>if q then aq m xq else none
 | .rev=>if q then aq m zW else none
noncomputable def u6 (l:List RV) (st:ai):Option (Out RV):=(oneOf l).bind fun r=>r.asInt.bind fun i=>if i.natAbs.log2<1920 then some (.ok (.str (Str.ofString (toString i))) st) else none
noncomputable def RV.asStat:RV->Option Addr
 | .stat a=>some a
 | _=>.none
noncomputable def pJ (run:Addr->List RV->ai->Option (Out RV)) (a:RV) (l:List RV) (st:ai):Option (Out RV):=a.asStat.elim ((sI st a).bind fun p=>run p.1 (.obj p.2::l) st) fun f=>run f l st
noncomputable def fnAddrs:List Addr:=[72,79,86,93,100,107,114,121,128,135,142,149,156,177,198,205,212,219,234,248,255,262,269,274,282,289,296,303,310,317,324,352,359,366,373,380,408,513,536,541,555,562,567,572,586,593,607,626,633,696,703,710,715,722,727,734,741,748,755,760,765]
noncomputable def uw:RV->Bool
 | .stat f=>fnAddrs.contains f
 | .obj _=>true
 | _=>false
noncomputable def iv (γ:Lo) (i:Nat) (st:ai):Option (Out RV):=(γ[i]?).join.map fun r=>.ok r st
noncomputable abbrev Ba:=cK->Lo->ai->Option (Out RV)
noncomputable abbrev AZ:=cK->Lo->ai->Option (Out (List RV))
noncomputable abbrev fU:AZ:=fun _ _ _=>none
structure Info where
 names:List Str
 kind:Str->Option NameKind
 full:Bool
noncomputable def tupTab:List (Str×List Str):=[("LOGIC",["AND","OR","XOR","EQV","IMP"]),("COMPARISONS",["=","<>","<",">","<=",">="])]
noncomputable def Info.glob (I:Info) (x:Str):Bool:=decide (I.kind x=some .globalImplicit) && !(x==("__debug__":Str))
noncomputable def aB {α:Type} {q:α->Prop} (x:Option { a:α // q a }) (f:α->Bool):Bool:=az x fun a=>f a.1
theorem au {α:Type} {q:α->Prop} {x:Option { a:α // q a }} {f:α->Bool} (h:aB x f=true):∃a,q a/\f a=true:=(aj h).elim fun a y=>⟨a.1,a.2,y.2⟩
noncomputable def gh {α β:Type} {q:α->Prop} (x:Option { a:α // q a }) (f:α->Option β):Option β:=x.bind fun a=>f a.1
theorem cC {α β:Type} {q:α->Prop} {x:Option { a:α // q a }} {f:α->Option β} {b:β} (h:gh x f=some b):∃a,q a/\f a=some b:=(Option.bind_eq_some_iff.mp h).elim fun a y=>⟨a.1,a.2,y.2⟩
noncomputable def fc (e:Expr):Option { x:Str // ∃p,e=.Name x p }:=match e with
 | .Name x p=>some ⟨x,⟨_,rfl⟩⟩
 | _=>none
noncomputable def iW (e:Expr):Option { x:Const // ∃k p,e=.Constant x k p }:=match e with
 | .Constant x k p=>some ⟨x,⟨_,_,rfl⟩⟩
 | _=>none
noncomputable def tW (e:Expr):Option { x:Operator×Expr×Expr // ∃p,e=.BinOp x.2.1 x.1 x.2.2 p }:=match e with
 | .BinOp l op r p=>some ⟨(op,l,r),⟨_,rfl⟩⟩
 | _=>none
noncomputable def nc (e:Expr):Option { x:UnaryOp×Expr // ∃p,e=.UnaryOp x.1 x.2 p }:=match e with
 | .UnaryOp op l p=>some ⟨(op,l),⟨_,rfl⟩⟩
 | _=>none
noncomputable def as_bool (e:Expr):Option { x:BoolOp×List Expr×Pos // e=.BoolOp x.1 x.2.1 x.2.2 }:=match e with
 | .BoolOp op es p=>some ⟨(op,es,p),rfl⟩
 | _=>none
noncomputable def lv (e:Expr):Option { x:Expr×List CmpOp×List Expr // ∃p,e=.Compare x.1 x.2.1 x.2.2 p }:=match e with
 | .Compare l ops rs p=>some ⟨(l,ops,rs),⟨_,rfl⟩⟩
 | _=>none
noncomputable def rN (e:Expr):Option { x:Expr×Expr×Expr // ∃p,e=.IfExp x.1 x.2.1 x.2.2 p }:=match e with
 | .IfExp t a b p=>some ⟨(t,a,b),⟨_,rfl⟩⟩
 | _=>none
noncomputable def jO (e:Expr):Option { x:List Expr // ∃k p,e=.Tuple x k p }:=match e with
 | .Tuple x k p=>some ⟨x,⟨_,_,rfl⟩⟩
 | _=>none
noncomputable def lm (e:Expr):Option { x:List Expr // ∃p,e=.List x p }:=match e with
 | .List x p=>some ⟨x,⟨_,rfl⟩⟩
 | _=>none
noncomputable def iI (e:Expr):Option { x:List (Option Expr)×List Expr // ∃p,e=.Dict x.1 x.2 p }:=match e with
 | .Dict ks vs p=>some ⟨(ks,vs),⟨_,rfl⟩⟩
 | _=>none
noncomputable def dy (e:Expr):Option { x:Expr×Expr // ∃p,e=.Subscript x.1 x.2 p }:=match e with
 | .Subscript a s p=>some ⟨(a,s),⟨_,rfl⟩⟩
 | _=>none
noncomputable def eV (e:Expr):Option { x:Expr×Str×Pos // e=.Attribute x.1 x.2.1 x.2.2 }:=match e with
 | .Attribute o an p=>some ⟨(o,an,p),rfl⟩
 | _=>none
noncomputable def l6 (e:Expr):Option { x:Expr×List Expr×List Keyword×Pos // e=.Call x.1 x.2.1 x.2.2.1 x.2.2.2 }:=match e with
 | .Call f args kw p=>some ⟨(f,args,kw,p),rfl⟩
 | _=>none
noncomputable def pM (e:Expr):Option { x:Expr×List Comprehension×Scope×Pos // e=.ListComp x.1 x.2.1 x.2.2.1 x.2.2.2 }:=match e with
 | .ListComp elt gens scope p=>some ⟨(elt,gens,scope,p),rfl⟩
 | _=>none
noncomputable def dO (e:Expr):Option { x:Option Expr×Option Expr×Option Expr // ∃p,e=.Slice x.1 x.2.1 x.2.2 p }:=match e with
 | .Slice lo hi step p=>some ⟨(lo,hi,step),⟨_,rfl⟩⟩
 | _=>none
noncomputable def cz:Expr->Bool
 | .Starred .. =>false
 | _=>true
noncomputable def lO:Expr->Bool
 | .Set .. =>false
 | _=>true
noncomputable def gb:Expr->Bool
 | .ListComp .. =>false
 | .SetComp .. =>false
 | .DictComp .. =>false
 | _=>true
noncomputable def iS (op:BoolOp) (pos:Pos) (y:Expr) (l:List Expr):Expr:=match l with
 | []=>y
 | z::l=>.BoolOp op (y::z::l) pos
noncomputable def gC (l:List Expr):Option (Expr×Expr×List Expr):=match l with
 | x::y::l=>some (x,y,l)
 | _=>none
theorem jP {l:List Expr} {x:Expr×Expr×List Expr} (h:gC l=some x):l=x.1::x.2.1::x.2.2:=by
 cases l with
 | nil=>exact aP h
 | cons a l=>cases l with
  | nil=>exact aP h
  | cons b l=>rw [<-Option.some.inj h]
noncomputable def jq {α:Type} (l:List α):Option (α×List α):=match l with
 | x::l=>some (x,l)
 | _=>none
theorem kQ {α:Type} {l:List α} {x:α×List α} (h:jq l=some x):l=x.1::x.2:=by
 cases l with
 | nil=>exact aP h
 | cons a l=>rw [<-Option.some.inj h]
noncomputable def lK (k:Const) (r:RV):Bool:=match k with
 | .int i=>decide (r.asInt=some i)
 | .str s=>decide (r.asStr=some s)
 | .bool b=>decide (r.asBool=some b)
 | .none=>isNone r
 | _=>false
noncomputable def za (l:List RV) (t:List Str):Bool:=decide (l.map RV.asStr=t.map some)
noncomputable def si (x:Str) (r:RV):Bool:=match r with
 | .stat a=>decide (fnTab.lookup x=some a)
 | .int i=>decide (intTab.lookup x=some i)
 | .ty s=>decide (tyTab.lookup x=some s)
 | .tup l=>az (tupTab.lookup x) (za l)
 | _=>false
noncomputable def nO (C:Addr):Addr:=if C=237 then 234 else if C=685 then 586 else 177
noncomputable def cJ (I:Info) (e:Expr) (ok:Str->Bool):Option (List Expr):=gh (l6 e) fun p=>gh (fc p.1) fun x=>er (p.2.2.1.isEmpty&&p.2.1.all cz&&I.glob x&&ok x) p.2.1
noncomputable def rt (I:Info) (e:Expr) (i:Nat):Option (List Expr):=gh (l6 e) fun p=>gh (fc p.1) fun x=>er (p.2.2.1.isEmpty&&p.2.1.all cz&&decide (I.names[i]? = some x)) p.2.1
noncomputable def callA (e:Expr) (ok:Str->Bool):Option (Expr×Str×List Expr):=gh (l6 e) fun p=>gh (eV p.1) fun q=>er (p.2.2.1.isEmpty&&p.2.1.all cz&&decide (p.2.1.length<29)&&cN q.1&&(q.2.2.endLine==p.2.2.2.line)&&ok q.2.1) (q.1,q.2.1,p.2.1)
noncomputable def mE (e:Expr) (ok:Str->Bool):Option (Expr×Str):=gh (eV e) fun p=>er (cN p.1&&ok p.2.1) (p.1,p.2.1)
noncomputable def mS (e:Expr):Bool:=aB (nc e) fun p=>decide (p.1=.USub)&&aB (iW p.2) fun k=>decide (k=.int 1)
noncomputable def eQ (I:Info) (scope:Scope) (tn:List Str) (fi:List Nat):Info:=
 { names:=tn++fi.filterMap (I.names[·]?),kind:=fun x=>(scope.names.map fun (n,k)=>if (k==NameKind.free&&I.kind n==some .cell) then (n,NameKind.cell) else (n,k)).lookup x,full:=false }
noncomputable def tU (I:Info) (scope:Scope) (tn:List Str) (fi:List Nat):Bool:=
 I.full&&rL scope.kind&&kS (scope.names.map (·.1))&&scope.names.all (fun p=> !(p.2==.cell))&&scope.names.all (fun p=> !(p.2==.free)||(I.names.contains p.1&&decide (I.kind p.1=some .cell))) &&
  tn.all (fun x=>scope.names.contains (x,.local) && !(x==("__debug__":Str)))&&fi.all (fun i=>az I.names[i]? fun x=>scope.names.contains (x,.free))&&kS (eQ I scope tn fi).names
noncomputable def fN (ik:IK) (I:Info) (target iter:Expr):Option (List Expr):=match ik with
 | .one=>er (lO iter) [iter]
 | .zip=>(cJ I iter fun x=>decide (tyTab.lookup x=some "zip")).bind fun l=>er (decide (l.length=2)&&(jO target).isSome) l
 | .range=>(cJ I iter fun x=>decide (tyTab.lookup x=some "range")).bind fun l=>er (decide (l.length=1)) l
 | .rev=>(cJ I iter fun x=>decide (tyTab.lookup x=some "reversed")).bind fun l=>er (decide (l.length=1)) l
noncomputable def lX (I:Info) (T:Tg) (tn:List Str) (fi:List Nat) (e:Expr):Option (Expr×Expr×Expr×Scope×Pos):=gh (pM e) fun p=>(oneOf p.2.1).bind fun g=>
 er (g.ifs.isEmpty&&decide (g.is_async=0)&&tU I p.2.2.1 tn fi&&T.isT (tn++fi.filterMap (I.names[·]?)) g.target&&T.idx.all (fun i=>decide (i<tn.length))) (p.1,g.target,g.iter,p.2.2.1,p.2.2.2)
noncomputable abbrev A4:=Info->Bool->Expr->Bool
noncomputable abbrev AS:=Info->List Expr->Bool
noncomputable abbrev fS:AS:=fun _ _=>false
structure Cod where
 e:Ba
 l:AZ
 c:A4
 k:AS
noncomputable def Cod.bad  : Cod:=⟨fun _ _ _=>none,fU,fun _ _ _=>true,fS⟩
noncomputable def Cod.loc (i:Nat):Cod:=⟨fun _ γ st=>iv γ i st,fU,fun I _ e=>aB (fc e) fun x=>decide (I.names[i]? = some x),fS⟩
noncomputable def Cod.val (r:RV):Cod:=⟨fun _ _ st=>some (.ok r st),fU,fun I _ e=>aB (iW e) (fun k=>lK k r)||aB (fc e) fun x=>I.glob x&&si x r,fS⟩
noncomputable def Cod.bin (op:Operator) (a:Cod) (b:Cod):Cod:=⟨fun K γ st=>aq (a.e K γ st) fun x s₁=>aq (b.e K γ s₁) fun y s₂=>(binI op x y).map fun r=>.ok r s₂,fU,fun I _ e=>aB (tW e) fun p=>decide (p.1=op)&&a.c I false p.2.1&&b.c I false p.2.2,fS⟩
noncomputable def Cod.cmp (op:CmpOp) (a:Cod) (b:Cod):Cod:=⟨fun K γ st=>aq (a.e K γ st) fun x s₁=>aq (b.e K γ s₁) fun y s₂=>((dh op s₂ x y).map RV.bool).map fun r=>.ok r s₂,fU,fun I _ e=>aB (lv e) fun p=>az (oneOf p.2.2) fun r=>decide (p.2.1=[op]) && !behindInMarks op r&&a.c I false p.1&&b.c I false r,fS⟩
noncomputable def Cod.cmp2 (op:CmpOp) (op':CmpOp) (a:Cod) (b:Cod) (d:Cod):Cod:=⟨fun K γ st=>aq (a.e K γ st) fun a s₁=>aq (b.e K γ s₁) fun b s₂=>(dh op s₂ a b).bind fun t=>if t then aq (d.e K γ s₂) fun d s₃=>(dh op' s₃ b d).map fun z=>.ok (.bool z) s₃ else some (.ok (.bool false) s₂),fU,fun I t e=> !t&&aB (lv e) fun p=>az (fz p.2.2) fun r=>decide (p.2.1=[op,op']) && !lastMarks [op,op'] [r.1,r.2]&&a.c I false p.1&&b.c I false r.1&&d.c I false r.2,fS⟩
noncomputable def Cod.not (a:Cod):Cod:=⟨fun K γ st=>aq (a.e K γ st) fun r s₁=>aq (jf r s₁) fun b s₂=>zS (!b) s₂,fU,fun I t e=>aB (nc e) fun p=>decide (p.1=.Not)&&a.c I t p.2,fS⟩
noncomputable def Cod.neg (a:Cod):Cod:=⟨fun K γ st=>aq (a.e K γ st) zA,fU,fun I _ e=>aB (nc e) fun p=>decide (p.1=.USub)&&a.c I false p.2,fS⟩
noncomputable def Cod.ite (d:Cod) (a:Cod) (b:Cod):Cod:=⟨fun K γ st=>aq (aq (d.e K γ st) jf) fun q s₁=>if q then a.e K γ s₁ else b.e K γ s₁,fU,fun I t e=>aB (rN e) fun p=>d.c I true p.1&&a.c I t p.2.1&&b.c I t p.2.2,fS⟩
noncomputable def Cod.and (a:Cod) (b:Cod):Cod:=⟨fun K γ st=>aq (a.e K γ st) (sy fun s₁=>b.e K γ s₁),fU,fun I t e=>aB (as_bool e) fun p=>az (gC p.2.1) fun l=>decide (p.1=.And)&&a.c I t l.1&&b.c I t (iS .And p.2.2 l.2.1 l.2.2),fS⟩
noncomputable def Cod.or (a:Cod) (b:Cod):Cod:=⟨fun K γ st=>aq (a.e K γ st) (zF fun s₁=>b.e K γ s₁),fU,fun I t e=>aB (as_bool e) fun p=>az (gC p.2.1) fun l=>decide (p.1=.Or)&&a.c I t l.1&&b.c I t (iS .Or p.2.2 l.2.1 l.2.2),fS⟩
noncomputable def Cod.tup (l:Cod):Cod:=⟨fun K γ st=>aq (l.l K γ st) fun l s₁=>if l.length<=100 then some (.ok (.tup l) s₁) else none,fU,fun I _ e=>aB (jO e) (l.k I),fS⟩
noncomputable def Cod.lst (l:Cod):Cod:=⟨fun K γ st=>aq (l.l K γ st) fun l s₁=>if l.length<=100 then some (.ok (.lst l) s₁) else none,fU,fun I _ e=>aB (lm e) (l.k I),fS⟩
noncomputable def Cod.new (l:Cod):Cod:=⟨fun K γ st=>aq (l.l K γ st) fun l s₁=>if l.length<=100 then some (.ok (.obj s₁.length) (s₁++[.list l])) else none,fU,fun I _ e=>aB (lm e) (l.k I),fS⟩
noncomputable def Cod.idx (a:Cod) (i:Cod):Cod:=⟨fun K γ st=>aq (a.e K γ st) fun a s₁=>aq (i.e K γ s₁) fun b s₂=>(dA s₂ a b).map fun r=>.ok r s₂,fU,fun I _ e=>aB (dy e) fun p=>eT p.2&&a.c I false p.1&&i.c I false p.2,fS⟩
noncomputable def Cod.drop (a:Cod) (i:Cod):Cod:=⟨fun K γ st=>aq (a.e K γ st) fun a s₁=>aq (i.e K γ s₁) fun b s₂=>(nh a b).map fun r=>.ok r s₂,fU,fun I _ e=>aB (dy e) fun p=>aB (dO p.2) fun q=>q.2.1.isNone&&q.2.2.isNone&&az q.1 fun lo=>a.c I false p.1&&i.c I false lo,fS⟩
noncomputable def Cod.take (a:Cod) (i:Cod):Cod:=⟨fun K γ st=>aq (a.e K γ st) fun a s₁=>aq (i.e K γ s₁) fun b s₂=>(im a b).map fun r=>.ok r s₂,fU,fun I _ e=>aB (dy e) fun p=>aB (dO p.2) fun q=>q.1.isNone&&q.2.2.isNone&&az q.2.1 fun hi=>a.c I false p.1&&i.c I false hi,fS⟩
noncomputable def Cod.back (a:Cod):Cod:=⟨fun K γ st=>aq (a.e K γ st) fun a s₁=>(zC a).map fun r=>.ok r s₁,fU,fun I _ e=>aB (dy e) fun p=>aB (dO p.2) fun q=>q.1.isNone&&q.2.1.isNone&&az q.2.2 fun s=>mS s&&a.c I false p.1,fS⟩
noncomputable def Cod.attr (C:Addr) (k:Nat) (a:Cod):Cod:=⟨fun K γ st=>aq (a.e K γ st) fun a s₁=>(eH s₁ C k a).bind fun r=>if gQ r then none else some (.ok r s₁),fU,fun I _ e=>ft C&&az (mE e fun an=>decide ((aV C)[k]? = some an)) fun p=>a.c I false p.1,fS⟩
noncomputable def Cod.bound (f:Addr) (C:Addr) (a:Cod):Cod:=⟨fun K γ st=>aq (a.e K γ st) (oN f C),fU,fun I _ e=>decide (C=685)&&az (mE e fun an=>decide (methR.lookup an=some f)) fun p=>a.c I false p.1,fS⟩
noncomputable def Cod.call (f:Addr) (l:Cod):Cod:=⟨fun K γ st=>aq (l.l K γ st) (K.run K.q K.n f),fU,fun I _ e=>fnAddrs.contains f&&az (cJ I e fun x=>decide (fnTab.lookup x=some f)) (l.k I),fS⟩
noncomputable def Cod.vcall (i:Nat) (l:Cod):Cod:=⟨fun K γ st=>aq (iv γ i st) fun a s₁=>if uw a then aq (l.l K γ s₁) fun l s₂=>pJ (K.run K.q K.n) a l s₂ else none,fU,fun I _ e=>az (rt I e i) (l.k I),fS⟩
noncomputable def Cod.prim (b:BI) (l:Cod):Cod:=⟨fun K γ st=>if K.q then aq (l.l K γ st) fun l s₁=>(callB b s₁ l).map fun r=>.ok r s₁ else none,fU,fun I _ e=>az (cJ I e fun x=>decide ((biTab.lookup x).map BI.id=some b.id)) (l.k I),fS⟩
noncomputable def Cod.dcopy (l:Cod):Cod:=⟨fun K γ st=>aq (l.l K γ st) oo,fU,fun I _ e=>az (cJ I e fun x=>decide (tyTab.lookup x=some "dict")) (l.k I),fS⟩
noncomputable def Cod.strOf (l:Cod):Cod:=⟨fun K γ st=>aq (l.l K γ st) u6,fU,fun I _ e=>az (cJ I e fun x=>decide (tyTab.lookup x=some "str")) (l.k I),fS⟩
noncomputable def Cod.inst (C:Addr) (f:Addr) (l:Cod):Cod:=⟨fun K γ st=>if 0<K.n then aq (l.l K γ st) (wL C (K.run K.q (K.n-1) f)) else none,fU,fun I _ e=>ft C&&decide (f=nO C)&&az (cJ I e fun x=>decide (fnTab.lookup x=some C)) (l.k I),fS⟩
noncomputable def Cod.meth (m:CM) (a:Cod) (l:Cod):Cod:=⟨fun K γ st=>aq (a.e K γ st) fun a s₁=>if mq m s₁ a then aq (l.l K γ s₁) fun l s₂=>(dH m s₂ a l).map fun p=>.ok p.1 p.2 else none,fU,fun I _ e=>az (callA e fun an=>decide (an=m.name)) fun p=>a.c I false p.1&&l.k I p.2.2,fS⟩
noncomputable def Cod.mcall (f:Addr) (C:Addr) (a:Cod) (l:Cod):Cod:=⟨fun K γ st=>aq (a.e K γ st) fun a s₁=>if (fieldsOf s₁ C a).isSome then aq (l.l K γ s₁) fun l s₂=>K.run K.q K.n f (a::l) s₂ else none,fU,fun I _ e=>decide (C=685)&&az (callA e fun an=>decide (methR.lookup an=some f)) fun p=>a.c I false p.1&&l.k I p.2.2,fS⟩
noncomputable def Cod.dict0  : Cod:=⟨fun _ _ st=>some (.ok (.obj st.length) (st++[.dict []])),fU,fun _ _ e=>aB (iI e) fun p=>p.1.isEmpty&&p.2.isEmpty,fS⟩
noncomputable def Cod.dict1 (k:Cod) (v:Cod):Cod:=⟨fun K γ st=>ow (fun s=>k.e K γ s) (fun s=>v.e K γ s) st,fU,fun I _ e=>aB (iI e) fun p=>az (oneOf p.1) fun ko=>az ko fun ke=>az (oneOf p.2) fun ve=>k.c I false ke&&v.c I false ve,fS⟩
noncomputable def Cod.comp (T:Tg) (ik:IK) (it:Cod) (elt:Cod) (tn:List Str) (fi:List Nat):Cod:=⟨fun K γ st=>aq (sT K.q ik (it.l K γ st)) (ip T (fun γ s=>elt.e K γ s) (fu tn fi γ)),fU,fun I _ e=>az (lX I T tn fi e) fun p=>az (fN ik I p.2.1 p.2.2.1) (it.k I)&&elt.c (eQ I p.2.2.2.1 tn fi) false p.1,fS⟩
noncomputable def Cod.nil  : Cod:=⟨fun _ _ _=>none,fun _ _ st=>some (.ok [] st),fun _ _ _=>false,fun _ es=>es.isEmpty⟩
noncomputable def Cod.cons (a:Cod) (l:Cod):Cod:=⟨fun _ _ _=>none,fun K γ st=>aq (a.e K γ st) fun r s₁=>aq (l.l K γ s₁) fun l s₂=>some (.ok (r::l) s₂),fun _ _ _=>false,fun I es=>az (jq es) fun p=>cz p.1&&a.c I false p.1&&l.k I p.2⟩
noncomputable abbrev rv (x:Cod) (K:cK) (γ:Lo) (st:ai):Option (Out RV):=x.e K γ st
noncomputable abbrev u9 (x:Cod) (K:cK) (γ:Lo) (st:ai):Option (Out (List RV)):=x.l K γ st
noncomputable abbrev zG (a:Cod) (K:cK) (γ:Lo) (st:ai):Option (Out Bool):=aq (rv a K γ st) jf
noncomputable abbrev rk (x:Cod) (I:Info) (t:Bool) (e:Expr):Bool:=x.c I t e
noncomputable abbrev nH (x:Cod) (I:Info) (es:List Expr):Bool:=x.k I es
theorem aQ {a b:Bool} (h:(a&&b)=true):a=true/\b=true:=Bool.and_eq_true_iff.mp h
theorem dt {a b c:Bool} (h:(a&&b&&c)=true):a=true/\b=true/\c=true:=let x:=aQ h;let y:=aQ x.1;⟨y.1,y.2,x.2⟩
theorem iw {a b c d:Bool} (h:(a&&b&&c&&d)=true):a=true/\b=true/\c=true/\d=true:=let x:=aQ h;let y:=dt x.1;⟨y.1,y.2.1,y.2.2,x.2⟩
theorem dT {p:Prop} [Decidable p] (h:decide p=true):p:=of_decide_eq_true h
theorem j0 {b:Bool} (h:(!b)=true):b=false:=(Bool.not_eq_true' b).mp h
theorem dm {α:Type} {l:List α} (h:l.isEmpty=true):l=[]:=List.isEmpty_iff.mp h
theorem oH {α:Type} {x:Option α} (h:x.isNone=true):x=none:=Option.isNone_iff_eq_none.mp h
noncomputable def wO (v:Value):Option Str:=match v with
 | .str s _=>some s
 | _=>none
noncomputable def zg (H:Heap) (p:Str×List Str):Bool:=az (H.nsMap mainGlobals p.1) fun v=>match v with
 | .ref a=>az (H.get? a) fun o=>(match o.data with
  | .seq vs _=>decide (vs.toList.map wO=p.2.map some)
  | _=>false)&&decide (o.cls=.type "tuple")
 | _=>false
theorem vc (w:World):tupTab.all (zg (MH w))=true:=by kernel_rfl
theorem tQ {ρ:Pl} {h:Heap} {vs:List Value} {l:List Str} (q:vs.map wO=l.map some):RepL ρ h (l.map .str) vs:=by
 induction vs generalizing l with
 | nil=>cases l with
  | nil=>exact .nil
  | cons=>exact qm q
 | cons v vs ih=>cases l with
  | nil=>exact nomatch q
  | cons x l=>
   have q2:=List.cons.inj q
   have e:∃t,v=.str x t:=by
    cases v with
    | str s t=>exact ⟨t,Option.some.inj q2.1▸rfl⟩
    | _=>exact aP q2.1
   exact e.elim fun t e=>e▸.cons (.str _ _) (ih q2.2)
theorem tO {w:World} {x:Str} {l:List Str} (m:(x,l)∈tupTab):cX w x (.tup (l.map .str)):=by
 obtain ⟨v,e,k⟩:=aj (List.all_eq_true.mp (vc w) _ m)
 cases v with
 | ref a=>
  obtain ⟨o,eo,k⟩:=aj k
  obtain ⟨k,k2⟩:=aQ k
  refine gV e fun h ρ kp hρ=>?_
  have hd:∃vs n,o.data=.seq vs n/\vs.toList.map wO=l.map some:=by
   generalize o.data=d at k
   cases d with
   | seq vs n=>exact ⟨vs,n,rfl,dT k⟩
   | _=>exact aN k
  obtain ⟨vs,n,ed,es⟩:=hd
  exact .tup (vs:=vs.toList) (hρ a o eo) ⟨o,kp _ _ eo,dT k2,n,ed⟩ (tQ es)
 | _=>exact aN k
theorem vw {l:List RV} {t:List Str} (h:l.map RV.asStr=t.map some):l=t.map .str:=by
 induction l generalizing t with
 | nil=>cases t with
  | nil=>rfl
  | cons=>exact qm h
 | cons r l ih=>cases t with
  | nil=>exact nomatch h
  | cons s t=>
   have h:=List.cons.inj h
   exact congr (congrArg List.cons (bO h.1)) (ih h.2)
theorem t7 {w:World} {x:Str} {r:RV} (h:si x r=true):cX w x r:=by
 cases r with
 | stat a=>exact f9 (aM (dT h))
 | int i=>exact tw (aM (dT h))
 | ty s=>exact fj (aM (dT h))
 | tup l=>
  obtain ⟨t,e,h⟩:=aj h
  exact (vw (dT h))▸tO (aM e)
 | _=>exact aN h
theorem wm (w:World):fnAddrs.all (fun a=>(rF (MH w) a).isSome)=true:=by kernel_rfl
theorem pV {w:World} {a:Addr} (h:fnAddrs.contains a=true):isFn w a:=
 (Option.isSome_iff_exists.mp (List.all_eq_true.mp (wm w) a (List.contains_iff_mem.mp h))).elim fun _ e=>oX e
theorem ky {e:Expr} {es:List Expr} {env:Env} (h:cz e=true):starEach (e::es) env=(false,eval e env)::starEach es env:=by
 cases e with
 | Starred=>exact aN h
 | _=>rfl
theorem bE {pos:Pos} {env:Env} {es:List Expr} (h:es.all cz=true):(backTo pos (starEach es env)).all (fun x=> !x.1)=true:=by
 induction es with
 | nil=>rfl
 | cons e es ih=>
  have h:=aQ h
  rw [ky h.1]
  exact ih h.2
theorem u3 {w:World} {C:Addr} (h:ft C=true):jx w C (nO C):=by
 rcases (Bool.or_eq_true _ _).mp h with h | h
 ·rcases (Bool.or_eq_true _ _).mp h with h | h
  ·exact (beq_iff_eq.mp h).symm▸qk w
  ·exact (beq_iff_eq.mp h).symm▸ur w
 ·exact (beq_iff_eq.mp h).symm▸m0 w
theorem cx {α β:Type} {m:Option (Out α)} {f g:α->ai->Option (Out β)} (h:∀a s,f a s=g a s):aq m f=aq m g:=congrArg (aq m) (funext fun a=>funext (h a))
structure Fits (I:Info) (K:cK) (c:Cx):Prop where
 names:c.names=I.names
 kind:∀x,c.env.kindOf x=I.kind x
 full:I.full=true->c.Full
 n:c.n=K.n
 q:K.q=true->c.A.handled=none
 runs:∀(q:Bool) (m:Nat) (hd:Option Value),m<=K.n->(q=true->hd=none)->∀f rs st o,K.run q m f rs st=some o->CR c.w m hd (.stat f) rs st o/\isFn c.w f
noncomputable def zU (a:Cod) (I:Info) (e:Expr):Prop:=∀K c γ st o,Fits I K c->rv a K γ st=some o->EvR c γ st e o
noncomputable def A9 (a:Cod) (I:Info) (e:Expr):Prop:=∀K c γ st o,Fits I K c->zG a K γ st=some o->EtR c γ st e o
noncomputable def EOk (a:Cod) (I:Info) (t:Bool) (e:Expr):Prop:=match t with
 | false=>zU a I e
 | true=>A9 a I e
noncomputable def Bl (a:Cod) (I:Info) (es:List Expr):Prop:=∀K c γ st pos o,Fits I K c->u9 a K γ st=some o->ElR c γ st pos es o
structure rP (a:Cod) (I:Info) (es:List Expr):Prop where
 ok:Bl a I es
 one:∀e,es=[e]->∃b:Cod,(∀K γ st,u9 a K γ st=u9 (.cons b .nil) K γ st)/\zU b I e
structure Right (a:Cod):Prop where
 e:∀I t e,rk a I t e=true->EOk a I t e
 l:∀I es,nH a I es=true->rP a I es
 n:∀I,nH a I []=true->∀K γ st,u9 a K γ st=some (.ok [] st)
section
variable {I:Info} {K:cK} {c:Cx} {γ:Lo} {st:ai} {t:Bool} {a:Cod} {e:Expr} {pos:Pos}
theorem EOk.plain (x:zU a I e) (he:∀env,isTrue e env (eval e env)=(do let v<-eval e env;standAt e.pos;holding [v] (truthy v))):EOk a I t e:=by
 cases t with
 | false=>exact x
 | true=>exact fun K c γ st o F h=>EtR.plain h (fun o h=>x K c γ st o F h) (he c.env)
theorem Right.expr (hL:∀I es,nH a I es=false) (h:∀I t e,rk a I t e=true->EOk a I t e):Right a:=⟨h,fun I es q=>(nomatch (hL I es).symm.trans q),fun I q=>nomatch (hL I []).symm.trans q⟩
theorem Fits.run (F:Fits I K c) (f:Addr) (rs:List RV) (st:ai) (o:Out RV) (e:K.run K.q K.n f rs st=some o):CR c.w c.n c.A.handled (.stat f) rs st o/\isFn c.w f:=
 F.n▸F.runs _ _ _ (Nat.le_refl _) F.q f rs st o e
theorem Info.glob_at (F:Fits I K c) {x:Str} (h:I.glob x=true):c.env.kindOf x=some .globalImplicit/\(x==("__debug__":Str))=false:=
 ⟨(F.kind x).trans (dT (aQ h).1),j0 (aQ h).2⟩
theorem Fits.glob (F:Fits I K c) {x:Str} {r:RV} (h:I.glob x=true) (g:cX c.w x r):EvR c γ st (.Name x pos) (.ok r st):=
 EvR.glob (I.glob_at F h).1 (I.glob_at F h).2 g
theorem Fits.loc (F:Fits I K c) {x:Str} {i:Nat} {o:Out RV} (h:I.names[i]? = some x) (e:iv γ i st=some o):EvR c γ st (.Name x pos) o:=
 (Option.map_eq_some_iff.mp e).elim fun r y=>y.2▸EvR.loc (F.names▸h) (Option.join_eq_some_iff.mp y.1)
inductive CallG (I:Info) (ok:Str->Bool) (args:List Expr):Expr->Prop
 | mk (x:Str) (np pos:Pos) (hs:args.all cz=true) (hg:I.glob x=true) (ho:ok x=true):CallG I ok args (.Call (.Name x np) args [] pos)
theorem bD {ok:Str->Bool} {args:List Expr} (h:cJ I e ok=some args):CallG I ok args e:=by
 obtain ⟨p,e1,h⟩:=cC h
 obtain ⟨x,⟨np,e2⟩,h⟩:=cC h
 obtain ⟨h,e3⟩:=bz h
 obtain ⟨h1,h2,h3,h4⟩:=iw h
 subst e1
 rw [e2,dm h1]
 subst e3
 exact .mk x np _ h2 h3 h4
inductive wc (I:Info) (i:Nat) (args:List Expr):Expr->Prop
 | mk (x:Str) (np pos:Pos) (hs:args.all cz=true) (hi:I.names[i]? = some x):wc I i args (.Call (.Name x np) args [] pos)
theorem sK {i:Nat} {args:List Expr} (h:rt I e i=some args):wc I i args e:=by
 obtain ⟨p,e1,h⟩:=cC h
 obtain ⟨x,⟨np,e2⟩,h⟩:=cC h
 obtain ⟨h,e3⟩:=bz h
 obtain ⟨h1,h2,h3⟩:=dt h
 subst e1
 rw [e2,dm h1]
 subst e3
 exact .mk x np _ h2 (dT h3)
inductive v6 (ok:Str->Bool):Expr×Str×List Expr->Expr->Prop
 | mk (o:Expr) (an:Str) (ap:Pos) (args:List Expr) (pos:Pos) (hs:args.all cz=true) (hn:args.length<29) (hb:cN o=true) (hl:(ap.endLine==pos.line)=true) (ho:ok an=true):v6 ok (o,an,args) (.Call (.Attribute o an ap) args [] pos)
theorem mJ {ok:Str->Bool} {x:Expr×Str×List Expr} (h:callA e ok=some x):v6 ok x e:=by
 obtain ⟨p,e1,h⟩:=cC h
 obtain ⟨q,e2,h⟩:=cC h
 obtain ⟨h,e3⟩:=bz h
 obtain ⟨h,h5,h6⟩:=dt h
 obtain ⟨h1,h2,h3,h4⟩:=iw h
 subst e1
 rw [e2,dm h1]
 subst e3
 exact .mk _ _ _ _ _ h2 (dT h3) h4 h5 h6
theorem mr {ok:Str->Bool} {x:Expr×Str} (h:mE e ok=some x):∃p,e=.Attribute x.1 x.2 p/\cN x.1=true/\ok x.2=true:=by
 obtain ⟨p,e1,h⟩:=cC h
 obtain ⟨g,e3⟩:=bz h
 subst e3
 exact ⟨_,e1,aQ g⟩
theorem wv {q:Bool} {r:RV} {l:List RV} (h:r.asLst.or (cond q r.asTup none)=some l):r.asLst=some l\/q=true/\r.asTup=some l:=by
 rcases Option.or_eq_some_iff.mp h with h | ⟨_,h⟩
 ·exact .inl h
 ·cases q with
  | true=>exact .inr ⟨rfl,h⟩
  | false=>exact aP h
theorem ItR.one {target iter:Expr} {m:Option (Out RV)} {q:Bool} {o:Out (List RV)} (hm:aq m (wV q)=some o) (hq:q=true->c.A.handled=none) (x:∀o,m=some o->EvR c γ st iter o):ItR c γ st target iter o:=by
 cases m with
 | none=>exact aP hm
 | some w=>cases w with
  | exc k s=>exact ItR.lst (m:=some (.exc k s)) hm x
  | ok r s=>
   obtain ⟨l,e1,e2⟩:=Option.map_eq_some_iff.mp hm
   rcases wv e1 with e1 | ⟨e0,e1⟩
   ·exact ItR.lst (m:=some (.ok r s)) (Option.map_eq_some_iff.mpr ⟨l,e1,e2⟩) x
   ·exact ItR.tup (m:=some (.ok r s)) (Option.map_eq_some_iff.mpr ⟨l,e1,e2⟩) (hq e0) x
theorem one_eq {q:Bool}:aq (u9 (.cons a .nil) K γ st) (uy q)=aq (rv a K γ st) (wV q):=bnd_assoc
theorem qN {α:Type} {q:Bool} {m:Option α} {o:α} (h:(if q then m else none)=some o):q=true/\m=some o:=Option.ite_none_right_eq_some.mp h
theorem Ay {l:List Expr} (h:l.length=2):∃a b,l=[a,b]:=by
 cases l with
 | nil=>exact hO h
 | cons a l=>exact (List.length_eq_one_iff.mp (Nat.succ.inj h)).elim fun b e=>⟨a,b,e▸rfl⟩
theorem l7 {target iter:Expr} {ik:IK} {it:Cod} {o:Out (List RV)} {l:List Expr} (h:fN ik I target iter=some l) (R:rP it I l) (F:Fits I K c) (hm:sT K.q ik (u9 it K γ st)=some o):ItR c γ st target iter o:=by
 cases ik with
 | one=>
  obtain ⟨b,e,x⟩:=R.one iter (bz h).2.symm
  exact ItR.one (one_eq.symm.trans ((congrArg (aq · (uy K.q)) (e K γ st)).symm.trans hm)) F.q fun o e=>x K c γ st o F e
 | zip=>
  obtain ⟨l',e,h⟩:=Option.bind_eq_some_iff.mp h
  obtain ⟨g,e2⟩:=bz h
  subst e2
  obtain ⟨h1,h2⟩:=aQ g
  obtain ⟨a,b,e2⟩:=Ay (dT h1)
  subst e2
  obtain ⟨⟨es,k,p,e3⟩,-⟩:=Option.isSome_iff_exists.mp h2
  subst e3
  cases bD e with
  | mk x np pos hs hg ho=>
   obtain ⟨hq,hm⟩:=qN hm
   exact ItR.zip hm (F.q hq) (F.glob hg (fj (aM (dT ho)))) (fun o e=>R.ok K c γ st _ o F e) (bE hs)
 | range=>
  obtain ⟨l',e,h⟩:=Option.bind_eq_some_iff.mp h
  obtain ⟨g,e2⟩:=bz h
  subst e2
  obtain ⟨a,e2⟩:=List.length_eq_one_iff.mp (dT g)
  subst e2
  cases bD e with
  | mk x np pos hs hg ho=>
   obtain ⟨hq,hm⟩:=qN hm
   exact ItR.range hm (F.q hq) (F.glob hg (fj (aM (dT ho)))) (fun o e=>R.ok K c γ st _ o F e) (bE hs)
 | rev=>
  obtain ⟨l',e,h⟩:=Option.bind_eq_some_iff.mp h
  obtain ⟨g,e2⟩:=bz h
  subst e2
  obtain ⟨a,e2⟩:=List.length_eq_one_iff.mp (dT g)
  subst e2
  cases bD e with
  | mk x np pos hs hg ho=>
   obtain ⟨hq,hm⟩:=qN hm
   exact ItR.rev hm (F.q hq) (F.glob hg (fj (aM (dT ho)))) (fun o e=>R.ok K c γ st _ o F e) (bE hs)
theorem folded {iter:Expr} {env:Env} (h:lO iter=true) (x:Value):foldedSetIterable iter env x=pure x:=by
 cases iter with
 | Set=>exact aN h
 | _=>rfl
theorem CallG.set {ok:Str->Bool} {args:List Expr} (h:CallG I ok args e):lO e=true:=by cases h;rfl
theorem fR {ik:IK} {target iter:Expr} {l:List Expr} (h:fN ik I target iter=some l):lO iter=true:=by
 cases ik with
 | one=>exact (bz h).1
 | zip=>exact (Option.bind_eq_some_iff.mp h).elim fun _ y=>(bD y.1).set
 | range=>exact (Option.bind_eq_some_iff.mp h).elim fun _ y=>(bD y.1).set
 | rev=>exact (Option.bind_eq_some_iff.mp h).elim fun _ y=>(bD y.1).set
end
section
variable {I:Info} {K:cK} {c:Cx} {γ:Lo} {st:ai} {t:Bool} {a b d l:Cod} {e:Expr} {pos:Pos}
theorem Right.v (R:Right a) (h:rk a I false e=true):zU a I e:=R.e I false e h
theorem Right.bad:Right .bad:=.expr (fun _ _=>rfl) fun I t e _=>by
 cases t with
 | false=>exact fun K c γ st o F h=>aP h
 | true=>exact fun K c γ st o F h=>aP h
theorem Right.loc {i:Nat}:Right (.loc i):=.expr (fun _ _=>rfl) fun I t e (h:aB (fc e) (fun x=>decide (I.names[i]? = some x))=true)=>by
 obtain ⟨x,⟨p,e1⟩,h⟩:=au h
 subst e1
 exact .plain (fun K c γ st o F e=>F.loc (dT h) e) fun _=>rfl
theorem tG {k:Const} {r:RV} {j:Nat} (h:lK k r=true):EvR c γ st (.Constant k j pos) (.ok r st):=by
 cases k with
 | int i=>exact aO (dT h)▸EvR.cint
 | str i=>exact bO (dT h)▸EvR.cstr
 | none=>exact eS h▸EvR.cnone
 | bool i=>exact cQ (dT h)▸EvR.cbool
 | _=>exact aN h
theorem Right.val {r:RV}:Right (.val r):=.expr (fun _ _=>rfl) fun I t e (h:(aB (iW e) (fun k=>lK k r)||aB (fc e) fun x=>I.glob x&&si x r)=true)=>by
 rcases (Bool.or_eq_true _ _).mp h with h | h
 ·obtain ⟨x,⟨k,p,e1⟩,h⟩:=au h
  subst e1
  exact .plain (fun K c γ st o F e=>Option.some.inj e▸tG h) fun _=>rfl
 ·obtain ⟨x,⟨p,e1⟩,h⟩:=au h
  subst e1
  exact .plain (fun K c γ st o F e=>Option.some.inj e▸F.glob (aQ h).1 (t7 (aQ h).2)) fun _=>rfl
theorem Right.bin {op:Operator} (A:Right a) (B:Right b):Right (.bin op a b):=.expr (fun _ _=>rfl) fun I t e (h:aB (tW e) (fun p=>decide (p.1=op)&&rk a I false p.2.1&&rk b I false p.2.2)=true)=>by
 obtain ⟨p,⟨q,e1⟩,h⟩:=au h
 obtain ⟨h1,h2,h3⟩:=dt h
 rw [e1,dT h1]
 exact .plain (fun K c γ st o F e=>EvR.bin (n:=rv b K γ) (f:=fun _ x y=>binI op x y) e (fun o e=>A.v h2 K c γ st o F e) (fun s o e=>B.v h3 K c γ s o F e) fun st a b z hz=>um hz) fun _=>rfl
theorem zf {op:CmpOp} (st:ai) (a b z:RV) (h:(dh op st a b).map RV.bool=some z):Op2 c γ (compareOp op) a b st z:=
 (Option.map_eq_some_iff.mp h).elim fun q y=>y.2▸iz y.1
theorem cmpT {m:Option (Out RV)} {n:ai->Option (Out RV)} {op:CmpOp}:aq (aq m fun x s₁=>aq (n s₁) fun y s₂=>((dh op s₂ x y).map RV.bool).map fun r=>Out.ok r s₂) jf=aq m fun x s₁=>aq (n s₁) fun y s₂=>(dh op s₂ x y).map fun r=>Out.ok r s₂:=
 bnd_assoc.trans (cx fun a s=>bnd_assoc.trans (cx fun b s=>by cases dh op s a b <;> rfl))
theorem Right.cmp {op:CmpOp} (A:Right a) (B:Right b):Right (.cmp op a b):=.expr (fun _ _=>rfl) fun I t e (h:aB (lv e) (fun p=>az (oneOf p.2.2) fun r=>decide (p.2.1=[op]) && !behindInMarks op r&&rk a I false p.1&&rk b I false r)=true)=>by
 obtain ⟨p,⟨q,e1⟩,h⟩:=au h
 obtain ⟨r,e2,h⟩:=aj h
 obtain ⟨h1,h2,h3,h4⟩:=iw h
 rw [e1,dT h1,aR e2]
 cases t with
 | false=>exact fun K c γ st o F e=>EvR.cmp (n:=rv b K γ) (f:=fun s x y=>(dh op s x y).map .bool) e (fun o e=>A.v h3 K c γ st o F e) (fun s o e=>B.v h4 K c γ s o F e) zf (j0 h2)
 | true=>exact fun K c γ st o F e=>EtR.cmp (n:=rv b K γ) (f:=dh op) (cmpT.symm.trans e) (fun o e=>A.v h3 K c γ st o F e) (fun s o e=>B.v h4 K c γ s o F e) (fun st a b z hz=>iz hz) (j0 h2)
theorem Right.cmp2 {op op':CmpOp} (A:Right a) (B:Right b) (D:Right d):Right (.cmp2 op op' a b d):=.expr (fun _ _=>rfl) fun I t e (h:(!t&&aB (lv e) fun p=>az (fz p.2.2) fun r=>decide (p.2.1=[op,op']) && !lastMarks [op,op'] [r.1,r.2]&&rk a I false p.1&&rk b I false r.1&&rk d I false r.2)=true)=>by
 obtain ⟨ht,h⟩:=aQ h
 obtain ⟨p,⟨q,e1⟩,h⟩:=au h
 obtain ⟨r,e2,h⟩:=aj h
 obtain ⟨h,h5⟩:=aQ h
 obtain ⟨h1,h2,h3,h4⟩:=iw h
 rw [e1,dT h1,cB e2,j0 ht]
 exact fun K c γ st o F e=>EvR.chain (n:=rv b K γ) (n':=rv d K γ) e (fun o e=>A.v h3 K c γ st o F e) (fun s o e=>B.v h4 K c γ s o F e) (fun s o e=>D.v h5 K c γ s o F e) (j0 h2)
theorem notT' {m:Option (Out RV)}:aq (aq m fun r s₁=>aq (jf r s₁) fun b s₂=>zS (!b) s₂) jf=aq (aq m jf) fun b s=>some (.ok (!b) s):=by
 rw [bnd_assoc,bnd_assoc]
 refine cx fun r s=>?_
 show aq (aq (r.asBool.map _) _) jf=aq (r.asBool.map _) _
 cases r.asBool <;> rfl
theorem Right.not (A:Right a):Right (.not a):=.expr (fun _ _=>rfl) fun I t e (h:aB (nc e) (fun p=>decide (p.1=.Not)&&rk a I t p.2)=true)=>by
 obtain ⟨p,⟨q,e1⟩,h⟩:=au h
 obtain ⟨h1,h2⟩:=aQ h
 rw [e1,dT h1]
 cases t with
 | false=>exact fun K c γ st o F e=>EvR.not e fun o e=>A.v h2 K c γ st o F e
 | true=>exact fun K c γ st o F e=>EtR.not (notT'.symm.trans e) fun o e=>A.e I true _ h2 K c γ st o F e
theorem Right.neg (A:Right a):Right (.neg a):=.expr (fun _ _=>rfl) fun I t e (h:aB (nc e) (fun p=>decide (p.1=.USub)&&rk a I false p.2)=true)=>by
 obtain ⟨p,⟨q,e1⟩,h⟩:=au h
 obtain ⟨h1,h2⟩:=aQ h
 rw [e1,dT h1]
 exact .plain (fun K c γ st o F e=>EvR.neg e fun o e=>A.v h2 K c γ st o F e) fun _=>rfl
theorem iteT {m:Option (Out Bool)} {f g:ai->Option (Out RV)}:aq (aq m fun q s=>if q then f s else g s) jf=aq m fun q s=>if q then aq (f s) jf else aq (g s) jf:=
 bnd_assoc.trans (cx fun b s=>by cases b <;> rfl)
theorem Right.ite (D:Right d) (A:Right a) (B:Right b):Right (.ite d a b):=.expr (fun _ _=>rfl) fun I t e (h:aB (rN e) (fun p=>rk d I true p.1&&rk a I t p.2.1&&rk b I t p.2.2)=true)=>by
 obtain ⟨p,⟨q,e1⟩,h⟩:=au h
 obtain ⟨h1,h2,h3⟩:=dt h
 rw [e1]
 cases t with
 | false=>exact fun K c γ st o F e=>EvR.ite (f:=rv a K γ) (g:=rv b K γ) e (fun o e=>D.e I true _ h1 K c γ st o F e) (fun s o e=>A.v h2 K c γ s o F e) fun s o e=>B.v h3 K c γ s o F e
 | true=>exact fun K c γ st o F e=>EtR.ite (f:=zG a K γ) (g:=zG b K γ) (iteT.symm.trans e) (fun o e=>D.e I true _ h1 K c γ st o F e) (fun s o e=>A.e I true _ h2 K c γ s o F e) fun s o e=>B.e I true _ h3 K c γ s o F e
theorem andT {m:Option (Out RV)} {f:ai->Option (Out RV)}:aq (aq m (sy f)) jf=aq (aq m jf) fun b s=>if b then aq (f s) jf else some (.ok false s):=by
 rw [bnd_assoc,bnd_assoc]
 refine cx fun r s=>?_
 show aq (r.asBool.bind _) jf=aq (r.asBool.map _) _
 cases r.asBool with
 | none=>rfl
 | some b=>cases b <;> rfl
theorem orT {m:Option (Out RV)} {f:ai->Option (Out RV)}:aq (aq m (zF f)) jf=aq (aq m jf) fun b s=>if b then some (.ok true s) else aq (f s) jf:=by
 rw [bnd_assoc,bnd_assoc]
 refine cx fun r s=>?_
 show aq (r.asBool.bind _) jf=aq (r.asBool.map _) _
 cases r.asBool with
 | none=>rfl
 | some b=>cases b <;> rfl
theorem xw {o:Out Bool} (x:EtR c γ st e o):EtR c γ st (.BoolOp .And [e] pos) o:=by
 refine EtR.and (m:=some o) (f:=fun s=>some (.ok true s)) ?_ (fun o e=>Option.some.inj e▸x) fun s o e=>Option.some.inj e▸EtR.andNil
 cases o with
 | ok b s=>cases b <;> rfl
 | exc=>rfl
theorem yq {o:Out Bool} (x:EtR c γ st e o):EtR c γ st (.BoolOp .Or [e] pos) o:=by
 refine EtR.or (m:=some o) (f:=fun s=>some (.ok false s)) ?_ (fun o e=>Option.some.inj e▸x) fun s o e=>Option.some.inj e▸EtR.orNil
 cases o with
 | ok b s=>cases b <;> rfl
 | exc=>rfl
theorem wf {op:BoolOp} {l:List Expr} {o:Out RV} (x:EvR c γ st (iS op pos e l) o):EvR c γ st (.BoolOp op (e::l) pos) o:=by
 cases l with
 | nil=>exact EvR.boolOne x
 | cons=>exact x
theorem yZ {l:List Expr} {o:Out Bool} (x:EtR c γ st (iS .And pos e l) o):EtR c γ st (.BoolOp .And (e::l) pos) o:=by
 cases l with
 | nil=>exact xw x
 | cons=>exact x
theorem yT {l:List Expr} {o:Out Bool} (x:EtR c γ st (iS .Or pos e l) o):EtR c γ st (.BoolOp .Or (e::l) pos) o:=by
 cases l with
 | nil=>exact yq x
 | cons=>exact x
theorem Right.and (A:Right a) (B:Right b):Right (.and a b):=.expr (fun _ _=>rfl) fun I t e (h:aB (as_bool e) (fun p=>az (gC p.2.1) fun l=>decide (p.1=.And)&&rk a I t l.1&&rk b I t (iS .And p.2.2 l.2.1 l.2.2))=true)=>by
 obtain ⟨p,e1,h⟩:=au h
 obtain ⟨l,e2,h⟩:=aj h
 obtain ⟨h1,h2,h3⟩:=dt h
 rw [e1,dT h1,jP e2]
 cases t with
 | false=>exact fun K c γ st o F e=>EvR.and (f:=rv b K γ) e (fun o e=>A.v h2 K c γ st o F e) fun s o e=>wf (B.v h3 K c γ s o F e)
 | true=>exact fun K c γ st o F e=>EtR.and (f:=zG b K γ) (andT.symm.trans e) (fun o e=>A.e I true _ h2 K c γ st o F e) fun s o e=>yZ (B.e I true _ h3 K c γ s o F e)
theorem Right.or (A:Right a) (B:Right b):Right (.or a b):=.expr (fun _ _=>rfl) fun I t e (h:aB (as_bool e) (fun p=>az (gC p.2.1) fun l=>decide (p.1=.Or)&&rk a I t l.1&&rk b I t (iS .Or p.2.2 l.2.1 l.2.2))=true)=>by
 obtain ⟨p,e1,h⟩:=au h
 obtain ⟨l,e2,h⟩:=aj h
 obtain ⟨h1,h2,h3⟩:=dt h
 rw [e1,dT h1,jP e2]
 cases t with
 | false=>exact fun K c γ st o F e=>EvR.or (f:=rv b K γ) e (fun o e=>A.v h2 K c γ st o F e) fun s o e=>wf (B.v h3 K c γ s o F e)
 | true=>exact fun K c γ st o F e=>EtR.or (f:=zG b K γ) (orT.symm.trans e) (fun o e=>A.e I true _ h2 K c γ st o F e) fun s o e=>yT (B.e I true _ h3 K c γ s o F e)
theorem Right.tup (L:Right l):Right (.tup l):=.expr (fun _ _=>rfl) fun I t e (h:aB (jO e) (nH l I)=true)=>by
 obtain ⟨p,⟨k,q,e1⟩,h⟩:=au h
 subst e1
 exact .plain (fun K c γ st o F e=>EvR.tup e fun o e=>(L.l I _ h).ok K c γ st _ o F e) fun _=>rfl
theorem Right.lst (L:Right l):Right (.lst l):=.expr (fun _ _=>rfl) fun I t e (h:aB (lm e) (nH l I)=true)=>by
 obtain ⟨p,⟨q,e1⟩,h⟩:=au h
 subst e1
 exact .plain (fun K c γ st o F e=>EvR.lst e fun o e=>(L.l I _ h).ok K c γ st _ o F e) fun _=>rfl
theorem Right.new (L:Right l):Right (.new l):=.expr (fun _ _=>rfl) fun I t e (h:aB (lm e) (nH l I)=true)=>by
 obtain ⟨p,⟨q,e1⟩,h⟩:=au h
 subst e1
 exact .plain (fun K c γ st o F e=>EvR.newlist e fun o e=>(L.l I _ h).ok K c γ st _ o F e) fun _=>rfl
theorem Right.idx (A:Right a) (B:Right b):Right (.idx a b):=.expr (fun _ _=>rfl) fun I t e (h:aB (dy e) (fun p=>eT p.2&&rk a I false p.1&&rk b I false p.2)=true)=>by
 obtain ⟨p,⟨q,e1⟩,h⟩:=au h
 obtain ⟨h1,h2,h3⟩:=dt h
 subst e1
 exact .plain (fun K c γ st o F e=>EvR.idx (n:=rv b K γ) e (fun o e=>A.v h2 K c γ st o F e) (fun s o e=>B.v h3 K c γ s o F e) h1) fun _=>rfl
theorem Right.drop (A:Right a) (B:Right b):Right (.drop a b):=.expr (fun _ _=>rfl) fun I t e (h:aB (dy e) (fun p=>aB (dO p.2) fun q=>q.2.1.isNone&&q.2.2.isNone&&az q.1 fun lo=>rk a I false p.1&&rk b I false lo)=true)=>by
 obtain ⟨p,⟨q,e1⟩,h⟩:=au h
 obtain ⟨s,⟨r,e2⟩,h⟩:=au h
 obtain ⟨h1,h2,h3⟩:=dt h
 obtain ⟨lo,e3,h⟩:=aj h3
 obtain ⟨h4,h5⟩:=aQ h
 rw [e1,e2,e3,oH h1,oH h2]
 exact .plain (fun K c γ st o F e=>EvR.drop (n:=rv b K γ) e (fun o e=>A.v h4 K c γ st o F e) fun s o e=>B.v h5 K c γ s o F e) fun _=>rfl
theorem Right.take (A:Right a) (B:Right b):Right (.take a b):=.expr (fun _ _=>rfl) fun I t e (h:aB (dy e) (fun p=>aB (dO p.2) fun q=>q.1.isNone&&q.2.2.isNone&&az q.2.1 fun hi=>rk a I false p.1&&rk b I false hi)=true)=>by
 obtain ⟨p,⟨q,e1⟩,h⟩:=au h
 obtain ⟨s,⟨r,e2⟩,h⟩:=au h
 obtain ⟨h1,h2,h3⟩:=dt h
 obtain ⟨lo,e3,h⟩:=aj h3
 obtain ⟨h4,h5⟩:=aQ h
 rw [e1,e2,e3,oH h1,oH h2]
 exact .plain (fun K c γ st o F e=>EvR.take (n:=rv b K γ) e (fun o e=>A.v h4 K c γ st o F e) fun s o e=>B.v h5 K c γ s o F e) fun _=>rfl
theorem Right.back (A:Right a):Right (.back a):=.expr (fun _ _=>rfl) fun I t e (h:aB (dy e) (fun p=>aB (dO p.2) fun q=>q.1.isNone&&q.2.1.isNone&&az q.2.2 fun s=>mS s&&rk a I false p.1)=true)=>by
 obtain ⟨p,⟨q,e1⟩,h⟩:=au h
 obtain ⟨s,⟨r,e2⟩,h⟩:=au h
 obtain ⟨h1,h2,h3⟩:=dt h
 obtain ⟨lo,e3,h⟩:=aj h3
 obtain ⟨h4,h5⟩:=aQ h
 obtain ⟨u,⟨r2,e4⟩,h4⟩:=au h4
 obtain ⟨h6,h7⟩:=aQ h4
 obtain ⟨k,⟨r3,r4,e5⟩,h7⟩:=au h7
 rw [e1,e2,e3,oH h1,oH h2,e4,dT h6,e5,dT h7]
 exact .plain (fun K c γ st o F e=>EvR.back e fun o e=>A.v h5 K c γ st o F e) fun _=>rfl
theorem Right.attr {C:Addr} {k:Nat} (A:Right a):Right (.attr C k a):=.expr (fun _ _=>rfl) fun I t e (h:(ft C&&az (mE e fun an=>decide ((aV C)[k]? = some an)) fun p=>rk a I false p.1)=true)=>by
 obtain ⟨h1,h⟩:=aQ h
 obtain ⟨p,e1,g⟩:=aj h
 obtain ⟨q,e2,h2,h3⟩:=mr e1
 subst e2
 exact .plain (fun K c γ st o F e=>EvR.attr e (fun o e=>A.v g K c γ st o F e) h1 (dT h3) (oZ h2)) fun _=>rfl
theorem Right.bound {f C:Addr} (A:Right a):Right (.bound f C a):=.expr (fun _ _=>rfl) fun I t e (h:(decide (C=685)&&az (mE e fun an=>decide (methR.lookup an=some f)) fun p=>rk a I false p.1)=true)=>by
 obtain ⟨h1,h⟩:=aQ h
 obtain ⟨p,e1,g⟩:=aj h
 obtain ⟨q,e2,h2,h3⟩:=mr e1
 have h1:=dT h1
 subst e2 h1
 exact .plain (fun K c γ st o F e=>EvR.bound e (fun o e=>A.v g K c γ st o F e) (sb (aM (dT h3))) h2) fun _=>rfl
theorem Right.call {f:Addr} (L:Right l):Right (.call f l):=.expr (fun _ _=>rfl) fun I t e (h:(fnAddrs.contains f&&az (cJ I e fun x=>decide (fnTab.lookup x=some f)) (nH l I))=true)=>by
 obtain ⟨h1,h⟩:=aQ h
 obtain ⟨p,e1,g⟩:=aj h
 cases bD e1 with
 | mk x np pos hs hg ho=>exact .plain (fun K c γ st o F e=>EvR.fcall e (F.glob hg (f9 (aM (dT ho)))) (pV h1) (fun o e=>(L.l I _ g).ok K c γ st _ o F e) (fun rs st o e=>(F.run f rs st o e).1) (bE hs)) fun _=>rfl
theorem EvR.lcall {x:Str} {np pos:Pos} {args:List Expr} {a:RV} {n:Option (Out (List RV))} {run:Addr->List RV->ai->Option (Out RV)} {o:Out RV} (hm:(if uw a then aq n fun l s=>pJ run a l s else none)=some o)
  (hf:EvR c γ st (.Name x np) (.ok a st)) (y:∀o,n=some o->ElR c γ st pos args o) (k:∀f rs st o,run f rs st=some o->CR c.w c.n c.A.handled (.stat f) rs st o/\isFn c.w f)
  (hst:(backTo pos (starEach args c.env)).all (fun x=> !x.1)=true):EvR c γ st (.Call (.Name x np) args [] pos) o:=by
 obtain ⟨q,hm⟩:=qN hm
 cases a with
 | stat f=>exact EvR.fcall hm hf (pV q) y (fun rs st o e=>(k f rs st o e).1) hst
 | obj j=>exact EvR.vcall hm hf y k hst
 | _=>exact aN q
theorem xy {x:Option RV} {f:RV->ai->Option (Out RV)} {o:Out RV} (h:aq (x.map fun r=>Out.ok r st) f=some o):∃r,x=some r/\f r st=some o:=by
 cases x with
 | none=>exact aP h
 | some r=>exact ⟨r,rfl,h⟩
theorem Right.vcall {i:Nat} (L:Right l):Right (.vcall i l):=.expr (fun _ _=>rfl) fun I t e (h:az (rt I e i) (nH l I)=true)=>by
 obtain ⟨p,e1,g⟩:=aj h
 cases sK e1 with
 | mk x np pos hs hi=>exact .plain (fun K c γ st o F e=>(xy e).elim fun r y=>EvR.lcall y.2 (F.loc hi (congrArg (Option.map fun r=>Out.ok r st) y.1)) (fun o e=>(L.l I _ g).ok K c γ st _ o F e) F.run (bE hs)) fun _=>rfl
theorem Right.prim {b:BI} (L:Right l):Right (.prim b l):=.expr (fun _ _=>rfl) fun I t e (h:az (cJ I e fun x=>decide ((biTab.lookup x).map BI.id=some b.id)) (nH l I)=true)=>by
 obtain ⟨p,e1,g⟩:=aj h
 cases bD e1 with
 | mk x np pos hs hg ho=>
  obtain ⟨b',e2,e3⟩:=Option.map_eq_some_iff.mp (dT ho)
  refine .plain (fun K c γ st o F e=>?_) fun _=>rfl
  obtain ⟨hq,hm⟩:=qN e
  exact EvR.bcall hm (F.glob hg (e3▸qL (aM e2))) (fun o e=>(L.l I _ g).ok K c γ st _ o F e) (fun rs st₁ o e ρ h tk vs ok y=>(Option.map_eq_some_iff.mp e).elim fun z w=>w.2▸tF (F.q hq) w.1 ok y) (bE hs)
theorem Right.dcopy (L:Right l):Right (.dcopy l):=.expr (fun _ _=>rfl) fun I t e (h:az (cJ I e fun x=>decide (tyTab.lookup x=some "dict")) (nH l I)=true)=>by
 obtain ⟨p,e1,g⟩:=aj h
 cases bD e1 with
 | mk x np pos hs hg ho=>exact .plain (fun K c γ st o F e=>EvR.dcopy e (F.glob hg (fj (aM (dT ho)))) (fun o e=>(L.l I _ g).ok K c γ st _ o F e) (bE hs)) fun _=>rfl
theorem EvR.strOf {x:Str} {np pos:Pos} {args:List Expr} {m:Option (Out (List RV))} {o:Out RV} (hm:aq m u6=some o) (hf:EvR c γ st (.Name x np) (.ok (.ty "str") st)) (y:∀o,m=some o->ElR c γ st pos args o)
  (hst:(backTo pos (starEach args c.env)).all (fun x=> !x.1)=true):EvR c γ st (.Call (.Name x np) args [] pos) o:=fun ρ h tk ok=>
 wpAny_Call_ofName (TR.known (hf ρ h tk ok) .refl fun v ρQ h₁ tkQ ok₁ sp₁ _ yf=>by
  apply yf.elim
  refine callWith_type hst (TR.seq hm (fun o e=>y o e ρQ h₁ tkQ ok₁) sp₁ fun rs vs ρ₂ st₂ h₂ tkJ hmQ ok₂ sp₂ _ yr=>?_)
  obtain ⟨r,e1,hmQ⟩:=Option.bind_eq_some_iff.mp hmQ
  obtain ⟨i,e2,hmQ⟩:=Option.bind_eq_some_iff.mp hmQ
  obtain ⟨hl,e⟩:=Option.ite_none_right_eq_some.mp hmQ
  rw [aR e1,aO e2] at yr
  cases yr with
  | cons yr1 yr2=>
   apply yr2.elim
   apply yr1.elim
   intro t
   exact Option.some.inj e▸PySem.P.str_of_int hl (TR.ends sp₂ ok₂ (.str _ _)))
theorem Right.strOf (L:Right l):Right (.strOf l):=.expr (fun _ _=>rfl) fun I t e (h:az (cJ I e fun x=>decide (tyTab.lookup x=some "str")) (nH l I)=true)=>by
 obtain ⟨p,e1,g⟩:=aj h
 cases bD e1 with
 | mk x np pos hs hg ho=>exact .plain (fun K c γ st o F e=>EvR.strOf e (F.glob hg (fj (aM (dT ho)))) (fun o e=>(L.l I _ g).ok K c γ st _ o F e) (bE hs)) fun _=>rfl
theorem Right.inst {C f:Addr} (L:Right l):Right (.inst C f l):=.expr (fun _ _=>rfl) fun I t e (h:(ft C&&decide (f=nO C)&&az (cJ I e fun x=>decide (fnTab.lookup x=some C)) (nH l I))=true)=>by
 obtain ⟨h1,h2,h⟩:=dt h
 obtain ⟨p,e1,g⟩:=aj h
 cases bD e1 with
 | mk x np pos hs hg ho=>
  refine .plain (fun K c γ st o F e=>?_) fun _=>rfl
  obtain ⟨hn,hm⟩:=Option.ite_none_right_eq_some.mp e
  exact EvR.new hm (F.glob hg (f9 (aM (dT ho)))) (fun o e=>(L.l I _ g).ok K c γ st _ o F e) (F.n▸hn) (fun rs st o e=>F.n▸(F.runs _ _ _ (Nat.sub_le _ _) F.q _ _ _ _ e).1) (dT h2▸u3 h1) (bE hs)
theorem Right.meth {m:CM} (A:Right a) (L:Right l):Right (.meth m a l):=.expr (fun _ _=>rfl) fun I t e (h:az (callA e fun an=>decide (an=m.name)) (fun p=>rk a I false p.1&&nH l I p.2.2)=true)=>by
 obtain ⟨p,e1,h⟩:=aj h
 obtain ⟨h1,h2⟩:=aQ h
 cases mJ e1 with
 | mk ob an ap args pos hs hn hb hl ho=>
  have ho:=dT ho
  subst ho
  exact .plain (fun K c γ st o F e=>EvR.cmeth (n:=u9 l K γ) e (fun o e=>A.v h1 K c γ st o F e) (fun s o e=>(L.l I _ h2).ok K c γ s _ o F e) hb (bE hs) hn hl) fun _=>rfl
theorem Right.mcall {f C:Addr} (A:Right a) (L:Right l):Right (.mcall f C a l):=.expr (fun _ _=>rfl) fun I t e (h:(decide (C=685)&&az (callA e fun an=>decide (methR.lookup an=some f)) fun p=>rk a I false p.1&&nH l I p.2.2)=true)=>by
 obtain ⟨h0,h⟩:=aQ h
 obtain ⟨p,e1,h⟩:=aj h
 obtain ⟨h1,h2⟩:=aQ h
 have h0:=dT h0
 subst h0
 cases mJ e1 with
 | mk ob an ap args pos hs hn hb hl ho=>
  exact .plain (fun K c γ st o F e=>EvR.mcall (n:=u9 l K γ) (F:=K.run K.q K.n f) e (fun o e=>A.v h1 K c γ st o F e) (fun s o e=>(L.l I _ h2).ok K c γ s _ o F e) (fun rs st o e=>(F.run f rs st o e).1) (sb (aM (dT ho))) hb (bE hs) hn hl) fun _=>rfl
theorem Right.dict0:Right .dict0:=.expr (fun _ _=>rfl) fun I t e (h:aB (iI e) (fun p=>p.1.isEmpty&&p.2.isEmpty)=true)=>by
 obtain ⟨p,⟨q,e1⟩,h⟩:=au h
 obtain ⟨h1,h2⟩:=aQ h
 rw [e1,dm h1,dm h2]
 exact .plain (fun K c γ st o F e=>Option.some.inj e▸EvR.dict0) fun _=>rfl
theorem Right.dict1 (A:Right a) (B:Right b):Right (.dict1 a b):=.expr (fun _ _=>rfl) fun I t e (h:aB (iI e) (fun p=>az (oneOf p.1) fun ko=>az ko fun ke=>az (oneOf p.2) fun ve=>rk a I false ke&&rk b I false ve)=true)=>by
 obtain ⟨p,⟨q,e1⟩,h⟩:=au h
 obtain ⟨ko,e2,h⟩:=aj h
 obtain ⟨ke,e3,h⟩:=aj h
 obtain ⟨ve,e4,h⟩:=aj h
 obtain ⟨h1,h2⟩:=aQ h
 rw [e1,aR e2,aR e4,e3]
 exact .plain (fun K c γ st o F e=>EvR.dict1 (k:=rv a K γ) (v:=rv b K γ) e (fun s o e=>A.v h1 K c γ s o F e) fun s o e=>B.v h2 K c γ s o F e) fun _=>rfl
theorem Right.nil:Right .nil:=⟨fun I t e h=>(aN h),fun I es h=>⟨fun K c γ st pos o F e=>by
 rw [dm h]
 exact Option.some.inj e▸ElR.nil,fun e q=>by rw [q] at h;exact aN h⟩,fun _ _ _ _ _=>rfl⟩
theorem Right.cons (A:Right a) (L:Right l):Right (.cons a l):=by
 refine ⟨fun I t e h=>(aN h),fun I es (h:az (jq es) (fun p=>cz p.1&&rk a I false p.1&&nH l I p.2)=true)=>?_,fun I h=>aN h⟩
 obtain ⟨p,e1,h⟩:=aj h
 obtain ⟨h1,h2,h3⟩:=dt h
 have e1:=kQ e1
 refine ⟨fun K c γ st pos o F e=>e1▸ElR.cons (n:=u9 l K γ) e (fun o e=>A.v h2 K c γ st o F e) (fun s o e=>(L.l I _ h3).ok K c γ s pos o F e) (ky h1),fun e q=>?_⟩
 have q:=List.cons.inj (e1.symm.trans q)
 rw [q.2] at h3
 exact ⟨a,fun K γ st=>cx fun r s=>congrArg (aq · fun l s₂=>some (.ok (r::l) s₂)) (L.n I h3 K γ s),q.1▸A.v h2⟩
theorem Fits.comp (F:Fits I K c) {scope:Scope} {tn:List Str} {fi:List Nat} (h:tU I scope tn fi=true):∃x:CompOk c scope tn fi,∀C hC,Fits (eQ I scope tn fi) K (aT c x C hC):=by
 obtain ⟨h,h6,h7,h8⟩:=iw h
 obtain ⟨h,h3,h4,h5⟩:=iw h
 obtain ⟨h1,h2⟩:=aQ h
 refine ⟨⟨F.full h1,?_,dc h3,fun y hy e=>?_,fun x hx=>?_,fun x hx=>?_,fun i hi=>?_,F.names▸dc h8⟩,fun C hC=>⟨congrArg (fun n=>tn++fi.filterMap fun i=>n[i]?) F.names,fun x=>?_,fun h=>(aN h),F.n,F.q,F.runs⟩⟩
 ·generalize scope.kind=k at h2
  cases k with
  | function=>rfl
  | _=>exact aN h2
 ·have:=List.all_eq_true.mp h4 y hy
  rw [e] at this
  exact aN this
 ·have:=aQ (List.all_eq_true.mp h5 _ hx)
  exact ⟨F.names▸List.contains_iff_mem.mp this.1,(F.kind x).trans (dT this.2)⟩
 ·have:=aQ (List.all_eq_true.mp h6 _ hx)
  exact ⟨List.contains_iff_mem.mp this.1,j0 this.2⟩
 ·obtain ⟨x,e,h⟩:=aj (List.all_eq_true.mp h7 _ hi)
  exact ⟨x,F.names▸e,List.contains_iff_mem.mp h⟩
 ·refine congrArg (fun f=>List.lookup x (scope.names.map f)) (funext fun p=>?_)
  show (if (p.2==NameKind.free&&c.env.scope.kind==.function&&c.env.kindOf p.1==some .cell) then _ else _)=_
  rw [c.kind,F.kind]
  exact congrArg (fun b=>if (b&&I.kind p.1==some .cell)=true then (p.1,NameKind.cell) else (p.1,p.2)) (Bool.and_true _)
inductive t6 (I:Info) (T:Tg) (tn:List Str) (fi:List Nat):Expr×Expr×Expr×Scope×Pos->Expr->Prop
 | mk (elt target iter:Expr) (scope:Scope) (pos:Pos) (h:tU I scope tn fi=true) (hT:T.isT (tn++fi.filterMap (I.names[·]?)) target=true) (hi:∀i∈T.idx,i<tn.length):t6 I T tn fi (elt,target,iter,scope,pos) (.ListComp elt [⟨target,iter,[],0⟩] scope pos)
theorem ki {T:Tg} {tn:List Str} {fi:List Nat} {x:Expr×Expr×Expr×Scope×Pos} (h:lX I T tn fi e=some x):t6 I T tn fi x e:=by
 obtain ⟨p,e1,h⟩:=cC h
 obtain ⟨g,e2,h⟩:=Option.bind_eq_some_iff.mp h
 obtain ⟨h,e3⟩:=bz h
 obtain ⟨h,h3,h4,h5⟩:=iw h
 obtain ⟨h1,h2⟩:=aQ h
 obtain ⟨tg,it,ifs,as⟩:=g
 have h1:=dm h1
 have h2:=dT h2
 rw [e1,aR e2,<-e3]
 subst h1 h2
 exact .mk _ _ _ _ _ h3 h4 fun i hi=>dT (List.all_eq_true.mp h5 i hi)
theorem Right.comp {T:Tg} {ik:IK} {tn:List Str} {fi:List Nat} (L:Right l) (A:Right a):Right (.comp T ik l a tn fi):=.expr (fun _ _=>rfl) fun I t e (h:az (lX I T tn fi e) (fun p=>az (fN ik I p.2.1 p.2.2.1) (nH l I)&&rk a (eQ I p.2.2.2.1 tn fi) false p.1)=true)=>by
 obtain ⟨p,e1,h⟩:=aj h
 obtain ⟨h1,h2⟩:=aQ h
 obtain ⟨es,e2,g⟩:=aj h1
 cases ki e1 with
 | mk elt target iter scope pos hB hT hi=>
  refine .plain (fun K c γ st o F e=>?_) fun _=>rfl
  obtain ⟨x,hx⟩:=F.comp hB
  exact EvR.comp x (ef:=rv a K) e (fun o e=>l7 e2 (L.l I _ g) F e) (by unfold q8;rw [F.names];exact hT) hi (fun C hC γ st o e=>A.v h2 K _ γ st o (hx C hC) e) (folded (fR e2))
end
noncomputable def XE:Type:={ x:Cod // Right x }
noncomputable abbrev om:=XE
noncomputable def XE.r (x:XE):Cod:=x.val
theorem Right.all (x:XE):Right x.r:=x.property
noncomputable def XE.bad  : XE:=⟨.bad,.bad⟩
noncomputable def XE.loc (i:Nat):XE:=⟨.loc i,.loc⟩
noncomputable def XE.val (r:RV):XE:=⟨.val r,.val⟩
noncomputable def XE.bin (op:Operator) (a:XE) (b:XE):XE:=⟨.bin op a.r b.r,(Right.all a).bin (.all b)⟩
noncomputable def XE.cmp (op:CmpOp) (a:XE) (b:XE):XE:=⟨.cmp op a.r b.r,(Right.all a).cmp (.all b)⟩
noncomputable def XE.cmp2 (op:CmpOp) (op':CmpOp) (a:XE) (b:XE) (d:XE):XE:=⟨.cmp2 op op' a.r b.r d.r,(Right.all a).cmp2 (.all b) (.all d)⟩
noncomputable def XE.not (a:XE):XE:=⟨.not a.r,(Right.all a).not⟩
noncomputable def XE.neg (a:XE):XE:=⟨.neg a.r,(Right.all a).neg⟩
noncomputable def XE.ite (t:XE) (a:XE) (b:XE):XE:=⟨.ite t.r a.r b.r,(Right.all t).ite (.all a) (.all b)⟩
noncomputable def XE.and (a:XE) (b:XE):XE:=⟨.and a.r b.r,(Right.all a).and (.all b)⟩
noncomputable def XE.or (a:XE) (b:XE):XE:=⟨.or a.r b.r,(Right.all a).or (.all b)⟩
noncomputable def XE.tup (l:XE):XE:=⟨.tup l.r,(Right.all l).tup⟩
noncomputable def XE.lst (l:XE):XE:=⟨.lst l.r,(Right.all l).lst⟩
noncomputable def XE.new (l:XE):XE:=⟨.new l.r,(Right.all l).new⟩
noncomputable def XE.idx (a:XE) (i:XE):XE:=⟨.idx a.r i.r,(Right.all a).idx (.all i)⟩
noncomputable def XE.drop (a:XE) (i:XE):XE:=⟨.drop a.r i.r,(Right.all a).drop (.all i)⟩
noncomputable def XE.take (a:XE) (i:XE):XE:=⟨.take a.r i.r,(Right.all a).take (.all i)⟩
noncomputable def XE.back (a:XE):XE:=⟨.back a.r,(Right.all a).back⟩
noncomputable def XE.attr (C:Addr) (k:Nat) (a:XE):XE:=⟨.attr C k a.r,(Right.all a).attr⟩
noncomputable def XE.bound (f:Addr) (C:Addr) (a:XE):XE:=⟨.bound f C a.r,(Right.all a).bound⟩
noncomputable def XE.call (f:Addr) (l:XE):XE:=⟨.call f l.r,(Right.all l).call⟩
noncomputable def XE.vcall (i:Nat) (l:XE):XE:=⟨.vcall i l.r,(Right.all l).vcall⟩
noncomputable def XE.prim (b:BI) (l:XE):XE:=⟨.prim b l.r,(Right.all l).prim⟩
noncomputable def XE.dcopy (l:XE):XE:=⟨.dcopy l.r,(Right.all l).dcopy⟩
noncomputable def XE.strOf (l:XE):XE:=⟨.strOf l.r,(Right.all l).strOf⟩
noncomputable def XE.inst (C:Addr) (f:Addr) (l:XE):XE:=⟨.inst C f l.r,(Right.all l).inst⟩
noncomputable def XE.meth (m:CM) (a:XE) (l:XE):XE:=⟨.meth m a.r l.r,(Right.all a).meth (.all l)⟩
noncomputable def XE.mcall (f:Addr) (C:Addr) (a:XE) (l:XE):XE:=⟨.mcall f C a.r l.r,(Right.all a).mcall (.all l)⟩
noncomputable def XE.dict0  : XE:=⟨.dict0,.dict0⟩
noncomputable def XE.dict1 (k:XE) (v:XE):XE:=⟨.dict1 k.r v.r,(Right.all k).dict1 (.all v)⟩
noncomputable def XE.comp (T:Tg) (ik:IK) (it:XE) (elt:XE) (tn:List Str) (fi:List Nat):XE:=⟨.comp T ik it.r elt.r tn fi,(Right.all it).comp (.all elt)⟩
noncomputable def XE.nil  : XE:=⟨.nil,.nil⟩
noncomputable def XE.cons (a:XE) (l:XE):XE:=⟨.cons a.r l.r,(Right.all a).cons (.all l)⟩
noncomputable def ev (x:XE) (K:cK) (γ:Lo) (st:ai):Option (Out RV):=x.r.e K γ st
noncomputable def cP (x:om) (K:cK) (γ:Lo) (st:ai):Option (Out (List RV)):=x.r.l K γ st
noncomputable abbrev cu (a:XE) (K:cK) (γ:Lo) (st:ai):Option (Out Bool):=aq (ev a K γ st) jf
noncomputable def fB (x:XE) (I:Info) (t:Bool) (e:Expr):Bool:=x.r.c I t e
noncomputable def rH (x:XE) (I:Info) (es:List Expr):Bool:=x.r.k I es
noncomputable def pf (s:Stmt):Option { x:Expr // ∃p,s=.Expr x p }:=match s with
 | .Expr x p=>some ⟨x,⟨_,rfl⟩⟩
 | _=>none
noncomputable def lG (s:Stmt):Option { x:Expr×Operator×Expr // ∃p,s=.AugAssign x.1 x.2.1 x.2.2 p }:=match s with
 | .AugAssign t op v p=>some ⟨(t,op,v),⟨_,rfl⟩⟩
 | _=>none
noncomputable def wb (s:Stmt):Option { x:Expr×List Stmt×List Stmt // ∃p,s=.If x.1 x.2.1 x.2.2 p }:=match s with
 | .If t a b p=>some ⟨(t,a,b),⟨_,rfl⟩⟩
 | _=>none
noncomputable def mF (s:Stmt):Option { x:Expr×List Stmt×List Stmt // ∃p,s=.While x.1 x.2.1 x.2.2 p }:=match s with
 | .While t a b p=>some ⟨(t,a,b),⟨_,rfl⟩⟩
 | _=>none
noncomputable def tZ (s:Stmt):Option { x:Expr×Expr×List Stmt×List Stmt // ∃p,s=.For x.1 x.2.1 x.2.2.1 x.2.2.2 p }:=match s with
 | .For t i a b p=>some ⟨(t,i,a,b),⟨_,rfl⟩⟩
 | _=>none
noncomputable def m7 (s:Stmt):Option { x:Option Expr×Option Expr // ∃p,s=.Raise x.1 x.2 p }:=match s with
 | .Raise a b p=>some ⟨(a,b),⟨_,rfl⟩⟩
 | _=>none
noncomputable def lI (s:Stmt):Option { x:List Stmt×List ExceptHandler×List Stmt×List Stmt // ∃p,s=.Try x.1 x.2.1 x.2.2.1 x.2.2.2 p }:=match s with
 | .Try b hs e f p=>some ⟨(b,hs,e,f),⟨_,rfl⟩⟩
 | _=>none
noncomputable def ju (h:ExceptHandler):{ x:Option Expr×Option Str×List Stmt // ∃p,h=.ExceptHandler x.1 x.2.1 x.2.2 p }:=match h with
 | .ExceptHandler a b d p=>⟨(a,b,d),⟨_,rfl⟩⟩
noncomputable def oz (I:Info) (x:Str) (xp:Pos) (v:Expr):Bool:=aB (pM v) fun p=>decide (I.kind x=some .local)&&(xp.line==p.2.2.2.line) && !(p.2.2.1.names.any fun (n,k)=>n==x&&(k==.local||k==.cell))
noncomputable def dq (s:Stmt):Option { x:Expr×Expr×Pos // s=.Assign [x.1] x.2.1 x.2.2 }:=match s with
 | .Assign ts v p=>match ts with
  | []=>none
  | t::ts=>match ts with
   | []=>some ⟨(t,v,p),rfl⟩
   | _=>none
 | _=>none
noncomputable abbrev Bc:=Info->Stmt->Bool
noncomputable abbrev A3:=Info->List Stmt->Bool
noncomputable abbrev nJ:A3:=fun _ _=>false
noncomputable def nt (I:Info) (is:List Nat):List Str:=is.filterMap (I.names[·]?)
noncomputable abbrev AF:=cK->Lo->ai->Option SOut
noncomputable abbrev lC:AF:=fun _ _ _=>none
structure CodS where
 s:AF
 l:AF
 c:Bc
 k:A3
noncomputable def CodS.bad  : CodS:=⟨lC,lC,fun _ _=>false,nJ⟩
noncomputable def CodS.ret (e:XE):CodS:=⟨fun K γ st=>dg (ev e K γ st) γ fun r s₁=>some (.ret r s₁),lC,fun I s=>az (oU s) (fB e I false),nJ⟩
noncomputable def CodS.expr (e:XE):CodS:=⟨fun K γ st=>dg (ev e K γ st) γ fun _ s₁=>some (.next γ s₁),lC,fun I s=>aB (pf s) fun v=>gb v&&fB e I false v,nJ⟩
noncomputable def CodS.asg (i:Nat) (e:XE):CodS:=⟨fun K γ st=>dg (ev e K γ st) γ fun r s₁=>some (.next (γ.set i (some r)) s₁),lC,fun I s=>aB (dq s) fun p=>fB e I false p.2.1&&az (nameOf p.1) fun x=>decide (I.names[i]? = some x.1)&&gb p.2.1,nJ⟩
noncomputable def CodS.asgc (i:Nat) (T:Tg) (ik:IK) (it elt:XE) (tn:List Str) (fi:List Nat):CodS:=⟨fun K γ st=>dg (ev (.comp T ik it elt tn fi) K γ st) γ fun r s₁=>some (.next (γ.set i (some r)) s₁),lC,fun I s=>aB (dq s) fun p=>fB (.comp T ik it elt tn fi) I false p.2.1&&az (nameOf p.1) fun x=>decide (I.names[i]? = some x.1)&&oz I x.1 x.2 p.2.1,nJ⟩
noncomputable def CodS.unpack (is:List Nat) (rev:Bool) (e:XE):CodS:=⟨fun K γ st=>dg (ev e K γ st) γ fun r s₁=>(tD is rev r γ).map fun γ'=>.next γ' s₁,lC,fun I s=>aB (dq s) fun p=>fB e I false p.2.1&&aB (jO p.1) fun ts=>fh I.names is ts&&decide (vR I.kind ts p.2.1=some (cond rev (some (nt I is)) none))&&(!rev||decide (is.map (fun i=>I.names[i]?)=(nt I is).map some)),nJ⟩
noncomputable def CodS.aug (i:Nat) (op:Operator) (e:XE):CodS:=⟨fun K γ st=>(γ[i]?).join.bind fun a=>dg (ev e K γ st) γ fun r s₁=>(jT op a r).map fun z=>.next (γ.set i (some z)) s₁,lC,fun I s=>aB (lG s) fun p=>decide (p.2.1=op)&&fB e I false p.2.2&&az (nameOf p.1) fun x=>decide (I.names[i]? = some x.1),nJ⟩
noncomputable def CodS.setattr (C:Addr) (k:Nat) (ob:XE) (e:XE):CodS:=⟨fun K γ st=>dg (aq (ev e K γ st) fun r s₁=>aq (ev ob K γ s₁) fun q s₂=>(j3 s₂ C k q r).map fun s₃=>Out.ok () s₃) γ fun _ s₁=>some (.next γ s₁),lC,fun I s=>aB (dq s) fun p=>ft C&&fB e I false p.2.1&&aB (eV p.1) fun q=>decide ((aV C)[k]? = some q.2.1)&&fB ob I false q.1,nJ⟩
noncomputable def CodS.augattr (C:Addr) (k:Nat) (op:Operator) (ob:XE) (e:XE):CodS:=⟨fun K γ st=>dg (aq (ev ob K γ st) fun ov s₁=>(eH s₁ C k ov).bind fun old=>if gQ old then none else aq (ev e K γ s₁) fun r s₂=>(jT op old r).bind fun z=>(j3 s₂ C k ov z).map fun s₃=>Out.ok () s₃) γ fun _ s₁=>some (.next γ s₁),lC,fun I s=>aB (lG s) fun p=>decide (p.2.1=op)&&ft C&&fB e I false p.2.2&&aB (eV p.1) fun q=>decide ((aV C)[k]? = some q.2.1)&&fB ob I false q.1,nJ⟩
noncomputable def CodS.setitem (ob:XE) (ix:XE) (e:XE):CodS:=⟨fun K γ st=>dg (aq (ev e K γ st) fun r s₁=>aq (ev ob K γ s₁) fun a s₂=>aq (ev ix K γ s₂) fun i s₃=>(dB s₃ a i r).map fun s₄=>Out.ok () s₄) γ fun _ s₁=>some (.next γ s₁),lC,fun I s=>aB (dq s) fun p=>fB e I false p.2.1&&aB (dy p.1) fun q=>fB ob I false q.1&&fB ix I false q.2,nJ⟩
noncomputable def CodS.ite (t:XE) (a:CodS) (b:CodS):CodS:=⟨fun K γ st=>dg (cu t K γ st) γ fun q s₁=>if q then a.l K γ s₁ else b.l K γ s₁,lC,fun I s=>aB (wb s) fun p=>fB t I true p.1&&a.k I p.2.1&&b.k I p.2.2,nJ⟩
noncomputable def CodS.while (t:XE) (b:CodS):CodS:=⟨fun K γ st=>eJ (fun γ s=>cu t K γ s) (fun γ s=>b.l K γ s) γ st,lC,fun I s=>aB (mF s) fun p=>p.2.2.isEmpty&&fB t I true p.1&&b.k I p.2.1,nJ⟩
noncomputable def CodS.for (T:Tg) (ik:IK) (it:XE) (b:CodS):CodS:=⟨fun K γ st=>dg (sT K.q ik (cP it K γ st)) γ fun l s₁=>fw T (fun γ s=>b.l K γ s) l γ s₁,lC,fun I s=>aB (tZ s) fun p=>p.2.2.2.isEmpty&&T.isT I.names p.1&&az (fN ik I p.1 p.2.1) (rH it I)&&b.k I p.2.2.1,nJ⟩
noncomputable def CodS.raise (l:XE):CodS:=⟨fun K γ st=>if K.q then dg (cP l K γ st) γ (oR K.n γ) else none,lC,fun I s=>aB (m7 s) fun p=>p.2.isNone&&az p.1 fun e=>az (cJ I e fun x=>decide (fnTab.lookup x=some 41)) (rH l I),nJ⟩
noncomputable def CodS.tryx (H:Hdl) (b:CodS):CodS:=⟨fun K γ st=>ny H (b.l K γ st),lC,fun I s=>aB (lI s) fun p=>p.2.2.1.isEmpty&&p.2.2.2.isEmpty&&b.k I p.1&&az (oneOf p.2.1) fun h=>az (ju h).1.1 fun ty=>az (nameOf ty) fun bx=>az (ju h).1.2.1 fun x=>
  decide (I.kind x=some .local) && !I.names.contains x && !(x==("__debug__":Str))&&(I.glob bx.1&&decide (fnTab.lookup bx.1=some 41)&&H.isBody I.names x (ju h).1.2.2),nJ⟩
noncomputable def CodS.fin (b:CodS) (f:CodS):CodS:=⟨fun K γ st=>vQ (b.l K γ st) (fun γ s=>f.l K γ s) (fun γ s=>f.l { K with q:=false } γ s),lC,fun I s=>aB (lI s) fun p=>p.2.1.isEmpty&&p.2.2.1.isEmpty && !p.2.2.2.isEmpty&&(b.k I p.1&&f.k I p.2.2.2),nJ⟩
noncomputable def CodS.nil  : CodS:=⟨lC,fun _ γ st=>some (.next γ st),fun _ _=>false,fun _ l=>l.isEmpty⟩
noncomputable def CodS.cons (s:CodS) (l:CodS):CodS:=⟨lC,fun K γ st=>fQ (s.s K γ st) fun γ s₁=>l.l K γ s₁,fun _ _=>false,fun I es=>az (jq es) fun p=>s.c I p.1&&l.k I p.2⟩
noncomputable abbrev rx (x:CodS) (K:cK) (γ:Lo) (st:ai):Option SOut:=x.s K γ st
noncomputable abbrev wd (x:CodS) (K:cK) (γ:Lo) (st:ai):Option SOut:=x.l K γ st
noncomputable abbrev AJ (x:CodS) (I:Info) (s:Stmt):Bool:=x.c I s
noncomputable abbrev jS (x:CodS) (I:Info) (l:List Stmt):Bool:=x.k I l
theorem Fits.mark {I:Info} {K:cK} {c:Cx} (F:Fits I K c) (e:Addr):Fits I { K with q:=false } (c.mark e):=
 ⟨F.names,F.kind,fun h=>let x:=F.full h;⟨x.cells,x.env⟩,F.n,fun h=>(aN h),F.runs⟩
structure RightS (a:CodS):Prop where
 s:∀I s,AJ a I s=true->∀K c γ st o,I.full=true->Fits I K c->rx a K γ st=some o->SX c γ st s o
 l:∀I l,jS a I l=true->∀K c γ st o,I.full=true->Fits I K c->wd a K γ st=some o->SR c γ st l o
theorem kK {e:Expr} {t:Option Expr} {l:Nat} {env:Env} (h:gb e=true):swapsWith e t l env=pure false:=by
 cases e with
 | ListComp=>exact aN h
 | SetComp=>exact aN h
 | DictComp=>exact aN h
 | _=>rfl
theorem nS {e ob:Expr} {an:Str} {p:Pos} {l:Nat} {env:Env}:swapsWith e (some (.Attribute ob an p)) l env=pure false:=by
 cases e <;> rfl
theorem qZ {e ob ix:Expr} {p:Pos} {l:Nat} {env:Env}:swapsWith e (some (.Subscript ob ix p)) l env=pure false:=by
 cases e <;> rfl
theorem rm (c:Cx):c.env.blockKind=.function:=by unfold Env.blockKind;rw [c.kind];rfl
section
variable {I:Info} {K:cK} {c:Cx} {γ:Lo} {st:ai} {a b f:CodS} {e t:XE} {s:Stmt}
theorem RightS.stmt (hL:∀I l,jS a I l=false) (h:∀I s,AJ a I s=true->∀K c γ st o,I.full=true->Fits I K c->rx a K γ st=some o->SX c γ st s o):RightS a:=⟨h,fun I l q=>nomatch (hL I l).symm.trans q⟩
theorem q9 (F:Fits I K c) {v:Expr} (h:fB e I false v=true) (st:ai) (o:Out RV) (q:ev e K γ st=some o):EvR c γ st v o:=(Right.all e).v h K c γ st o F q
theorem AV (F:Fits I K c) {v:Expr} (h:fB e I true v=true) (γ:Lo) (st:ai) (o:Out Bool) (q:cu e K γ st=some o):EtR c γ st v o:=(Right.all e).e I true v h K c γ st o F q
theorem pH (hI:I.full=true) (F:Fits I K c) (x:Str) (_:x∈c.names):c.env.kindOf x=some .local\/c.Full:=.inr (F.full hI)
theorem RightS.bad:RightS .bad:=.stmt (fun _ _=>rfl) fun I s h=>aN h
theorem RightS.ret:RightS (.ret e):=.stmt (fun _ _=>rfl) fun I s (h:az (oU s) (fB e I false)=true) K c γ st o hI F q=>by
 obtain ⟨v,e1,h⟩:=aj h
 obtain ⟨p,e1⟩:=mR e1
 exact e1▸SX.ret q (q9 F h st)
theorem RightS.expr:RightS (.expr e):=.stmt (fun _ _=>rfl) fun I s (h:aB (pf s) (fun v=>gb v&&fB e I false v)=true) K c γ st o hI F q=>by
 obtain ⟨v,⟨p,e1⟩,h⟩:=au h
 exact e1▸SX.expr q (q9 F (aQ h).2 st) (kK (aQ h).1)
theorem oy (F:Fits I K c) {x:Str} {xp pos:Pos} {p:Expr×List Comprehension×Scope×Pos} (h:oz I x xp (.ListComp p.1 p.2.1 p.2.2.1 p.2.2.2)=true):swapsWith (.ListComp p.1 p.2.1 p.2.2.1 p.2.2.2) (some (.Name x xp)) pos.line c.env=pure true:=by
 obtain ⟨h1,h2,h3⟩:=dt h
 show (pure (c.env.blockKind==.function&&c.env.kindOf x==some .local&&xp.line==p.2.2.2.line && !(p.2.2.1.names.any fun (n,k)=>n==x&&(k==.local||k==.cell))):Sem Bool)=_
 rw [rm c,F.kind x,dT h1,h2,h3]
 rfl
theorem RightS.asg {i:Nat}:RightS (.asg i e):=.stmt (fun _ _=>rfl) fun I s (h:aB (dq s) (fun p=>fB e I false p.2.1&&az (nameOf p.1) fun x=>decide (I.names[i]? = some x.1)&&gb p.2.1)=true) K c γ st o hI F q=>by
 obtain ⟨p,e1,h⟩:=au h
 obtain ⟨h1,h⟩:=aQ h
 obtain ⟨x,e2,h⟩:=aj h
 obtain ⟨h2,h⟩:=aQ h
 rw [e1,cU e2]
 exact SX.assign q (q9 F h1 st) (pH hI F) (F.names▸dT h2) (kK h)
theorem RightS.asgc {i:Nat} {T:Tg} {ik:IK} {it elt:XE} {tn:List Str} {fi:List Nat}:RightS (.asgc i T ik it elt tn fi):=.stmt (fun _ _=>rfl) fun I s (h:aB (dq s) (fun p=>az (lX I T tn fi p.2.1) (fun p=>az (fN ik I p.2.1 p.2.2.1) (rH it I)&&fB elt (eQ I p.2.2.2.1 tn fi) false p.1)&&az (nameOf p.1) fun x=>decide (I.names[i]? = some x.1)&&oz I x.1 x.2 p.2.1)=true) K c γ st o hI F q=>by
 obtain ⟨p,e1,h⟩:=au h
 obtain ⟨h1,h⟩:=aQ h
 obtain ⟨x,e2,h⟩:=aj h
 obtain ⟨h2,h4⟩:=aQ h
 rw [e1,cU e2]
 have hx:c.names[i]? = some x.1:=F.names▸dT h2
 obtain ⟨y,f1,h5⟩:=aj h1
 obtain ⟨h6,h7⟩:=aQ h5
 obtain ⟨es,f2,g⟩:=aj h6
 generalize p.2.1=v at f1 h4
 cases ki f1 with
 | mk elt' target iter scope pos hB hT hi=>
  obtain ⟨w,hw⟩:=F.comp hB
  exact SX.comp w (ef:=ev elt K) q (fun o e=>l7 f2 ((Right.all it).l I _ g) F e) (by unfold q8;rw [F.names];exact hT) hi (fun C hC γ st o e=>(Right.all elt).v h7 K _ γ st o (hw C hC) e) (folded (fR f2)) (oy (p:=(elt',[⟨target,iter,[],0⟩],scope,pos)) F h4) hx
theorem RightS.unpack {is:List Nat} {rev:Bool}:RightS (.unpack is rev e):=.stmt (fun _ _=>rfl) fun I s (h:aB (dq s) (fun p=>fB e I false p.2.1&&aB (jO p.1) fun ts=>fh I.names is ts&&decide (vR I.kind ts p.2.1=some (cond rev (some (nt I is)) none))&&(!rev||decide (is.map (fun i=>I.names[i]?)=(nt I is).map some)))=true) K c γ st o hI F q=>by
 obtain ⟨p,e1,h⟩:=au h
 obtain ⟨h1,h⟩:=aQ h
 obtain ⟨ts,⟨k,u,e2⟩,h⟩:=au h
 obtain ⟨h2,h3,h4⟩:=dt h
 rw [e1,e2]
 refine SX.unpack (ns:=nt I is) q (q9 F h1 st) (pH hI F) (F.names▸h2) ((funext F.kind:c.env.kindOf=I.kind)▸dT h3) fun hr=>?_
 rw [hr] at h4
 exact F.names▸dT h4
theorem RightS.aug {i:Nat} {op:Operator}:RightS (.aug i op e):=.stmt (fun _ _=>rfl) fun I s (h:aB (lG s) (fun p=>decide (p.2.1=op)&&fB e I false p.2.2&&az (nameOf p.1) fun x=>decide (I.names[i]? = some x.1))=true) K c γ st o hI F q=>by
 obtain ⟨p,⟨u,e1⟩,h⟩:=au h
 obtain ⟨h1,h2,h⟩:=dt h
 obtain ⟨x,e2,h⟩:=aj h
 rw [e1,cU e2,dT h1]
 obtain ⟨r,e3,q⟩:=Option.bind_eq_some_iff.mp q
 exact SX.aug (Option.join_eq_some_iff.mp e3) q (q9 F h2 st) (F.full hI) (F.names▸dT h)
theorem RightS.setattr {C:Addr} {k:Nat} {ob:XE}:RightS (.setattr C k ob e):=.stmt (fun _ _=>rfl) fun I s (h:aB (dq s) (fun p=>ft C&&fB e I false p.2.1&&aB (eV p.1) fun q=>decide ((aV C)[k]? = some q.2.1)&&fB ob I false q.1)=true) K c γ st o hI F q=>by
 obtain ⟨p,e1,h⟩:=au h
 obtain ⟨h1,h2,h⟩:=dt h
 obtain ⟨x,e2,h⟩:=au h
 rw [e1,e2]
 exact SX.setattr (n:=ev ob K γ) q (q9 F h2 st) (q9 F (aQ h).2) h1 (dT (aQ h).1) nS
theorem RightS.augattr {C:Addr} {k:Nat} {op:Operator} {ob:XE}:RightS (.augattr C k op ob e):=.stmt (fun _ _=>rfl) fun I s (h:aB (lG s) (fun p=>decide (p.2.1=op)&&ft C&&fB e I false p.2.2&&aB (eV p.1) fun q=>decide ((aV C)[k]? = some q.2.1)&&fB ob I false q.1)=true) K c γ st o hI F q=>by
 obtain ⟨p,⟨u,e1⟩,h⟩:=au h
 obtain ⟨h1,h2,h3,h⟩:=iw h
 obtain ⟨x,e2,h⟩:=au h
 rw [e1,e2,dT h1]
 exact SX.augattr (n:=ev e K γ) q (q9 F (aQ h).2 st) (q9 F h3) h2 (dT (aQ h).1)
theorem RightS.setitem {ob ix:XE}:RightS (.setitem ob ix e):=.stmt (fun _ _=>rfl) fun I s (h:aB (dq s) (fun p=>fB e I false p.2.1&&aB (dy p.1) fun q=>fB ob I false q.1&&fB ix I false q.2)=true) K c γ st o hI F q=>by
 obtain ⟨p,e1,h⟩:=au h
 obtain ⟨h1,h⟩:=aQ h
 obtain ⟨x,⟨u,e2⟩,h⟩:=au h
 rw [e1,e2]
 exact SX.setitem (n:=ev ob K γ) (n':=ev ix K γ) q (q9 F h1 st) (q9 F (aQ h).1) (q9 F (aQ h).2) qZ
theorem RightS.ite (A:RightS a) (B:RightS b):RightS (.ite t a b):=.stmt (fun _ _=>rfl) fun I s (h:aB (wb s) (fun p=>fB t I true p.1&&jS a I p.2.1&&jS b I p.2.2)=true) K c γ st o hI F q=>by
 obtain ⟨p,⟨u,e1⟩,h⟩:=au h
 obtain ⟨h1,h2,h3⟩:=dt h
 exact e1▸SX.ite (f:=wd a K γ) (g:=wd b K γ) q (AV F h1 γ st) (fun s o e=>A.l I _ h2 K c γ s o hI F e) fun s o e=>B.l I _ h3 K c γ s o hI F e
theorem RightS.while (B:RightS b):RightS (.while t b):=.stmt (fun _ _=>rfl) fun I s (h:aB (mF s) (fun p=>p.2.2.isEmpty&&fB t I true p.1&&jS b I p.2.1)=true) K c γ st o hI F q=>by
 obtain ⟨p,⟨u,e1⟩,h⟩:=au h
 obtain ⟨h1,h2,h3⟩:=dt h
 rw [e1,dm h1]
 exact SX.while (t:=cu t K) (b:=wd b K) q (F.full hI) (AV F h2) fun γ s o e=>B.l I _ h3 K c γ s o hI F e
theorem RightS.for {T:Tg} {ik:IK} {it:XE} (B:RightS b):RightS (.for T ik it b):=.stmt (fun _ _=>rfl) fun I s (h:aB (tZ s) (fun p=>p.2.2.2.isEmpty&&T.isT I.names p.1&&az (fN ik I p.1 p.2.1) (rH it I)&&jS b I p.2.2.1)=true) K c γ st o hI F q=>by
 obtain ⟨p,⟨u,e1⟩,h⟩:=au h
 obtain ⟨h1,h2,h3,h4⟩:=iw h
 obtain ⟨es,e2,h3⟩:=aj h3
 rw [e1,dm h1]
 exact SX.for (bf:=wd b K) q (fun o e=>l7 e2 ((Right.all it).l I _ h3) F e) (F.full hI) (F.names▸h2) (fun γ s o e=>B.l I _ h4 K c γ s o hI F e) (folded (fR e2))
theorem RightS.raise {l:XE}:RightS (.raise l):=.stmt (fun _ _=>rfl) fun I s (h:aB (m7 s) (fun p=>p.2.isNone&&az p.1 fun e=>az (cJ I e fun x=>decide (fnTab.lookup x=some 41)) (rH l I))=true) K c γ st o hI F q=>by
 obtain ⟨p,⟨u,e1⟩,h⟩:=au h
 obtain ⟨h1,h⟩:=aQ h
 obtain ⟨v,e2,h⟩:=aj h
 obtain ⟨es,e3,g⟩:=aj h
 obtain ⟨hq,hm⟩:=qN q
 rw [e1,oH h1,e2]
 cases bD e3 with
 | mk x np pos hs hg ho=>exact SX.raise (F.n▸hm) (F.q hq) (F.glob hg (f9 (aM (dT ho)))) (fun o e=>((Right.all l).l I _ g).ok K c γ st _ o F e) (bE hs)
theorem RightS.tryx {H:Hdl} (B:RightS b):RightS (.tryx H b):=.stmt (fun _ _=>rfl) fun I s (h:aB (lI s) (fun p=>p.2.2.1.isEmpty&&p.2.2.2.isEmpty&&jS b I p.1&&az (oneOf p.2.1) fun h=>az (ju h).1.1 fun ty=>az (nameOf ty) fun bx=>az (ju h).1.2.1 fun x=>
  decide (I.kind x=some .local) && !I.names.contains x && !(x==("__debug__":Str))&&(I.glob bx.1&&decide (fnTab.lookup bx.1=some 41)&&H.isBody I.names x (ju h).1.2.2))=true) K c γ st o hI F q=>by
 obtain ⟨p,⟨u,e1⟩,h⟩:=au h
 obtain ⟨h1,h2,h3,h⟩:=iw h
 obtain ⟨hd,e2,h⟩:=aj h
 obtain ⟨ty,e3,h⟩:=aj h
 obtain ⟨bx,e4,h⟩:=aj h
 obtain ⟨x,e5,h⟩:=aj h
 obtain ⟨h4,h5,h6,h⟩:=iw h
 obtain ⟨h7,h8,h9⟩:=dt h
 obtain ⟨⟨y,e6⟩,he⟩:∃z,ju hd=z:=⟨_,rfl⟩
 rw [he] at e3 e5 h9
 obtain ⟨v,e6⟩:=e6
 replace e3:y.1=some ty:=e3
 replace e5:y.2.1=some x:=e5
 rw [e1,dm h1,dm h2,aR e2,e6,e3,e5,cU e4]
 exact SX.tryx q (fun o e=>B.l I _ h3 K c γ st o hI F e) (F.full hI) ((F.kind x).trans (dT h4)) (F.names▸fun m=>nomatch (j0 h5).symm.trans (List.contains_iff_mem.mpr m)) (j0 h6) (I.glob_at F h7).1 (I.glob_at F h7).2 (f9 (aM (dT h8))) (F.names▸h9)
theorem RightS.fin (B:RightS b) (G:RightS f):RightS (.fin b f):=.stmt (fun _ _=>rfl) fun I s (h:aB (lI s) (fun p=>p.2.1.isEmpty&&p.2.2.1.isEmpty && !p.2.2.2.isEmpty&&(jS b I p.1&&jS f I p.2.2.2))=true) K c γ st o hI F q=>by
 obtain ⟨p,⟨u,e1⟩,h⟩:=au h
 obtain ⟨h1,h2,h3,h⟩:=iw h
 obtain ⟨h4,h5⟩:=aQ h
 rw [e1,dm h1,dm h2]
 generalize p.2.2.2=fs at h3 h5
 cases fs with
 | nil=>exact aN h3
 | cons f₀ fs=>exact SX.fin (f:=wd f K) (g:=wd f { K with q:=false }) q (F.full hI) (fun o e=>B.l I _ h4 K c γ st o hI F e) (fun γ s o e=>G.l I _ h5 K c γ s o hI F e) fun e γ s o q=>G.l I _ h5 _ _ γ s o hI (F.mark e) q
theorem RightS.nil:RightS .nil:=⟨fun I s h=>(aN h),fun I l h K c γ st o hI F q=>by
 rw [dm h]
 exact Option.some.inj q▸SR.nil⟩
theorem RightS.cons (A:RightS a) (B:RightS b):RightS (.cons a b):=⟨fun I s h=>(aN h),fun I l (h:az (jq l) (fun p=>AJ a I p.1&&jS b I p.2)=true) K c γ st o hI F q=>by
 obtain ⟨p,e1,h⟩:=aj h
 exact kQ e1▸SR.cons (f:=wd b K) q (fun o e=>A.s I _ (aQ h).1 K c γ st o hI F e) fun γ s o e=>B.l I _ (aQ h).2 K c γ s o hI F e⟩
end
noncomputable def YS:Type:={ x:CodS // RightS x }
noncomputable abbrev YL:=YS
noncomputable def YS.r (x:YS):CodS:=x.val
theorem RightS.all (x:YS):RightS x.r:=x.property
noncomputable def YS.bad  : YS:=⟨.bad,.bad⟩
noncomputable def YS.ret (e:XE):YS:=⟨.ret e,.ret⟩
noncomputable def YS.expr (e:XE):YS:=⟨.expr e,.expr⟩
noncomputable def YS.asg (i:Nat) (e:XE):YS:=⟨.asg i e,.asg⟩
noncomputable def YS.asgc (i:Nat) (T:Tg) (ik:IK) (it:XE) (elt:XE) (tn:List Str) (fi:List Nat):YS:=⟨.asgc i T ik it elt tn fi,.asgc⟩
noncomputable def YS.unpack (is:List Nat) (rev:Bool) (e:XE):YS:=⟨.unpack is rev e,.unpack⟩
noncomputable def YS.aug (i:Nat) (op:Operator) (e:XE):YS:=⟨.aug i op e,.aug⟩
noncomputable def YS.setattr (C:Addr) (k:Nat) (ob:XE) (e:XE):YS:=⟨.setattr C k ob e,.setattr⟩
noncomputable def YS.augattr (C:Addr) (k:Nat) (op:Operator) (ob:XE) (e:XE):YS:=⟨.augattr C k op ob e,.augattr⟩
noncomputable def YS.setitem (ob:XE) (ix:XE) (e:XE):YS:=⟨.setitem ob ix e,.setitem⟩
noncomputable def YS.ite (t:XE) (a:YS) (b:YS):YS:=⟨.ite t a.r b.r,(RightS.all a).ite (.all b)⟩
noncomputable def YS.while (t:XE) (b:YS):YS:=⟨.while t b.r,(RightS.all b).while⟩
noncomputable def YS.for (T:Tg) (ik:IK) (it:XE) (b:YS):YS:=⟨.for T ik it b.r,(RightS.all b).for⟩
noncomputable def YS.raise (l:XE):YS:=⟨.raise l,.raise⟩
noncomputable def YS.tryx (H:Hdl) (b:YS):YS:=⟨.tryx H b.r,(RightS.all b).tryx⟩
noncomputable def YS.fin (b:YS) (f:YS):YS:=⟨.fin b.r f.r,(RightS.all b).fin (.all f)⟩
noncomputable def YS.nil  : YS:=⟨.nil,.nil⟩
noncomputable def YS.cons (s:YS) (l:YS):YS:=⟨.cons s.r l.r,(RightS.all s).cons (.all l)⟩
noncomputable def ex (s:YS) (K:cK) (γ:Lo) (st:ai):Option SOut:=s.r.s K γ st
noncomputable def bV (s:YL) (K:cK) (γ:Lo) (st:ai):Option SOut:=s.r.l K γ st
noncomputable def wa (s:YL) (I:Info) (l:List Stmt):Bool:=s.r.k I l
structure Entry where
 a:Addr
 params:List Str
 more:List Str
 self:Addr
 code:YL
noncomputable def AR:Entry:=⟨72,["value"],[],685,
 (.cons (.ite (.prim .isi (.cons (.loc 0) (.cons (.val (.ty "str")) .nil))) (.cons (.ret (.val (.str "text"))) .nil) .nil) (.cons (.ret (.ite (.prim .isi (.cons (.loc 0) (.cons (.val (.ty "tuple")) .nil))) (.val (.str "decimal")) (.val (.str "whole")))) .nil))⟩
noncomputable def AX:Entry:=⟨79,["name","kinds"],["last"],685,
 (.cons (.asg 2 (.idx (.loc 0) (.bin .Sub (.prim .len (.cons (.loc 0) .nil)) (.val (.int 1))))) (.cons (.ite (.cmp .Eq (.loc 2) (.val (.str "$"))) (.cons (.ret (.val (.str "text"))) .nil) .nil) (.cons (.ite (.cmp .Eq (.loc 2) (.val (.str "%"))) (.cons (.ret (.val (.str "whole"))) .nil) .nil) (.cons (.ret (.ite (.cmp .Eq (.loc 2) (.val (.str "!"))) (.val (.str "decimal")) (.meth .get (.loc 1) (.cons (.idx (.loc 0) (.val (.int 0))) (.cons (.val (.str "decimal")) .nil))))) .nil))))⟩
noncomputable def A0:Entry:=⟨86,["kind"],[],685,
 (.cons (.ite (.cmp .Eq (.loc 0) (.val (.str "text"))) (.cons (.ret (.val (.str ""))) .nil) .nil) (.cons (.ret (.ite (.cmp .Eq (.loc 0) (.val (.str "whole"))) (.val (.int 0)) (.tup (.cons (.val (.int 0)) (.cons (.val (.int 0)) .nil))))) .nil))⟩
noncomputable def AW:Entry:=⟨93,["number"],["many","bound"],685,
 (.cons (.unpack [1,2] false (.tup (.cons (.val (.int 1)) (.cons (.val (.int 10)) .nil)))) (.cons (.while (.cmp .LtE (.loc 2) (.loc 0)) (.cons (.aug 2 .Mult (.val (.int 10))) (.cons (.aug 1 .Add (.val (.int 1))) .nil))) (.cons (.ret (.loc 1)) .nil)))⟩
noncomputable def e100:Entry:=⟨100,["number","places"],["unit","found","rest"],685,
 (.cons (.ite (.cmp .LtE (.loc 1) (.val (.int 0))) (.cons (.ret (.loc 0)) .nil) .nil) (.cons (.ite (.cmp .Gt (.loc 1) (.bin .Add (.call 93 (.cons (.loc 0) .nil)) (.val (.int 1)))) (.cons (.ret (.val (.int 0))) .nil) .nil) (.cons (.asg 2 (.bin .Pow (.val (.int 10)) (.loc 1))) (.cons (.unpack [3,4] true (.tup (.cons (.bin .FloorDiv (.loc 0) (.loc 2)) (.cons (.bin .Mod (.loc 0) (.loc 2)) .nil)))) (.cons (.ite (.or (.cmp .Gt (.bin .Mult (.val (.int 2)) (.loc 4)) (.loc 2)) (.and (.cmp .Eq (.bin .Mult (.val (.int 2)) (.loc 4)) (.loc 2)) (.cmp .Eq (.bin .Mod (.loc 3) (.val (.int 2))) (.val (.int 1))))) (.cons (.aug 3 .Add (.val (.int 1))) .nil) .nil) (.cons (.ret (.loc 3)) .nil))))))⟩
noncomputable def yE:Entry:=⟨107,["coefficient","exponent","digits"],["size","more","first"],685,
 (.cons (.asg 3 (.prim .abs (.cons (.loc 0) .nil))) (.cons (.asg 4 (.bin .Sub (.call 93 (.cons (.loc 3) .nil)) (.loc 2))) (.cons (.ite (.cmp .Gt (.loc 4) (.val (.int 0))) (.cons (.unpack [3,1] true (.tup (.cons (.call 100 (.cons (.loc 3) (.cons (.loc 4) .nil))) (.cons (.bin .Add (.loc 1) (.loc 4)) .nil)))) .nil) .nil) (.cons (.ite (.cmp .Eq (.loc 3) (.val (.int 0))) (.cons (.ret (.tup (.cons (.val (.int 0)) (.cons (.val (.int 0)) .nil)))) .nil) .nil) (.cons (.while (.cmp .Eq (.bin .Mod (.loc 3) (.val (.int 10))) (.val (.int 0))) (.cons (.unpack [3,1] true (.tup (.cons (.bin .FloorDiv (.loc 3) (.val (.int 10))) (.cons (.bin .Add (.loc 1) (.val (.int 1))) .nil)))) .nil)) (.cons (.asg 5 (.bin .Sub (.bin .Add (.loc 1) (.call 93 (.cons (.loc 3) .nil))) (.val (.int 1)))) (.cons (.ite (.cmp .Gt (.loc 5) (.val (.int 99))) (.cons (.raise (.cons (.val (.str "OV")) .nil)) .nil) .nil) (.cons (.ite (.cmp .Lt (.loc 5) (.neg (.val (.int 99)))) (.cons (.ret (.tup (.cons (.val (.int 0)) (.cons (.val (.int 0)) .nil)))) .nil) .nil) (.cons (.ret (.tup (.cons (.ite (.cmp .Lt (.loc 0) (.val (.int 0))) (.neg (.loc 3)) (.loc 3)) (.cons (.loc 1) .nil)))) .nil)))))))))⟩
noncomputable def yA:Entry:=⟨114,["value"],["coefficient","exponent","size"],685,
 (.cons (.unpack [1,2] false (.loc 0)) (.cons (.ite (.cmp .GtE (.loc 2) (.val (.int 0))) (.cons (.ret (.bin .Mult (.loc 1) (.bin .Pow (.val (.int 10)) (.loc 2)))) .nil) .nil) (.cons (.asg 3 (.call 100 (.cons (.prim .abs (.cons (.loc 1) .nil)) (.cons (.neg (.loc 2)) .nil)))) (.cons (.ret (.ite (.cmp .Lt (.loc 1) (.val (.int 0))) (.neg (.loc 3)) (.loc 3))) .nil))))⟩
noncomputable def yj:Entry:=⟨121,["number","bits"],[],685,
 (.cons (.ret (.cmp2 .LtE .Lt (.neg (.bin .LShift (.val (.int 1)) (.bin .Sub (.loc 1) (.val (.int 1))))) (.loc 0) (.bin .LShift (.val (.int 1)) (.bin .Sub (.loc 1) (.val (.int 1)))))) .nil)⟩
noncomputable def yW:Entry:=⟨128,["value","bits"],["number"],685,
 (.cons (.ite (.prim .isi (.cons (.loc 0) (.cons (.val (.ty "str")) .nil))) (.cons (.raise (.cons (.val (.str "TM")) .nil)) .nil) .nil) (.cons (.asg 2 (.ite (.prim .isi (.cons (.loc 0) (.cons (.val (.ty "tuple")) .nil))) (.call 114 (.cons (.loc 0) .nil)) (.loc 0))) (.cons (.ite (.not (.call 121 (.cons (.loc 2) (.cons (.loc 1) .nil)))) (.cons (.raise (.cons (.val (.str "OV")) .nil)) .nil) .nil) (.cons (.ret (.loc 2)) .nil))))⟩
noncomputable def zR:Entry:=⟨135,["value","digits"],[],685,
 (.cons (.ite (.prim .isi (.cons (.loc 0) (.cons (.val (.ty "str")) .nil))) (.cons (.raise (.cons (.val (.str "TM")) .nil)) .nil) .nil) (.cons (.ret (.ite (.prim .isi (.cons (.loc 0) (.cons (.val (.ty "tuple")) .nil))) (.call 107 (.cons (.idx (.loc 0) (.val (.int 0))) (.cons (.idx (.loc 0) (.val (.int 1))) (.cons (.loc 1) .nil)))) (.call 107 (.cons (.loc 0) (.cons (.val (.int 0)) (.cons (.loc 1) .nil)))))) .nil))⟩
noncomputable def zn:Entry:=⟨142,["value"],[],685,
 (.cons (.ite (.not (.prim .isi (.cons (.loc 0) (.cons (.val (.ty "str")) .nil)))) (.cons (.raise (.cons (.val (.str "TM")) .nil)) .nil) .nil) (.cons (.ret (.loc 0)) .nil))⟩
noncomputable def zq:Entry:=⟨149,["text"],[],685,
 (.cons (.ite (.cmp .Gt (.prim .len (.cons (.loc 0) .nil)) (.val (.int 255))) (.cons (.raise (.cons (.val (.str "LS")) .nil)) .nil) .nil) (.cons (.ret (.loc 0)) .nil))⟩
noncomputable def zN:Entry:=⟨156,["value","kind","bits","digits"],[],685,
 (.cons (.ite (.cmp .Eq (.loc 1) (.val (.str "text"))) (.cons (.ret (.call 149 (.cons (.call 142 (.cons (.loc 0) .nil)) .nil))) .nil) .nil) (.cons (.ret (.ite (.cmp .Eq (.loc 1) (.val (.str "whole"))) (.call 128 (.cons (.loc 0) (.cons (.loc 2) .nil))) (.call 135 (.cons (.loc 0) (.cons (.loc 3) .nil))))) .nil))⟩
noncomputable def zJ:Entry:=⟨177,["self","most"],[],180,
 (.cons (.setattr 180 0 (.loc 0) (.lst .nil)) (.cons (.setattr 180 1 (.loc 0) (.loc 1)) (.cons (.setattr 180 2 (.loc 0) (.neg (.val (.int 1)))) .nil)))⟩
noncomputable def y9:Entry:=⟨198,["world","name"],["channel","at","many"],685,
 (.cons (.ite (.cmp .NotIn (.loc 1) (.attr 237 14 (.loc 0))) (.cons (.ret (.val .none)) .nil) .nil) (.cons (.unpack [2,3,4] false (.idx (.attr 237 14 (.loc 0)) (.loc 1))) (.cons (.ret .bad) .nil)))⟩
noncomputable def yg:Entry:=⟨205,["world","name"],[],685,
 (.cons (.ite (.cmp .In (.loc 1) (.attr 237 14 (.loc 0))) (.cons (.expr (.meth .take (.attr 237 14 (.loc 0)) (.cons (.loc 1) .nil))) .nil) .nil) .nil)⟩
noncomputable def ye:Entry:=⟨212,["world","names","depth"],["name"],685,
 (.cons (.for (.one 3) .one (.cons (.loc 1) .nil) (.cons (.ite (.cmp .In (.loc 3) (.attr 237 14 (.loc 0))) (.cons (.setitem (.attr 237 14 (.loc 0)) (.bin .Add (.strOf (.cons (.loc 2) .nil)) (.loc 3)) (.meth .take (.attr 237 14 (.loc 0)) (.cons (.loc 3) .nil))) .nil) .nil) .nil)) .nil)⟩
noncomputable def zy:Entry:=⟨219,["world","names","depth"],["name"],685,
 (.cons (.for (.one 3) .one (.cons (.loc 1) .nil) (.cons (.expr (.call 205 (.cons (.loc 0) (.cons (.loc 3) .nil)))) .nil)) (.cons (.for (.one 3) .one (.cons (.loc 1) .nil) (.cons (.ite (.cmp .In (.bin .Add (.strOf (.cons (.loc 2) .nil)) (.loc 3)) (.attr 237 14 (.loc 0))) (.cons (.setitem (.attr 237 14 (.loc 0)) (.loc 3) (.meth .take (.attr 237 14 (.loc 0)) (.cons (.bin .Add (.strOf (.cons (.loc 2) .nil)) (.loc 3)) .nil))) .nil) .nil) .nil)) .nil))⟩
noncomputable def e234:Entry:=⟨234,["self","bits","digits","most_steps","most_depth","room"],[],237,
 (.cons (.setattr 237 0 (.loc 0) (.loc 1)) (.cons (.setattr 237 1 (.loc 0) (.loc 2)) (.cons (.setattr 237 2 (.loc 0) (.loc 3)) (.cons (.setattr 237 3 (.loc 0) (.loc 4)) (.cons (.setattr 237 4 (.loc 0) (.loc 5)) (.cons (.setattr 237 5 (.loc 0) .dict0) (.cons (.setattr 237 6 (.loc 0) .dict0) (.cons (.setattr 237 7 (.loc 0) .dict0) (.cons (.setattr 237 8 (.loc 0) .dict0) (.cons (.setattr 237 9 (.loc 0) (.lst .nil)) (.cons (.setattr 237 10 (.loc 0) (.val (.str ""))) (.cons (.setattr 237 11 (.loc 0) (.lst .nil)) (.cons (.setattr 237 12 (.loc 0) .dict0) (.cons (.setattr 237 13 (.loc 0) .dict0) (.cons (.setattr 237 14 (.loc 0) .dict0) (.cons (.setattr 237 15 (.loc 0) (.lst .nil)) (.cons (.setattr 237 16 (.loc 0) (.val (.int 0))) (.cons (.setattr 237 17 (.loc 0) (.val (.int 0))) (.cons (.setattr 237 18 (.loc 0) (.val (.int 1))) (.cons (.setattr 237 19 (.loc 0) (.val (.int 0))) (.cons (.setattr 237 20 (.loc 0) (.val (.int 0))) (.cons (.setattr 237 21 (.loc 0) (.val (.int 0))) (.cons (.setattr 237 22 (.loc 0) (.val (.bool false))) (.cons (.setattr 237 23 (.loc 0) (.val (.int 0))) (.cons (.setattr 237 24 (.loc 0) (.val (.str ""))) (.cons (.setattr 237 25 (.loc 0) (.val (.bool false))) (.cons (.setattr 237 26 (.loc 0) (.lst .nil)) (.cons (.setattr 237 27 (.loc 0) (.lst .nil)) .nil))))))))))))))))))))))))))))⟩
noncomputable def yC:Entry:=⟨248,["world","name"],[],685,
 (.cons (.ret (.call 79 (.cons (.loc 1) (.cons (.attr 237 7 (.loc 0)) .nil)))) .nil)⟩
noncomputable def x9:Entry:=⟨255,["world","name"],[],685,
 (.cons (.ret (.ite (.cmp .In (.loc 1) (.attr 237 5 (.loc 0))) (.idx (.attr 237 5 (.loc 0)) (.loc 1)) (.call 86 (.cons (.call 248 (.cons (.loc 0) (.cons (.loc 1) .nil))) .nil)))) .nil)⟩
noncomputable def yR:Entry:=⟨262,["world","name","value"],[],685,
 (.cons (.setitem (.attr 237 5 (.loc 0)) (.loc 1) (.call 156 (.cons (.loc 2) (.cons (.call 248 (.cons (.loc 0) (.cons (.loc 1) .nil))) (.cons (.attr 237 0 (.loc 0)) (.cons (.attr 237 1 (.loc 0)) .nil)))))) .nil)⟩
noncomputable def x6:Entry:=⟨269,["world","word"],["told"],685,
 (.cons (.ite (.cmp .Eq (.loc 1) (.val (.str "ERR"))) (.cons (.ret .bad) .nil) .nil) (.cons (.ite (.cmp .Eq (.loc 1) (.val (.str "ERL"))) (.cons (.ret (.attr 237 23 (.loc 0))) .nil) .nil) (.cons (.asg 2 (.call 198 (.cons (.loc 0) (.cons (.loc 1) .nil)))) (.cons (.ret (.ite (.cmp .Is (.loc 2) (.val .none)) (.call 255 (.cons (.loc 0) (.cons (.loc 1) .nil))) (.loc 2))) .nil))))⟩
noncomputable def e274:Entry:=⟨274,["world","word","args","worth_of","rows_worth"],["params","tree","row","names","name","saved","value","told","found"],685,
 (.cons (.ite (.cmp .NotIn (.loc 1) (.attr 237 8 (.loc 0))) (.cons (.raise (.cons (.val (.str "UF")) (.cons (.loc 1) .nil))) .nil) .nil) (.cons (.unpack [5,6,7] false (.idx (.attr 237 8 (.loc 0)) (.loc 1))) (.cons (.ite (.cmp .NotEq (.prim .len (.cons (.loc 5) .nil)) (.prim .len (.cons (.loc 2) .nil))) (.cons (.raise (.cons (.val (.str "SN")) (.cons (.loc 1) .nil))) .nil) .nil) (.cons (.ite (.cmp .GtE (.attr 237 20 (.loc 0)) (.attr 237 3 (.loc 0))) (.cons (.raise (.cons (.val (.str "OM")) (.cons (.loc 1) .nil))) .nil) .nil) (.cons (.asg 8 (.bin .Add (.loc 5) (.lst (.cons (.loc 1) .nil)))) (.cons (.asgc 10 (.one 1) .one (.cons (.loc 8) .nil) (.tup (.cons (.loc 1) (.cons (.meth .get (.attr 237 5 (.loc 2)) (.cons (.loc 1) .nil)) .nil))) [".0","name"] [0]) (.cons (.asgc 12 (.many [1,2]) .zip (.cons (.loc 5) (.cons (.loc 2) .nil)) (.call 156 (.cons (.loc 2) (.cons (.call 248 (.cons (.loc 3) (.cons (.loc 1) .nil))) (.cons (.attr 237 0 (.loc 3)) (.cons (.attr 237 1 (.loc 3)) .nil))))) [".0","name","value"] [0]) (.cons (.expr (.call 212 (.cons (.loc 0) (.cons (.loc 8) (.cons (.attr 237 20 (.loc 0)) .nil))))) (.cons (.for (.many [9,11]) .zip (.cons (.loc 5) (.cons (.loc 12) .nil)) (.cons (.setitem (.attr 237 5 (.loc 0)) (.loc 9) (.loc 11)) .nil)) (.cons (.augattr 237 20 .Add (.loc 0) (.val (.int 1))) (.cons (.fin (.cons (.asg 13 (.ite (.cmp .Lt (.loc 7) (.val (.int 0))) (.vcall 3 (.cons (.loc 6) .nil)) (.vcall 4 (.cons (.loc 1) (.cons (.loc 7) .nil))))) .nil) (.cons (.augattr 237 20 .Sub (.loc 0) (.val (.int 1))) (.cons (.for (.many [9,11]) .one (.cons (.back (.loc 10)) .nil) (.cons (.expr (.meth .take (.attr 237 5 (.loc 0)) (.cons (.loc 9) (.cons (.val .none) .nil)))) (.cons (.ite (.cmp .IsNot (.loc 11) (.val .none)) (.cons (.setitem (.attr 237 5 (.loc 0)) (.loc 9) (.loc 11)) .nil) .nil) .nil))) (.cons (.expr (.call 219 (.cons (.loc 0) (.cons (.loc 8) (.cons (.attr 237 20 (.loc 0)) .nil))))) .nil)))) (.cons (.ret (.call 156 (.cons (.loc 13) (.cons (.call 248 (.cons (.loc 0) (.cons (.loc 1) .nil))) (.cons (.attr 237 0 (.loc 0)) (.cons (.attr 237 1 (.loc 0)) .nil)))))) .nil))))))))))))⟩
noncomputable def zE:Entry:=⟨282,["a"],[],685,
 (.cons (.ret (.tup (.cons (.bin .Sub (.val (.int 0)) (.idx (.loc 0) (.val (.int 0)))) (.cons (.idx (.loc 0) (.val (.int 1))) .nil)))) .nil)⟩
noncomputable def zi:Entry:=⟨289,["a","b"],["least"],685,
 (.cons (.asg 2 (.prim .min (.cons (.idx (.loc 0) (.val (.int 1))) (.cons (.idx (.loc 1) (.val (.int 1))) .nil)))) (.cons (.ret (.tup (.cons (.bin .Mult (.idx (.loc 0) (.val (.int 0))) (.bin .Pow (.val (.int 10)) (.bin .Sub (.idx (.loc 0) (.val (.int 1))) (.loc 2)))) (.cons (.bin .Mult (.idx (.loc 1) (.val (.int 0))) (.bin .Pow (.val (.int 10)) (.bin .Sub (.idx (.loc 1) (.val (.int 1))) (.loc 2)))) (.cons (.loc 2) .nil))))) .nil))⟩
noncomputable def y6:Entry:=⟨296,["a","b","digits"],["one","other","exponent"],685,
 (.cons (.unpack [3,4,5] false (.call 289 (.cons (.loc 0) (.cons (.loc 1) .nil)))) (.cons (.ret (.call 107 (.cons (.bin .Add (.loc 3) (.loc 4)) (.cons (.loc 5) (.cons (.loc 2) .nil))))) .nil))⟩
noncomputable def ym:Entry:=⟨303,["a","b","digits"],[],685,
 (.cons (.ret (.call 296 (.cons (.loc 0) (.cons (.call 282 (.cons (.loc 1) .nil)) (.cons (.loc 2) .nil))))) .nil)⟩
noncomputable def zL:Entry:=⟨310,["a","b","digits"],[],685,
 (.cons (.ret (.call 107 (.cons (.bin .Mult (.idx (.loc 0) (.val (.int 0))) (.idx (.loc 1) (.val (.int 0)))) (.cons (.bin .Add (.idx (.loc 0) (.val (.int 1))) (.idx (.loc 1) (.val (.int 1)))) (.cons (.loc 2) .nil))))) .nil)⟩
noncomputable def yo:Entry:=⟨317,["whole","rest","exponent"],[],685,
 (.cons (.ret (.ite (.cmp .Eq (.loc 1) (.val (.int 0))) (.tup (.cons (.loc 0) (.cons (.loc 2) .nil))) (.tup (.cons (.bin .Add (.bin .Mult (.loc 0) (.val (.int 10))) (.val (.int 1))) (.cons (.bin .Sub (.loc 2) (.val (.int 1))) .nil))))) .nil)⟩
noncomputable def yh:Entry:=⟨324,["a","b","digits"],["size","below","places","whole","exponent"],685,
 (.cons (.ite (.cmp .Eq (.idx (.loc 1) (.val (.int 0))) (.val (.int 0))) (.cons (.raise (.cons (.val (.str "DZ")) .nil)) .nil) .nil) (.cons (.unpack [3,4] true (.tup (.cons (.prim .abs (.cons (.idx (.loc 0) (.val (.int 0))) .nil)) (.cons (.prim .abs (.cons (.idx (.loc 1) (.val (.int 0))) .nil)) .nil)))) (.cons (.asg 5 (.bin .Add (.bin .Add (.loc 2) (.val (.int 2))) (.prim .max (.cons (.val (.int 0)) (.cons (.bin .Sub (.call 93 (.cons (.loc 4) .nil)) (.call 93 (.cons (.loc 3) .nil))) .nil))))) (.cons (.asg 3 (.bin .Mult (.loc 3) (.bin .Pow (.val (.int 10)) (.loc 5)))) (.cons (.unpack [6,7] false (.call 317 (.cons (.bin .FloorDiv (.loc 3) (.loc 4)) (.cons (.bin .Mod (.loc 3) (.loc 4)) (.cons (.bin .Sub (.bin .Sub (.idx (.loc 0) (.val (.int 1))) (.idx (.loc 1) (.val (.int 1)))) (.loc 5)) .nil))))) (.cons (.ret (.call 107 (.cons (.ite (.cmp .Eq (.cmp .Lt (.idx (.loc 0) (.val (.int 0))) (.val (.int 0))) (.cmp .Lt (.idx (.loc 1) (.val (.int 0))) (.val (.int 0)))) (.loc 6) (.bin .Sub (.val (.int 0)) (.loc 6))) (.cons (.loc 7) (.cons (.loc 2) .nil))))) .nil))))))⟩
noncomputable def yL:Entry:=⟨352,["value"],[],685,
 (.cons (.ite (.prim .isi (.cons (.loc 0) (.cons (.val (.ty "str")) .nil))) (.cons (.raise (.cons (.val (.str "TM")) .nil)) .nil) .nil) (.cons (.ret (.not (.prim .isi (.cons (.loc 0) (.cons (.val (.ty "tuple")) .nil))))) .nil))⟩
noncomputable def zv:Entry:=⟨359,["number","bits","digits"],[],685,
 (.cons (.ret (.ite (.call 121 (.cons (.loc 0) (.cons (.loc 1) .nil))) (.loc 0) (.call 107 (.cons (.loc 0) (.cons (.val (.int 0)) (.cons (.loc 2) .nil)))))) .nil)⟩
noncomputable def xX:Entry:=⟨366,["op","a","b","bits","digits"],[],685,
 (.cons (.ite (.cmp .Eq (.loc 0) (.val (.str "+"))) (.cons (.ret (.call 359 (.cons (.bin .Add (.loc 1) (.loc 2)) (.cons (.loc 3) (.cons (.loc 4) .nil))))) .nil) .nil) (.cons (.ret (.call 359 (.cons (.ite (.cmp .Eq (.loc 0) (.val (.str "-"))) (.bin .Sub (.loc 1) (.loc 2)) (.bin .Mult (.loc 1) (.loc 2))) (.cons (.loc 3) (.cons (.loc 4) .nil))))) .nil))⟩
noncomputable def yV:Entry:=⟨373,["a","b"],["found"],685,
 (.cons (.ite (.cmp .Eq (.loc 1) (.val (.int 0))) (.cons (.raise (.cons (.val (.str "DZ")) .nil)) .nil) .nil) (.cons (.asg 2 (.bin .FloorDiv (.prim .abs (.cons (.loc 0) .nil)) (.prim .abs (.cons (.loc 1) .nil)))) (.cons (.ret (.ite (.cmp .Eq (.cmp .Lt (.loc 0) (.val (.int 0))) (.cmp .Lt (.loc 1) (.val (.int 0)))) (.loc 2) (.bin .Sub (.val (.int 0)) (.loc 2)))) .nil)))⟩
noncomputable def AH:Entry:=⟨380,["a","b"],[],685,
 (.cons (.ret (.bin .Sub (.loc 0) (.bin .Mult (.loc 1) (.call 373 (.cons (.loc 0) (.cons (.loc 1) .nil)))))) .nil)⟩
noncomputable def zm:Entry:=⟨408,["op","a","b","bits","digits"],["is_first","is_second","work","one","other"],685,
 (.cons (.unpack [5,6] true (.tup (.cons (.call 352 (.cons (.loc 1) .nil)) (.cons (.call 352 (.cons (.loc 2) .nil)) .nil)))) (.cons (.ite (.cmp .Eq (.loc 0) (.val (.str "^"))) (.cons (.ret .bad) .nil) .nil) (.cons (.ite (.or (.cmp .Eq (.loc 0) (.val (.str "\\"))) (.cmp .Eq (.loc 0) (.val (.str "MOD")))) (.cons (.asg 7 (.ite (.cmp .Eq (.loc 0) (.val (.str "\\"))) (.val (.stat 373)) (.val (.stat 380)))) (.cons (.ret (.call 359 (.cons (.vcall 7 (.cons (.call 128 (.cons (.loc 1) (.cons (.loc 3) .nil))) (.cons (.call 128 (.cons (.loc 2) (.cons (.loc 3) .nil))) .nil))) (.cons (.loc 3) (.cons (.loc 4) .nil))))) .nil)) .nil) (.cons (.ite (.and (.cmp .NotEq (.loc 0) (.val (.str "/"))) (.and (.loc 5) (.loc 6))) (.cons (.ret (.call 366 (.cons (.loc 0) (.cons (.loc 1) (.cons (.loc 2) (.cons (.loc 3) (.cons (.loc 4) .nil))))))) .nil) .nil) (.cons (.unpack [8,9] true (.tup (.cons (.call 135 (.cons (.loc 1) (.cons (.loc 4) .nil))) (.cons (.call 135 (.cons (.loc 2) (.cons (.loc 4) .nil))) .nil)))) (.cons (.ite (.cmp .Eq (.loc 0) (.val (.str "+"))) (.cons (.ret (.call 296 (.cons (.loc 8) (.cons (.loc 9) (.cons (.loc 4) .nil))))) .nil) .nil) (.cons (.ite (.cmp .Eq (.loc 0) (.val (.str "-"))) (.cons (.ret (.call 303 (.cons (.loc 8) (.cons (.loc 9) (.cons (.loc 4) .nil))))) .nil) .nil) (.cons (.ret (.ite (.cmp .Eq (.loc 0) (.val (.str "*"))) (.call 310 (.cons (.loc 8) (.cons (.loc 9) (.cons (.loc 4) .nil)))) (.call 324 (.cons (.loc 8) (.cons (.loc 9) (.cons (.loc 4) .nil)))))) .nil))))))))⟩
noncomputable def zh:Entry:=⟨513,["tree"],[],685,
 (.cons (.ite (.cmp .In (.idx (.loc 0) (.val (.int 0))) (.tup (.cons (.val (.str "item")) (.cons (.val (.str "call")) (.cons (.val (.str "fn")) .nil))))) (.cons (.ret (.idx (.loc 0) (.val (.int 2)))) .nil) .nil) (.cons (.ite (.cmp .Eq (.idx (.loc 0) (.val (.int 0))) (.val (.str "two"))) (.cons (.ret (.lst (.cons (.idx (.loc 0) (.val (.int 2))) (.cons (.idx (.loc 0) (.val (.int 3))) .nil)))) .nil) .nil) (.cons (.ret (.ite (.cmp .In (.idx (.loc 0) (.val (.int 0))) (.tup (.cons (.val (.str "neg")) (.cons (.val (.str "not")) .nil)))) (.lst (.cons (.idx (.loc 0) (.val (.int 1))) .nil)) (.lst .nil))) .nil)))⟩
noncomputable def e536:Entry:=⟨536,["op","one","other"],[],685,
 (.cons (.ite (.cmp .In (.loc 0) (.val (.tup [(.str "="),(.str "<>"),(.str "<"),(.str ">"),(.str "<="),(.str ">=")]))) (.cons (.ret .bad) .nil) .nil) (.cons (.ite (.cmp .NotEq (.loc 0) (.val (.str "+"))) (.cons (.raise (.cons (.val (.str "TM")) (.cons (.loc 0) .nil))) .nil) .nil) (.cons (.ret (.call 149 (.cons (.bin .Add (.loc 1) (.loc 2)) .nil))) .nil)))⟩
noncomputable def e541:Entry:=⟨541,["op","one","other","bits","digits"],["are_texts"],685,
 (.cons (.asgc 5 (.one 1) .one (.cons (.tup (.cons (.loc 1) (.cons (.loc 2) .nil))) .nil) (.cmp .Eq (.call 72 (.cons (.loc 1) .nil)) (.val (.str "text"))) [".0","value"] []) (.cons (.ite (.cmp .NotEq (.idx (.loc 5) (.val (.int 0))) (.idx (.loc 5) (.val (.int 1)))) (.cons (.raise (.cons (.val (.str "TM")) (.cons (.loc 0) .nil))) .nil) .nil) (.cons (.ite (.idx (.loc 5) (.val (.int 0))) (.cons (.ret (.call 536 (.cons (.loc 0) (.cons (.loc 1) (.cons (.loc 2) .nil))))) .nil) .nil) (.cons (.ite (.cmp .In (.loc 0) (.val (.tup [(.str "="),(.str "<>"),(.str "<"),(.str ">"),(.str "<="),(.str ">=")]))) (.cons (.ret .bad) .nil) .nil) (.cons (.ite (.cmp .In (.loc 0) (.val (.tup [(.str "AND"),(.str "OR"),(.str "XOR"),(.str "EQV"),(.str "IMP")]))) (.cons (.ret .bad) .nil) .nil) (.cons (.ret (.call 408 (.cons (.loc 0) (.cons (.loc 1) (.cons (.loc 2) (.cons (.loc 3) (.cons (.loc 4) .nil))))))) .nil))))))⟩
noncomputable def zt:Entry:=⟨555,["tree","bits","digits"],["kind","value"],685,
 (.cons (.unpack [3,4] false (.loc 0)) (.cons (.ite (.cmp .Eq (.loc 3) (.val (.str "text"))) (.cons (.ret (.loc 4)) .nil) .nil) (.cons (.ret (.ite (.and (.cmp .Eq (.loc 3) (.val (.str "whole"))) (.call 121 (.cons (.loc 4) (.cons (.loc 1) .nil)))) (.loc 4) (.call 135 (.cons (.loc 4) (.cons (.loc 2) .nil))))) .nil)))⟩
noncomputable def rT:Entry:=⟨562,["tree","parts","hooks"],["kind"],685,
 (.cons (.asg 3 (.idx (.loc 0) (.val (.int 0)))) (.cons (.ite (.cmp .Eq (.loc 3) (.val (.str "two"))) (.cons (.ret (.call 541 (.cons (.idx (.loc 0) (.val (.int 1))) (.cons (.idx (.loc 1) (.val (.int 0))) (.cons (.idx (.loc 1) (.val (.int 1))) (.cons (.attr 685 3 (.loc 2)) (.cons (.attr 685 4 (.loc 2)) .nil))))))) .nil) .nil) (.cons (.ite (.or (.cmp .Eq (.loc 3) (.val (.str "neg"))) (.cmp .Eq (.loc 3) (.val (.str "not")))) (.cons (.ret .bad) .nil) .nil) (.cons (.ite (.cmp .Eq (.loc 3) (.val (.str "name"))) (.cons (.ret (.mcall 607 685 (.loc 2) (.cons (.idx (.loc 0) (.val (.int 1))) .nil))) .nil) .nil) (.cons (.ite (.cmp .Eq (.loc 3) (.val (.str "item"))) (.cons (.ret .bad) .nil) .nil) (.cons (.ite (.cmp .Eq (.loc 3) (.val (.str "call"))) (.cons (.ret .bad) .nil) .nil) (.cons (.ret (.ite (.cmp .Eq (.loc 3) (.val (.str "fn"))) (.mcall 626 685 (.loc 2) (.cons (.idx (.loc 0) (.val (.int 1))) (.cons (.loc 1) .nil))) (.call 555 (.cons (.loc 0) (.cons (.attr 685 3 (.loc 2)) (.cons (.attr 685 4 (.loc 2)) .nil)))))) .nil)))))))⟩
noncomputable def yB:Entry:=⟨567,["tree","hooks"],["waiting","values","here","is_ready","parts","begin","found"],685,
 (.cons (.unpack [2,3] true (.tup (.cons (.new (.cons (.tup (.cons (.loc 0) (.cons (.val (.bool false)) .nil))) .nil)) (.cons (.lst .nil) .nil)))) (.cons (.while (.cmp .Gt (.prim .len (.cons (.loc 2) .nil)) (.val (.int 0))) (.cons (.unpack [4,5] false (.meth .pop (.loc 2) .nil)) (.cons (.asg 6 (.call 513 (.cons (.loc 4) .nil))) (.cons (.ite (.or (.loc 5) (.cmp .Eq (.prim .len (.cons (.loc 6) .nil)) (.val (.int 0)))) (.cons (.asg 7 (.bin .Sub (.prim .len (.cons (.loc 3) .nil)) (.prim .len (.cons (.loc 6) .nil)))) (.cons (.asg 8 (.call 562 (.cons (.loc 4) (.cons (.drop (.loc 3) (.loc 7)) (.cons (.loc 1) .nil))))) (.cons (.asg 3 (.bin .Add (.take (.loc 3) (.loc 7)) (.lst (.cons (.loc 8) .nil)))) .nil))) (.cons (.expr (.meth .append (.loc 2) (.cons (.tup (.cons (.loc 4) (.cons (.val (.bool true)) .nil))) .nil))) (.cons (.expr (.meth .extend (.loc 2) (.cons (.comp (.one 1) .rev (.cons (.loc 6) .nil) (.tup (.cons (.loc 1) (.cons (.val (.bool false)) .nil))) [".0","part"] []) .nil))) .nil))) .nil)))) (.cons (.ret (.idx (.loc 3) (.val (.int 0)))) .nil)))⟩
noncomputable def yQ:Entry:=⟨572,["trees","hooks"],[],685,
 (.cons (.ret (.comp (.one 1) .one (.cons (.loc 0) .nil) (.call 567 (.cons (.loc 1) (.cons (.loc 2) .nil))) [".0","tree"] [1])) .nil)⟩
noncomputable def zx:Entry:=⟨586,["self","world","flat","answers"],[],685,
 (.cons (.setattr 685 0 (.loc 0) (.loc 1)) (.cons (.setattr 685 1 (.loc 0) (.loc 2)) (.cons (.setattr 685 2 (.loc 0) (.loc 3)) (.cons (.setattr 685 3 (.loc 0) (.attr 237 0 (.loc 1))) (.cons (.setattr 685 4 (.loc 0) (.attr 237 1 (.loc 1))) (.cons (.setattr 685 5 (.loc 0) (.inst 180 177 (.cons (.val (.int 20)) .nil))) (.cons (.setattr 685 6 (.loc 0) (.new .nil)) .nil)))))))⟩
noncomputable def yX:Entry:=⟨593,["self","tree"],[],685,
 (.cons (.ret (.call 567 (.cons (.loc 1) (.cons (.loc 0) .nil)))) .nil)⟩
noncomputable def zd:Entry:=⟨607,["self","word"],[],685,
 (.cons (.expr (.meth .append (.attr 685 6 (.loc 0)) (.cons (.loc 1) .nil))) (.cons (.ret (.call 269 (.cons (.attr 685 0 (.loc 0)) (.cons (.loc 1) .nil)))) .nil))⟩
noncomputable def yY:Entry:=⟨626,["self","word","args"],[],685,
 (.cons (.ite (.cmp .In (.loc 1) (.attr 237 8 (.attr 685 0 (.loc 0)))) (.cons (.ret (.call 274 (.cons (.attr 685 0 (.loc 0)) (.cons (.loc 1) (.cons (.loc 2) (.cons (.bound 593 685 (.loc 0)) (.cons (.bound 633 685 (.loc 0)) .nil))))))) .nil) .nil) (.cons (.ret .bad) .nil))⟩
noncomputable def yI:Entry:=⟨696,["pot","many"],["_law_usual","place"],685,
 (.cons (.asg 2 (.lst (.cons (.val (.int 15)) (.cons (.val (.int 207)) (.cons (.val (.int 50)) (.cons (.val (.int 3)) (.cons (.val (.int 0)) (.cons (.val (.int 2)) (.cons (.val (.int 2)) (.cons (.val (.int 0)) (.cons (.val (.int 2)) (.cons (.val (.int 0)) (.cons (.val (.int 1)) (.cons (.val (.int 1)) (.cons (.val (.int 0)) (.cons (.val (.int 0)) (.cons (.val (.int 2)) (.cons (.val (.int 2)) (.cons (.val (.int 1)) (.cons (.val (.int 0)) (.cons (.val (.int 3)) (.cons (.val (.int 24)) (.cons (.val (.int 3)) (.cons (.val (.int 4)) (.cons (.val (.int 40)) (.cons (.val (.int 1)) (.cons (.val (.int 0)) (.cons (.val (.int 2)) (.cons (.val (.int 1)) (.cons (.val (.int 1)) .nil)))))))))))))))))))))))))))))) (.cons (.asg 3 (.idx (.loc 0) (.val (.int 1)))) (.cons (.setitem (.loc 0) (.val (.int 1)) (.bin .Add (.loc 3) (.val (.int 1)))) (.cons (.ret (.bin .Mod (.ite (.cmp .Lt (.loc 3) (.prim .len (.cons (.idx (.loc 0) (.val (.int 0))) .nil))) (.idx (.idx (.loc 0) (.val (.int 0))) (.loc 3)) (.idx (.loc 2) (.bin .Mod (.loc 3) (.prim .len (.cons (.loc 2) .nil))))) (.loc 1))) .nil))))⟩
noncomputable def qa:Entry:=⟨703,["pot"],["_law_names","which"],685,
 (.cons (.asg 1 (.lst (.cons (.val (.str "X")) (.cons (.val (.str "Y%")) (.cons (.val (.str "Z")) .nil))))) (.cons (.asg 2 (.call 696 (.cons (.loc 0) (.cons (.val (.int 5)) .nil)))) (.cons (.ite (.cmp .Lt (.loc 2) (.val (.int 3))) (.cons (.ret (.tup (.cons (.val (.str "name")) (.cons (.idx (.loc 1) (.loc 2)) .nil)))) .nil) .nil) (.cons (.ret (.ite (.cmp .Eq (.loc 2) (.val (.int 3))) (.tup (.cons (.val (.str "whole")) (.cons (.call 696 (.cons (.loc 0) (.cons (.val (.int 300)) .nil))) .nil))) (.tup (.cons (.val (.str "decimal")) (.cons (.tup (.cons (.call 696 (.cons (.loc 0) (.cons (.val (.int 90)) .nil))) (.cons (.bin .Sub (.val (.int 0)) (.val (.int 1))) .nil))) .nil))))) .nil))))⟩
noncomputable def yP:Entry:=⟨710,["pot","first"],["_law_signs","sign"],685,
 (.cons (.asg 2 (.lst (.cons (.val (.str "+")) (.cons (.val (.str "-")) (.cons (.val (.str "*")) (.cons (.val (.str "/")) .nil)))))) (.cons (.asg 3 (.idx (.loc 2) (.call 696 (.cons (.loc 0) (.cons (.val (.int 4)) .nil))))) (.cons (.ret (.tup (.cons (.val (.str "two")) (.cons (.loc 3) (.cons (.loc 1) (.cons (.call 703 (.cons (.loc 0) .nil)) .nil)))))) .nil)))⟩
noncomputable def ut:Entry:=⟨715,["pot","own"],["which","first"],685,
 (.cons (.asg 2 (.call 696 (.cons (.loc 0) (.cons (.val (.int 3)) .nil)))) (.cons (.ite (.and (.cmp .Eq (.loc 2) (.val (.int 2))) (.cmp .Gt (.loc 1) (.val (.int 0)))) (.cons (.ret (.tup (.cons (.val (.str "fn")) (.cons (.val (.str "FNA")) (.cons (.comp (.one 1) .range (.cons (.loc 1) .nil) (.call 703 (.cons (.loc 2) .nil)) [".0","turn"] [0]) .nil))))) .nil) .nil) (.cons (.asg 3 (.call 703 (.cons (.loc 0) .nil))) (.cons (.ret (.ite (.cmp .Eq (.loc 2) (.val (.int 0))) (.call 710 (.cons (.loc 0) (.cons (.loc 3) .nil))) (.loc 3))) .nil))))⟩
noncomputable def yF:Entry:=⟨722,["word","tree"],[],685,
 (.cons (.ite (.cmp .Eq (.idx (.loc 0) (.neg (.val (.int 1)))) (.val (.str "$"))) (.cons (.ret (.tup (.cons (.val (.str "two")) (.cons (.val (.str "+")) (.cons (.loc 1) (.cons (.tup (.cons (.val (.str "text")) (.cons (.val (.str "")) .nil))) .nil)))))) .nil) .nil) (.cons (.ret (.ite (.cmp .Eq (.idx (.loc 0) (.neg (.val (.int 1)))) (.val (.str "%"))) (.tup (.cons (.val (.str "two")) (.cons (.val (.str "\\")) (.cons (.loc 1) (.cons (.tup (.cons (.val (.str "whole")) (.cons (.val (.int 1)) .nil))) .nil))))) (.tup (.cons (.val (.str "two")) (.cons (.val (.str "+")) (.cons (.loc 1) (.cons (.tup (.cons (.val (.str "decimal")) (.cons (.tup (.cons (.val (.int 0)) (.cons (.val (.int 0)) .nil))) .nil))) .nil))))))) .nil))⟩
noncomputable def t9:Entry:=⟨727,["tree","given"],[],685,
 (.cons (.ite (.cmp .Eq (.idx (.loc 0) (.val (.int 0))) (.val (.str "two"))) (.cons (.ret (.tup (.cons (.val (.str "two")) (.cons (.idx (.loc 0) (.val (.int 1))) (.cons (.call 727 (.cons (.idx (.loc 0) (.val (.int 2))) (.cons (.loc 1) .nil))) (.cons (.call 727 (.cons (.idx (.loc 0) (.val (.int 3))) (.cons (.loc 1) .nil))) .nil)))))) .nil) .nil) (.cons (.ite (.cmp .Eq (.idx (.loc 0) (.val (.int 0))) (.val (.str "fn"))) (.cons (.ret (.tup (.cons (.val (.str "fn")) (.cons (.idx (.loc 0) (.val (.int 1))) (.cons (.comp (.one 1) .one (.cons (.idx (.loc 0) (.val (.int 2))) .nil) (.call 727 (.cons (.loc 1) (.cons (.loc 2) .nil))) [".0","part"] [1]) .nil))))) .nil) .nil) (.cons (.ret (.ite (.cmp .Eq (.idx (.loc 0) (.val (.int 0))) (.val (.str "name"))) (.meth .get (.loc 1) (.cons (.idx (.loc 0) (.val (.int 1))) (.cons (.loc 0) .nil))) (.loc 0))) .nil)))⟩
noncomputable def tu:Entry:=⟨734,["tree","name"],[],685,
 (.cons (.ite (.cmp .Eq (.idx (.loc 0) (.val (.int 0))) (.val (.str "two"))) (.cons (.ret (.or (.call 734 (.cons (.idx (.loc 0) (.val (.int 2))) (.cons (.loc 1) .nil))) (.call 734 (.cons (.idx (.loc 0) (.val (.int 3))) (.cons (.loc 1) .nil))))) .nil) .nil) (.cons (.ret (.cmp .Eq (.loc 0) (.tup (.cons (.val (.str "name")) (.cons (.loc 1) .nil))))) .nil))⟩
noncomputable def sQ:Entry:=⟨741,["tree","fns","idle"],["params","body","row","whole","given","name","part"],685,
 (.cons (.ite (.cmp .Eq (.idx (.loc 0) (.val (.int 0))) (.val (.str "two"))) (.cons (.ret (.tup (.cons (.val (.str "two")) (.cons (.idx (.loc 0) (.val (.int 1))) (.cons (.call 741 (.cons (.idx (.loc 0) (.val (.int 2))) (.cons (.loc 1) (.cons (.loc 2) .nil)))) (.cons (.call 741 (.cons (.idx (.loc 0) (.val (.int 3))) (.cons (.loc 1) (.cons (.loc 2) .nil)))) .nil)))))) .nil) .nil) (.cons (.ite (.cmp .NotEq (.idx (.loc 0) (.val (.int 0))) (.val (.str "fn"))) (.cons (.ret (.loc 0)) .nil) .nil) (.cons (.unpack [3,4,5] false (.idx (.loc 1) (.idx (.loc 0) (.val (.int 1))))) (.cons (.unpack [6,7] true (.tup (.cons (.call 741 (.cons (.loc 4) (.cons (.loc 1) (.cons (.loc 2) .nil)))) (.cons .dict0 .nil)))) (.cons (.for (.many [8,9]) .zip (.cons (.loc 3) (.cons (.idx (.loc 0) (.val (.int 2))) .nil)) (.cons (.setitem (.loc 7) (.loc 8) (.call 722 (.cons (.loc 8) (.cons (.call 741 (.cons (.loc 9) (.cons (.loc 1) (.cons (.loc 2) .nil)))) .nil)))) (.cons (.ite (.not (.call 734 (.cons (.loc 6) (.cons (.loc 8) .nil)))) (.cons (.expr (.meth .append (.loc 2) (.cons (.loc 8) .nil))) .nil) .nil) .nil))) (.cons (.ret (.call 722 (.cons (.idx (.loc 0) (.val (.int 1))) (.cons (.call 727 (.cons (.loc 6) (.cons (.loc 7) .nil))) .nil)))) .nil))))))⟩
noncomputable def vD:Entry:=⟨748,["world","call"],["run","values"],685,
 (.cons (.asg 2 (.inst 685 586 (.cons (.loc 0) (.cons (.val .none) (.cons .dict0 .nil))))) (.cons (.tryx .ret (.cons (.asg 3 (.call 572 (.cons (.idx (.loc 1) (.val (.int 2))) (.cons (.loc 2) .nil)))) (.cons (.ret (.tup (.cons (.val (.bool true)) (.cons (.call 274 (.cons (.loc 0) (.cons (.idx (.loc 1) (.val (.int 1))) (.cons (.loc 3) (.cons (.bound 593 685 (.loc 2)) (.cons (.bound 633 685 (.loc 2)) .nil)))))) .nil)))) .nil))) .nil))⟩
noncomputable def e755:Entry:=⟨755,["world","call"],["before","idle","tree","is_told","value","found"],685,
 (.cons (.unpack [2,3] true (.tup (.cons (.dcopy (.cons (.attr 237 5 (.loc 0)) .nil)) (.cons (.new .nil) .nil)))) (.cons (.asg 4 (.call 741 (.cons (.loc 1) (.cons (.attr 237 8 (.loc 0)) (.cons (.loc 3) .nil))))) (.cons (.unpack [5,6] false (.call 748 (.cons (.loc 0) (.cons (.loc 1) .nil)))) (.cons (.tryx (.set 7) (.cons (.asg 7 (.tup (.cons (.val (.bool true)) (.cons (.call 567 (.cons (.loc 4) (.cons (.inst 685 586 (.cons (.loc 0) (.cons (.val .none) (.cons .dict0 .nil)))) .nil))) .nil)))) .nil)) (.cons (.ite (.or (.cmp .NotEq (.attr 237 5 (.loc 0)) (.loc 2)) (.and (.loc 5) (.cmp .NotEq (.loc 7) (.tup (.cons (.val (.bool true)) (.cons (.loc 6) .nil)))))) (.cons (.ret (.val (.bool false))) .nil) .nil) (.cons (.ret (.or (.loc 5) (.or (.not (.idx (.loc 7) (.val (.int 0)))) (.cmp .NotEq (.loc 3) (.new .nil))))) .nil))))))⟩
noncomputable def xQ:Entry:=⟨760,["world","call","word","which"],["params","body","row","old","new","inner","tree","begin","due","before","found"],685,
 (.cons (.unpack [4,5,6] false (.idx (.attr 237 8 (.loc 0)) (.loc 2))) (.cons (.asg 7 (.idx (.loc 4) (.bin .Mod (.loc 3) (.prim .len (.cons (.loc 4) .nil))))) (.cons (.asg 8 (.bin .Add (.val (.str "Q")) (.ite (.cmp .Eq (.idx (.loc 7) (.neg (.val (.int 1)))) (.val (.str "%"))) (.val (.str "%")) (.val (.str ""))))) (.cons (.unpack [9,10,11] true (.tup (.cons (.idx (.idx (.attr 237 8 (.loc 0)) (.val (.str "FNA"))) (.val (.int 0))) (.cons (.idx (.idx (.attr 237 8 (.loc 0)) (.val (.str "FNA"))) (.val (.int 1))) (.cons (.idx (.attr 237 8 (.loc 0)) (.loc 2)) .nil))))) (.cons (.ite (.and (.cmp .Eq (.loc 2) (.val (.str "FNB%"))) (.and (.cmp .NotIn (.loc 7) (.loc 9)) (.call 734 (.cons (.loc 10) (.cons (.loc 7) .nil))))) (.cons (.ret (.val (.bool true))) .nil) .nil) (.cons (.unpack [12,13] true (.tup (.cons (.call 748 (.cons (.loc 0) (.cons (.loc 1) .nil))) (.cons (.dcopy (.cons (.attr 237 5 (.loc 0)) .nil)) .nil)))) (.cons (.setitem (.attr 237 8 (.loc 0)) (.loc 2) (.tup (.cons (.comp (.one 1) .one (.cons (.loc 4) .nil) (.ite (.cmp .Eq (.loc 1) (.loc 2)) (.loc 3) (.loc 1)) [".0","name"] [7,8]) (.cons (.call 727 (.cons (.loc 5) (.cons (.dict1 (.loc 7) (.tup (.cons (.val (.str "name")) (.cons (.loc 8) .nil)))) .nil))) (.cons (.loc 6) .nil))))) (.cons (.asg 14 (.call 748 (.cons (.loc 0) (.cons (.loc 1) .nil)))) (.cons (.setitem (.attr 237 8 (.loc 0)) (.loc 2) (.loc 11)) (.cons (.ret (.and (.cmp .Eq (.loc 14) (.loc 12)) (.cmp .Eq (.attr 237 5 (.loc 0)) (.loc 13)))) .nil))))))))))⟩
noncomputable def sE:YL:=(.cons (.ite (.or (.not (.call 755 (.cons (.loc 2) (.cons (.loc 6) .nil)))) (.not (.call 755 (.cons (.loc 2) (.cons (.loc 9) .nil))))) (.cons (.ret (.val (.bool false))) .nil) .nil) (.cons (.ret (.call 760 (.cons (.loc 2) (.cons (.loc 6) (.cons (.idx (.lst (.cons (.val (.str "FNA")) (.cons (.val (.str "FNB%")) .nil))) (.call 696 (.cons (.loc 1) (.cons (.val (.int 2)) .nil)))) (.cons (.call 696 (.cons (.loc 1) (.cons (.val (.int 2)) .nil))) .nil)))))) .nil))
noncomputable def rf:YL:=(.cons (.asg 3 (.idx (.lst (.cons (.lst (.cons (.val (.str "X")) .nil)) (.cons (.lst (.cons (.val (.str "Y%")) .nil)) (.cons (.lst (.cons (.val (.str "X")) (.cons (.val (.str "Y%")) .nil))) .nil)))) (.call 696 (.cons (.loc 1) (.cons (.val (.int 3)) .nil))))) (.cons (.setitem (.attr 237 8 (.loc 2)) (.val (.str "FNA")) (.tup (.cons (.loc 3) (.cons (.call 710 (.cons (.loc 1) (.cons (.call 703 (.cons (.loc 1) .nil)) .nil))) (.cons (.bin .Sub (.val (.int 0)) (.val (.int 1))) .nil))))) (.cons (.asg 4 (.idx (.lst (.cons (.lst (.cons (.val (.str "Y%")) .nil)) (.cons (.lst (.cons (.val (.str "Z")) .nil)) (.cons (.lst (.cons (.val (.str "Z")) (.cons (.val (.str "X")) .nil))) .nil)))) (.call 696 (.cons (.loc 1) (.cons (.val (.int 3)) .nil))))) (.cons (.asg 5 (.tup (.cons (.val (.str "fn")) (.cons (.val (.str "FNA")) (.cons (.comp (.one 1) .one (.cons (.loc 3) .nil) (.call 715 (.cons (.loc 2) (.cons (.val (.int 0)) .nil))) [".0","name"] [1]) .nil))))) (.cons (.setitem (.attr 237 8 (.loc 2)) (.val (.str "FNB%")) (.tup (.cons (.loc 4) (.cons (.call 710 (.cons (.loc 1) (.cons (.loc 5) .nil))) (.cons (.bin .Sub (.val (.int 0)) (.val (.int 1))) .nil))))) (.cons (.asg 6 (.tup (.cons (.val (.str "fn")) (.cons (.val (.str "FNB%")) (.cons (.comp (.one 1) .one (.cons (.loc 4) .nil) (.call 715 (.cons (.loc 2) (.cons (.prim .len (.cons (.loc 3) .nil)) .nil))) [".0","name"] [1,3]) .nil))))) (.cons (.unpack [7,8] false (.tup (.cons (.tup (.cons (.val (.str "name")) (.cons (.val (.str "T$")) .nil))) (.cons (.tup (.cons (.val (.str "name")) (.cons (.val (.str "U$")) .nil))) .nil)))) (.cons (.setitem (.attr 237 8 (.loc 2)) (.val (.str "FNT$")) (.tup (.cons (.lst (.cons (.val (.str "T$")) .nil)) (.cons (.tup (.cons (.val (.str "two")) (.cons (.val (.str "+")) (.cons (.idx (.lst (.cons (.loc 7) (.cons (.loc 8) (.cons (.tup (.cons (.val (.str "text")) (.cons (.val (.str "x")) .nil))) (.cons (.tup (.cons (.val (.str "whole")) (.cons (.val (.int 1)) .nil))) .nil))))) (.call 696 (.cons (.loc 1) (.cons (.val (.int 4)) .nil)))) (.cons (.idx (.lst (.cons (.loc 7) (.cons (.loc 8) .nil))) (.call 696 (.cons (.loc 1) (.cons (.val (.int 2)) .nil)))) .nil))))) (.cons (.bin .Sub (.val (.int 0)) (.val (.int 1))) .nil))))) (.cons (.asg 9 (.tup (.cons (.val (.str "fn")) (.cons (.val (.str "FNT$")) (.cons (.lst (.cons (.tup (.cons (.val (.str "two")) (.cons (.val (.str "+")) (.cons (.loc 8) (.cons (.tup (.cons (.val (.str "text")) (.cons (.bin .Mult (.val (.str "c")) (.call 696 (.cons (.loc 1) (.cons (.val (.int 100)) .nil)))) .nil))) .nil))))) .nil)) .nil))))) sE)))))))))
noncomputable def e765:Entry:=⟨765,["script"],["pot","world","params","others","inner","call","own","outer","told"],685,
 (.cons (.unpack [1,2] false (.tup (.cons (.new (.cons (.take (.loc 0) (.val (.int 40))) (.cons (.val (.int 0)) .nil))) (.cons (.inst 237 234 (.cons (.val (.int 16)) (.cons (.val (.int 6)) .nil))) .nil)))) (.cons (.expr (.call 262 (.cons (.loc 2) (.cons (.val (.str "X")) (.cons (.tup (.cons (.bin .Sub (.call 696 (.cons (.loc 1) (.cons (.val (.int 200)) .nil))) (.val (.int 100))) (.cons (.bin .Sub (.val (.int 0)) (.val (.int 1))) .nil))) .nil))))) (.cons (.expr (.call 262 (.cons (.loc 2) (.cons (.val (.str "Y%")) (.cons (.bin .Sub (.call 696 (.cons (.loc 1) (.cons (.val (.int 400)) .nil))) (.val (.int 200))) .nil))))) (.cons (.expr (.call 262 (.cons (.loc 2) (.cons (.val (.str "Z")) (.cons (.tup (.cons (.call 696 (.cons (.loc 1) (.cons (.val (.int 100)) .nil))) (.cons (.bin .Sub (.val (.int 0)) (.val (.int 2))) .nil))) .nil))))) (.cons (.expr (.call 262 (.cons (.loc 2) (.cons (.val (.str "U$")) (.cons (.bin .Mult (.val (.str "ab")) (.call 696 (.cons (.loc 1) (.cons (.val (.int 70)) .nil)))) .nil))))) rf)))))⟩
noncomputable def progTab:List Entry:=[AR,AX,A0,AW,e100,yE,yA,yj,yW,zR,zn,zq,zN,zJ,y9,yg,ye,zy,yC,x9,yR,x6,e274,zE,zi,y6,ym,zL,yo,yh,yL,zv,xX,yV,AH,zm,zh,e536,e541,zt,rT,yB,yQ,zx,yX,zd,yY,yI,qa,yP,ut,yF,t9,tu,sQ,vD,e755,xQ,e765]
noncomputable def sR (kind:Str->Option NameKind) (names:List Str):Info:=⟨names,kind,true⟩
noncomputable def sW (fd:FuncData) (E:Entry):Bool:=wa E.code (sR (fun x=>fd.scope.names.lookup x) (E.params++E.more)) (bodyOf fd)
theorem wq (w:World):progTab.all (fun E=>az (rF (MH w) E.a) fun fd=>xk (MH w) fd E.params E.more&&sW fd E)=true:=by kernel_rfl
noncomputable def gZ (v:Value):Option Int:=match v with
 | .int i _=>some i
 | _=>none
theorem q7 {v:Value} {i:Int} (h:gZ v=some i):∃t,v=.int i t:=by
 cases v with
 | int j t=>exact ⟨t,Option.some.inj h▸rfl⟩
 | _=>exact aP h
noncomputable def rE (H:Heap) (fd:FuncData):Bool:=match fd.defaults with
 | .ref T=>az (H.get? T) fun o=>match o.data with
  | .seq vs _=>decide (vs.toList.map gZ=[some 16,some 9,some 2000,some 20,some 2000])
  | _=>false
 | _=>false
theorem uO (w:World):az (rF (MH w) 234) (fun fd=>pe (MH w) fd e234.params e234.more&&rE (MH w) fd&&sW fd e234)=true:=by kernel_rfl
theorem gg {l:List Value} {i:Int} {r:List (Option Int)} (h:l.map gZ=some i::r):∃t l',l=.int i t::l'/\l'.map gZ=r:=by
 cases l with
 | nil=>exact qm h
 | cons v l=>
  have h:=List.cons.inj h
  exact (q7 h.1).elim fun t e=>⟨t,l,e▸rfl,h.2⟩
theorem vg {vs:Array Value} (h:vs.toList.map gZ=[some 16,some 9,some 2000,some 20,some 2000]):∃a b c d e,vs = #[.int 16 a,.int 9 b,.int 2000 c,.int 20 d,.int 2000 e]:=by
 obtain ⟨l⟩:=vs
 obtain ⟨a,l1,e1,h1⟩:=gg h
 obtain ⟨b,l2,e2,h2⟩:=gg h1
 obtain ⟨c,l3,e3,h3⟩:=gg h2
 obtain ⟨d,l4,e4,h4⟩:=gg h3
 obtain ⟨e,l5,e5,h5⟩:=gg h4
 subst e1 e2 e3 e4 e5
 rw [List.map_eq_nil_iff.mp h5]
 exact ⟨a,b,c,d,e,rfl⟩
theorem qP {fd:FuncData} {s:Shared} {x y z d1 d2 d3 d4 d5:Value} {T:Addr} {o:Obj} {n:Nat} (h1:fd.params.posonlyargs=[]) (h2:fd.params.args.map (·.arg)=(["self","bits","digits","most_steps","most_depth","room"]:List Str)) (h3:fd.params.vararg=none) (h4:fd.params.kwonlyargs=[]) (h5:fd.params.kwarg=none)
  (hd:fd.defaults=.ref T) (ho:s.heap.get? T=some o) (hs:o.data=.seq #[d1,d2,d3,d4,d5] n):BindsTo s fd ⟨[x,y,z],[]⟩ [("self",x),("bits",y),("digits",z),("most_steps",d3),("most_depth",d4),("room",d5)]:=by
 obtain ⟨n0,k0,l,e,h2⟩:=args_cons h2
 obtain ⟨n1,k1,l,e1,h2⟩:=args_cons h2
 obtain ⟨n2,k2,l,e2,h2⟩:=args_cons h2
 obtain ⟨n3,k3,l,e3,h2⟩:=args_cons h2
 obtain ⟨n4,k4,l,e4,h2⟩:=args_cons h2
 obtain ⟨n5,k5,l,e5,h2⟩:=args_cons h2
 have ez:=List.map_eq_nil_iff.mp h2
 subst ez e5 e4 e3 e2 e1
 cases fd with | mk name qn params=>
 cases params with | mk po as va ko kd kw df=>
 dsimp only at h1 e h3 h4 h5
 subst h1 e h3 h4 h5
 exact BindsTo.of_defaults hd ho hs rfl rfl
noncomputable def codeOf (f:Addr):Option (Entry×List RV):=if f=234 then some (e234,[.int 2000,.int 20,.int 2000]) else (progTab.find? (fun E=>E.a==f)).map fun E=>(E,[])
noncomputable def mQ (E:Entry) (dr:List RV) (K:cK) (rs:List RV) (st:ai):Option (Out RV):=
 if (rs++dr).length=E.params.length then (bV E.code K ((rs++dr).map some++E.more.map fun _=>none) st).map SOut.fin else none
noncomputable def runs (n:Nat):Nat->Bool->Addr->List RV->ai->Option (Out RV):=n.rec (fun _ _ _ _ _=>none)
 fun n g m q f rs st=>if m=n+1 then (codeOf f).bind fun p=>mQ p.1 p.2 ⟨q,n,fun q m=>g m q⟩ rs st else g m q f rs st
noncomputable abbrev run (n:Nat) (q:Bool) (f:Addr) (rs:List RV) (st:ai):Option (Out RV):=runs n n q f rs st
noncomputable def yK (w:World) (E:Entry) (dr:List RV):Prop:=∃body,∃F:FnAt w E.a E.params E.more body,F.dr=dr/\wa E.code (sR (fun x=>F.fd.scope.names.lookup x) (E.params++E.more)) body=true
theorem qf {α:Type} {l:List α} (h:l.length=3):∃a b d,l=[a,b,d]:=by
 cases l with
 | nil=>exact hO h
 | cons a l=>cases l with
  | nil=>exact nomatch h
  | cons b l=>exact (List.length_eq_one_iff.mp (Nat.succ.inj (Nat.succ.inj h))).elim fun d e=>⟨a,b,d,e▸rfl⟩
theorem tE {w:World}:yK w e234 [.int 2000,.int 20,.int 2000]:=by
 obtain ⟨fd,e,h⟩:=aj (uO w)
 obtain ⟨hok,hd,hr⟩:=dt h
 have f:=lu hok
 unfold rE at hd
 cases hT:fd.defaults with
 | ref T=>
  rw [hT] at hd
  obtain ⟨o,ho,hd⟩:=aj hd
  have hv:∃vs n,o.data=.seq vs n/\vs.toList.map gZ=[some 16,some 9,some 2000,some 20,some 2000]:=by
   generalize o.data=d at hd
   cases d with
   | seq vs n=>exact ⟨vs,n,rfl,dT hd⟩
   | _=>exact aN hd
  obtain ⟨vs,n,hv,hi⟩:=hv
  obtain ⟨a,b,c,d,g,e1⟩:=vg hi
  subst e1
  exact ⟨_,FnAt.ofD e f [.int 2000 c,.int 20 d,.int 2000 g] [.int 2000,.int 20,.int 2000] (fun ρ h=>.cons (.int _ _) (.cons (.int _ _) (.cons (.int _ _) .nil))) (fun s vs hk hl=>by
   obtain ⟨x,y,z,e2⟩:=qf (Nat.add_right_cancel hl)
   subst e2
   exact qP f.p1 f.p2 f.p3 f.p4 f.p5 hT (hk _ _ ho) hv),rfl,hr⟩
 | _=>rw [hT] at hd;exact aN hd
theorem yG {w:World} {f:Addr} {E:Entry} {dr:List RV} (h:codeOf f=some (E,dr)):f=E.a/\yK w E dr:=by
 unfold codeOf at h
 by_cases hf:f=234
 ·have h:=Option.some.inj ((if_pos hf).symm.trans h)
  injection h with h1 h2
  subst h1 h2
  exact ⟨hf,tE⟩
 ·obtain ⟨E',h1,h2⟩:=Option.map_eq_some_iff.mp ((if_neg hf).symm.trans h)
  injection h2 with h2 h3
  subst h2 h3
  obtain ⟨fd,e,hok⟩:=aj (List.all_eq_true.mp (wq w) _ (List.mem_of_find?_eq_some h1))
  obtain ⟨hok,hr⟩:=aQ hok
  have ha:=List.find?_some h1
  exact ⟨(beq_iff_eq.mp ha).symm,_,FnAt.ofD e (lu (aQ hok).1) [] [] (fun _ _=>.nil) (fun s vs hk hl=>mU hok s vs hk hl),rfl,hr⟩
theorem uv {w:World} (n:Nat):∀(m:Nat) (q:Bool) (hd:Option Value) (f:Addr) (rs:List RV) (st:ai) (o:Out RV),(q=true->hd=none)->runs n m q f rs st=some o->CR w m hd (.stat f) rs st o/\isFn w f:=by
 induction n with
 | zero=>exact fun _ _ _ _ _ _ _ _ h=>aP h
 | succ n ih=>
  intro m q hd f rs st o hq h
  replace h:(if m=n+1 then (codeOf f).bind fun p=>mQ p.1 p.2 ⟨q,n,fun q m=>runs n m q⟩ rs st else runs n m q f rs st)=some o:=h
  by_cases hm:m=n+1
  ·obtain ⟨⟨E,dr⟩,e,g⟩:=Option.bind_eq_some_iff.mp ((if_pos hm).symm.trans h)
   subst hm
   obtain ⟨hf,body,F,hdr,hc⟩:=yG (w:=w) e
   subst hf
   refine ⟨?_,⟨F.o,F.fd,F.there,F.data⟩⟩
   obtain ⟨hl,h⟩:=Option.ite_none_right_eq_some.mp g
   obtain ⟨so,hs,e2⟩:=Option.map_eq_some_iff.mp h
   subst e2
   refine CR.enter F (nW w) (by rw [hdr];exact hl) fun c c1 c2 c3 c4 c5 c6=>?_
   subst c1
   rw [hdr]
   exact (RightS.all _).l _ _ hc ⟨q,n,fun q m=>runs n m q⟩ _ _ _ _ rfl ⟨c4,c6,fun _=>c5,c3,fun h=>by rw [c2];exact hq h,fun q m hd _ hq f rs st o h=>ih m q hd f rs st o hq h⟩ hs
  ·exact ih m q hd f rs st o hq ((if_neg hm).symm.trans h)
theorem uk {w:World} {n:Nat} {f:Addr} {rs:List RV} {st:ai} {o:Out RV} (h:run n true f rs st=some o):CR w n none (.stat f) rs st o:=(uv n n true none f rs st o (fun _=>rfl) h).1
theorem wG {x:WData} (h:WShape.has [] x .int=true):∃i,x=.int i:=by
 cases x with
 | int i=>exact ⟨i,rfl⟩
 | _=>exact aN h
theorem uo {xs:List WData} (h:WShape.hasItems [] xs .int=true):∃l:List Int,xs=l.map .int:=by
 induction xs with
 | nil=>exact ⟨[],rfl⟩
 | cons x xs ih=>
  have h:=Bool.and_eq_true_iff.mp h
  obtain ⟨l,e1⟩:=ih h.2
  obtain ⟨i,e2⟩:=wG h.1
  exact ⟨i::l,by rw [e1,e2];rfl⟩
theorem uK {x:WData} (h:WShape.has [] x (.list .int)=true):∃l:List Int,x=.list (l.map .int):=by
 cases x with
 | list xs=>
  have h:(WShape.hasItems [] xs .int||false)=true:=h
  rw [Bool.or_false] at h
  obtain ⟨l,rfl⟩:=uo h
  exact ⟨l,rfl⟩
 | _=>exact aN h
set_option backward.match.sparseCases true in
theorem qq {args:List WData} (h:rowL.toRowW.claim.pre args=true):∃l:List Int,args=[.list (l.map .int)]/\l.length<=63:=by
 have h:(WShape.hasAll [] args [.list .int]&&rowL.toRowW.pre.holds [] { args:=args })=true:=h
 rw [Bool.and_eq_true] at h
 obtain ⟨h1,h2⟩:=h
 match args,h1,h2 with
 | [d],h1,h2=>
  rw [WShape.hasAll,Bool.and_eq_true] at h1
  obtain ⟨l,rfl⟩:=uK h1.1
  refine ⟨l,rfl,?_⟩
  have e:rowL.toRowW.pre.holds [] { args:=[.list (l.map .int)] } = !decide ((63:Int)<((l.map WData.int).length:Int)):=by
   show (match (match (match ((W.less? (.int 63) (.int (l.map WData.int).length)).map WData.bool) with | some (WData.bool b)=>some (WData.bool (!b)) | _=>none) with | some (WData.bool false)=>some (WData.bool false) | some (WData.bool true)=>some (WData.bool true) | _=>none) with | some (WData.bool true)=>true | _=>false)=_
   show (match (match some (WData.bool (!decide ((63:Int)<((l.map WData.int).length:Int)))) with | some (WData.bool false)=>some (WData.bool false) | some (WData.bool true)=>some (WData.bool true) | _=>none) with | some (WData.bool true)=>true | _=>false)=_
   cases decide ((63:Int)<((l.map WData.int).length:Int)) <;> rfl
  rw [e] at h2
  simp at h2
  lia
 | [],h1,_=>exact aN h1
 | _::_::_,h1,_=>simp [WShape.hasAll] at h1
theorem ints_rep {ρ:Pl} {h:Heap} {cl:Str->Option Addr} {l:List Int} {vs:List Value} {as:List Addr} (x:ReadsAllW [] cl h vs (l.map .int) as):RepL ρ h (l.map .int) vs:=by
 induction l generalizing vs as with
 | nil=>cases x;exact .nil
 | cons i l ih=>cases x with
  | cons a b=>cases a;exact .cons (.int _ _) (ih b)
theorem xA (w:World):(MH w).nsMap mainGlobals "law"=some (.ref 765):=by kernel_rfl
theorem qr (run_:∀l:List Int,l.length<=63->∃st,run 600 true 765 [.lst (l.map .int)] []=some (.ok (.bool true) st)):PySem.Challenge.rw_sm0010_01.Holds:=by
 refine head fun w s₀ s₁ mg mb G Y a o pm cd doc dV kV h1 h2 h3 h4 h5 hgen args vals as hpre hlay hr hw hsys=>?_
 obtain ⟨l,rfl,hl⟩:=qq hpre
 obtain ⟨st,hrun⟩:=run_ l hl
 cases hr with | cons hr1 hr2=>
 cases hr2
 cases hr1 with | list e1 e2 e3 e4=>
 obtain ⟨h,g,d,tk,os⟩:=s₁
 have ha:a=765:=by
  have k1:h.Ns mainGlobals ((MH w).nsMap mainGlobals):=(Heap.Ns.of_isNs (iL w)).keeps Y
  have k2:h.Ns mainGlobals mg:=G.T.g
  have e:mg "law"=(MH w).nsMap mainGlobals "law":=by rw [k2.eq_nsMap,<-k1.eq_nsMap]
  rw [xA] at e
  have e2:mg recL.1.name=mg "law":=rfl
  rw [e2,e] at h5
  cases h5
  rfl
 subst ha
 have C:=uk (w:=w) hrun
 have s0:StoOk w (aE []) ⟨[],[]⟩ [] h:=⟨rfl,.nil,fun a m=>(by cases m),fun i a o e=>by simp at e,fun b m=>by cases m⟩
 refine wpAny_call (codeAny_mono (C callerA [] g d os ⟨[],[]⟩ h tk _ _ rfl rfl (by decide) (by decide) Y ⟨trivial,fun b m=>by cases m⟩ s0 (.stat 765) (.cons (.lst ⟨by simp,by simp⟩ ⟨_,e1,e2,_,by simpa using e3⟩ (ints_rep e4)) .nil) (fun e q=>by cases q)) fun r s' z=>?_)
 cases z with
 | ok h' t' ρ' r st' v sp k _ _ y=>
  apply y.elim
  refine ⟨.inl ⟨_,.bool true,[],rfl,fun cls=>rfl,.bool true,?_,fun _=>⟨.nil,fun a m=>fx m⟩⟩,.of_keep fun b o e=>(sp.keep b o (fun m=>fx m) (fun m=>fx m) (fun m=>fx m) e).1,rfl,.of_eq hgen⟩
  kernel_rfl
end
section
open PySem
noncomputable abbrev Kn (q:Bool) (n:Nat):cK:=⟨q,n,fun q m=>runs n m q⟩
section
variable {α β:Type} {m:Option (Out α)} {a:α} {s s':ai} {k:Str} {γ γ':Lo} {w:Option SOut}
theorem av {f:α->ai->Option (Out β)} {z:Option (Out β)} (h:m=some (.ok a s)) (g:f a s=z):aq m f=z:=by subst h;exact g
theorem eP {f:α->ai->Option (Out β)} (h:m=some (.exc k s)):aq m f=some (.exc k s):=by subst h;rfl
theorem bS {f:α->ai->Option SOut} (h:m=some (.ok a s)) (g:f a s=w):dg m γ f=w:=h▸g
theorem nL {f:α->ai->Option SOut} (h:m=some (.exc k s)):dg m γ f=some (.exc k γ s):=by subst h;rfl
theorem gJ {f:Lo->ai->Option SOut} {x:Option SOut} (h:x=some (.next γ s)) (g:f γ s=w):fQ x f=w:=h▸g
theorem tm {f:Lo->ai->Option SOut} {x:Option SOut} {r:RV} (h:x=some (.ret r s)):fQ x f=some (.ret r s):=by subst h;rfl
theorem oY {f:Lo->ai->Option SOut} {x:Option SOut} (h:x=some (.exc k γ s)):fQ x f=some (.exc k γ s):=by subst h;rfl
theorem bW {β:Type} {x:Option α} {f:α->β} (h:x=some a):x.map f=some (f a):=by subst h;rfl
theorem ak {β:Type} {x:Option α} {f:α->Option β} {z:Option β} (h:x=some a) (g:f a=z):x.bind f=z:=h▸g
end
theorem m8 {q:Bool} {n:Nat} {f:Addr} {E:Entry} {dr:List RV} {rs:List RV} {st:ai} (h:codeOf f=some (E,dr)):run (n+1) q f rs st=mQ E dr (Kn q n) rs st:=
 (if_pos rfl:(if n+1=n+1 then (codeOf f).bind fun p=>mQ p.1 p.2 (Kn q n) rs st else runs n (n+1) q f rs st)=_).trans (ak h rfl)
section
variable {q:Bool} {n:Nat} {f:Addr} {E:Entry} {dr rs:List RV} {st s₁ s₂ s₃:ai} {K:cK} {γ γQ:Lo} {so:SOut} {o:Option SOut} {s:YS} {l a c:YL} {t e e':XE} {r r':RV} {k:Str} {b:Bool} {x xs:om} {i:Nat} {z:Option (Out RV)} {lo:Option (Out (List RV))}
theorem sh (h:codeOf f=some (E,dr)) (hl:(rs++dr).length=E.params.length) (hx:bV E.code (Kn q n) ((rs++dr).map some++E.more.map fun _=>none) st=some so):run (n+1) q f rs st=some so.fin:=
 (m8 h).trans ((if_pos hl).trans (bW hx))
theorem aa (h:ex s K γ st=some (.next γQ s₁)) (h2:bV l K γQ s₁=o):bV (.cons s l) K γ st=o:=(gJ h h2:fQ (ex s K γ st) (bV l K)=o)
theorem ao (h:ex s K γ st=some (.ret r s₁)):bV (.cons s l) K γ st=some (.ret r s₁):=(tm h:fQ (ex s K γ st) (bV l K)=_)
theorem aH (h:ex s K γ st=some (.exc k γQ s₁)):bV (.cons s l) K γ st=some (.exc k γQ s₁):=(oY h:fQ (ex s K γ st) (bV l K)=_)
theorem aK (h:ev e K γ st=some (.ok r s₁)):ex (.ret e) K γ st=some (.ret r s₁):=(bS h rfl:dg (ev e K γ st) γ (fun r s₁=>some (.ret r s₁))=_)
theorem eO (h:ev e K γ st=some (.exc k s₁)):ex (.ret e) K γ st=some (.exc k γ s₁):=(nL h:dg (ev e K γ st) γ (fun r s₁=>some (.ret r s₁))=_)
theorem aD (h:ev e K γ st=some (.ok r s₁)):ex (.asg i e) K γ st=some (.next (γ.set i (some r)) s₁):=(bS h rfl:dg (ev e K γ st) γ (fun r s₁=>some (.next (γ.set i (some r)) s₁))=_)
theorem jH (h:ev e K γ st=some (.exc k s₁)):ex (.asg i e) K γ st=some (.exc k γ s₁):=(nL h:dg (ev e K γ st) γ (fun r s₁=>some (.next (γ.set i (some r)) s₁))=_)
theorem rJ {T:Tg} {ik:IK} {it elt:XE} {tn:List Str} {fi:List Nat} (h:ev (.comp T ik it elt tn fi) K γ st=some (.ok r s₁)):ex (.asgc i T ik it elt tn fi) K γ st=some (.next (γ.set i (some r)) s₁):=(bS h rfl:dg (ev (.comp T ik it elt tn fi) K γ st) γ (fun r s₁=>some (.next (γ.set i (some r)) s₁))=_)
theorem cG (h:ev e K γ st=some (.ok r s₁)):ex (.expr e) K γ st=some (.next γ s₁):=(bS h rfl:dg (ev e K γ st) γ (fun _ s₁=>some (.next γ s₁))=_)
theorem bc {is:List Nat} {rev:Bool} (h:ev e K γ st=some (.ok r s₁)) (h2:tD is rev r γ=some γQ):ex (.unpack is rev e) K γ st=some (.next γQ s₁):=(bS h (bW h2):dg (ev e K γ st) γ (fun r s₁=>(tD is rev r γ).map fun γ'=>.next γ' s₁)=_)
theorem te {is:List Nat} {rev:Bool} (h:ev e K γ st=some (.exc k s₁)):ex (.unpack is rev e) K γ st=some (.exc k γ s₁):=(nL h:dg (ev e K γ st) γ (fun r s₁=>(tD is rev r γ).map fun γ'=>.next γ' s₁)=_)
theorem ci (h:ev t K γ st=some (.ok (.bool b) s₁)):cu t K γ st=some (.ok b s₁):=av h rfl
theorem xf {α:Type} {x y z:α} (hb:b=true) (h:x=z):(if b then x else y)=z:=(if_pos hb).trans h
theorem wH {α:Type} {x y z:α} (hb:b=false) (h:y=z):(if b then x else y)=z:=hb▸h
theorem aF (h:cu t K γ st=some (.ok b s₁)) (hb:b=true) (h2:bV a K γ s₁=o):ex (.ite t a c) K γ st=o:=(bS h (xf hb h2):dg (cu t K γ st) γ (fun q s₁=>if q then bV a K γ s₁ else bV c K γ s₁)=_)
theorem am (h:cu t K γ st=some (.ok b s₁)) (hb:b=false) (h2:bV c K γ s₁=o):ex (.ite t a c) K γ st=o:=(bS h (wH hb h2):dg (cu t K γ st) γ (fun q s₁=>if q then bV a K γ s₁ else bV c K γ s₁)=_)
theorem ag (hl:cP x K γ st=some (.ok rs s₁)) (h:K.run K.q K.n f rs s₁=z):ev (.call f x) K γ st=z:=(av hl h:aq (cP x K γ st) (K.run K.q K.n f)=z)
theorem gy (hl:cP x K γ st=some (.exc k s₁)):ev (.call f x) K γ st=some (.exc k s₁):=(eP hl:aq (cP x K γ st) (K.run K.q K.n f)=_)
noncomputable abbrev rC (x:om) (K:cK) (γ:Lo) (r:RV) (s₁:ai):Option (Out (List RV)):=aq (cP x K γ s₁) fun l s₂=>some (.ok (r::l) s₂)
theorem ac (h:ev e K γ st=some (.ok r s₁)) (h2:cP x K γ s₁=some (.ok rs s₂)):cP (.cons e x) K γ st=some (.ok (r::rs) s₂):=(av h (av h2 rfl):aq (ev e K γ st) (rC x K γ)=_)
theorem cm (h:ev e K γ st=some (.exc k s₁)):cP (.cons e x) K γ st=some (.exc k s₁):=(eP h:aq (ev e K γ st) (rC x K γ)=_)
theorem iH (h:ev e K γ st=some (.ok r s₁)) (h2:cP x K γ s₁=some (.exc k s₂)):cP (.cons e x) K γ st=some (.exc k s₂):=(av h (eP h2):aq (ev e K γ st) (rC x K γ)=_)
noncomputable abbrev zw (l:List RV) (s₁:ai):Option (Out RV):=if l.length<=100 then some (.ok (.tup l) s₁) else none
theorem aL (h:cP x K γ st=some (.ok rs s₁)) (hl:rs.length<=100):ev (.tup x) K γ st=some (.ok (.tup rs) s₁):=(av h (if_pos hl):aq (cP x K γ st) zw=_)
theorem lR (h:cP x K γ st=some (.exc k s₁)):ev (.tup x) K γ st=some (.exc k s₁):=(eP h:aq (cP x K γ st) zw=_)
theorem aS (h:cu t K γ st=some (.ok b s₁)) (hb:b=true) (h2:ev e K γ s₁=z):ev (.ite t e e') K γ st=z:=(av h (xf hb h2):aq (cu t K γ st) (fun q s₁=>if q then ev e K γ s₁ else ev e' K γ s₁)=z)
theorem bK (h:cu t K γ st=some (.ok b s₁)) (hb:b=false) (h2:ev e' K γ s₁=z):ev (.ite t e e') K γ st=z:=(av h (wH hb h2):aq (cu t K γ st) (fun q s₁=>if q then ev e K γ s₁ else ev e' K γ s₁)=z)
noncomputable abbrev rB (b:XE) (K:cK) (γ:Lo) (f:ai->RV->RV->Option RV) (x:RV) (s₁:ai):Option (Out RV):=aq (ev b K γ s₁) fun y s₂=>(f s₂ x y).map fun r=>.ok r s₂
theorem aJ {op:Operator} (h:ev e K γ st=some (.ok r s₁)) (h2:ev e' K γ s₁=some (.ok r' s₂)) {w:RV} (h3:binI op r r'=some w):ev (.bin op e e') K γ st=some (.ok w s₂):=
 (av h (av h2 (bW h3)):aq (ev e K γ st) (rB e' K γ fun _=>binI op)=_)
theorem bZ {op:CmpOp} (h:ev e K γ st=some (.ok r s₁)) (h2:ev e' K γ s₁=some (.ok r' s₂)) (h3:dh op s₂ r r'=some b):ev (.cmp op e e') K γ st=some (.ok (.bool b) s₂):=
 (av h (av h2 (bW (bW h3))):aq (ev e K γ st) (rB e' K γ fun s x y=>(dh op s x y).map .bool)=_)
theorem kB (h:ev e K γ st=some (.ok (.bool b) s₁)):ev (.not e) K γ st=some (.ok (.bool !b) s₁):=(av h rfl:aq (ev e K γ st) (fun r s₁=>aq (jf r s₁) fun b s₂=>zS (!b) s₂)=_)
theorem aG (h:ev e K γ st=some (.ok r s₁)) (h2:ev e' K γ s₁=some (.ok r' s₂)) {w:RV} (h3:dA s₂ r r'=some w):ev (.idx e e') K γ st=some (.ok w s₂):=
 (av h (av h2 (bW h3)):aq (ev e K γ st) (rB e' K γ dA)=_)
theorem ch (hq:K.q=true) (hn:0<K.n) (h:cP x K γ st=some (.ok (.str k::rs) s₁)) (hl:rs.length<=1):ex (.raise x) K γ st=some (.exc k γ s₁):=
 (xf hq (bS h (if_pos ⟨hl,hn⟩)):(if K.q then dg (cP x K γ st) γ (oR K.n γ) else none)=_)
theorem jK (h:ev e K γ st=some (.ok (.bool b) s₁)) (hb:b=false):ev (.and e e') K γ st=some (.ok (.bool false) s₁):=(av h (wH hb rfl):aq (ev e K γ st) (sy (ev e' K γ))=_)
theorem dU (h:ev e K γ st=some (.ok (.bool b) s₁)) (hb:b=true) (h2:ev e' K γ s₁=z):ev (.and e e') K γ st=z:=(av h (xf hb h2):aq (ev e K γ st) (sy (ev e' K γ))=_)
theorem j7 (h:ev e K γ st=some (.ok (.bool b) s₁)) (hb:b=true):ev (.or e e') K γ st=some (.ok (.bool true) s₁):=(av h (xf hb rfl):aq (ev e K γ st) (zF (ev e' K γ))=_)
theorem et (h:ev e K γ st=some (.ok (.bool b) s₁)) (hb:b=false) (h2:ev e' K γ s₁=z):ev (.or e e') K γ st=z:=(av h (wH hb h2):aq (ev e K γ st) (zF (ev e' K γ))=_)
noncomputable abbrev y8 (t:XE) (w:YL) (K:cK) (γ:Lo) (st:ai):Option SOut:=kU (cu t K γ st) (bV w K γ) γ (ex (.while t w) K)
theorem while_eq {w:YL}:ex (.while t w) K γ st=y8 t w K γ st:=p6 γ st
theorem gw {w:YL} (h:cu t K γ st=some (.ok b s₁)) (hb:b=false):ex (.while t w) K γ st=some (.next γ s₁):=while_eq.trans (bS h (wH hb rfl))
theorem gv {w:YL} (h:cu t K γ st=some (.ok b s₁)) (hb:b=true) (h2:bV w K γ s₁=some (.next γQ s₂)) (h3:ex (.while t w) K γQ s₂=o):ex (.while t w) K γ st=o:=while_eq.trans (bS h (xf hb (gJ h2 h3)))
theorem tN {w:YL} (h:cu t K γ st=some (.ok b s₁)) (hb:b=true) (h2:bV w K γ s₁=some (.exc k γQ s₂)):ex (.while t w) K γ st=some (.exc k γQ s₂):=while_eq.trans (bS h (xf hb (oY h2)))
end
inductive Res where
 | ok (r:RV)
 | exc (k:Str)
noncomputable def Res.out (st:ai):Res->Out RV
 | .ok r=>.ok r st
 | .exc k=>.exc k st
noncomputable def Res.so (γ:Lo) (st:ai):Res->SOut
 | .ok r=>.ret r st
 | .exc k=>.exc k γ st
theorem Res.so_fin {γ:Lo} {st:ai} {x:Res}:(x.so γ st).fin=x.out st:=by cases x <;> rfl
theorem aZ {K:cK} {γ:Lo} {st s₁:ai} {e:XE} {l:YL} {x:Res} (h:ev e K γ st=some (x.out s₁)):bV (.cons (.ret e) l) K γ st=some (x.so γ s₁):=by
 cases x with
 | ok r=>exact ao (aK h)
 | exc k=>exact aH (eO h)
theorem l8 {K:cK} {γ γ':Lo} {st s₁:ai} {s:YS} {l:YL} {x:Res} (h:ex s K γ st=some (x.so γ' s₁)):bV (.cons s l) K γ st=some (x.so γ' s₁):=by
 cases x with
 | ok r=>exact ao h
 | exc k=>exact aH h
noncomputable def Pu (d:Nat) (f:Addr) (rs:List RV) (x:Res):Prop:=∀n st,d<=n->run n true f rs st=some (x.out st)
theorem Pu.at {d:Nat} {f:Addr} {rs:List RV} {x:Res} (h:Pu d f rs x) {n:Nat} {st:ai} (hn:d<=n):(Kn true n).run (Kn true n).q (Kn true n).n f rs st=some (x.out st):=h n st hn
theorem Pu.of {d:Nat} {f:Addr} {E:Entry} {rs:List RV} {x:Res} (h:codeOf f=some (E,[])) (hl:(rs++[]).length=E.params.length)
  (hx:∀n st,d<=n->∃so,bV E.code (Kn true n) ((rs++[]).map some++E.more.map fun _=>none) st=some so/\so.fin=x.out st):Pu (d+1) f rs x:=fun n st hn=>by
 cases n with
 | zero=>exact absurd hn (Nat.not_succ_le_zero _)
 | succ m=>exact (hx m st (Nat.le_of_succ_le_succ hn)).elim fun so y=>(sh h hl y.1).trans (congrArg some y.2)
noncomputable def gd:Nat->Nat->Nat->Nat
 | 0,k,_=>k
 | f+1,k,m=>if 10^k<=m then gd f (k+1) m else k
noncomputable def aX (m:Nat):Nat:=gd m 1 m
theorem n8 (k:Nat):k<10^k:=Nat.lt_pow_self (by decide)
theorem eh:∀(f k m:Nat),m<k+f->k<=gd f k m/\m<10^gd f k m/\(gd f k m=k\/10^(gd f k m-1)<=m)
 | 0,k,m,h=>⟨Nat.le_refl _,Nat.lt_trans (by simpa using h) (n8 k),.inl rfl⟩
 | f+1,k,m,h=>by
  rw [gd]
  by_cases q:10^k<=m
  ·rw [if_pos q]
   obtain ⟨h1,h2,h3⟩:=eh f (k+1) m (by lia)
   refine ⟨by lia,h2,.inr ?_⟩
   rcases h3 with h3 | h3
   ·rw [h3];simpa using q
   ·exact h3
  ·rw [if_neg q]
   exact ⟨Nat.le_refl _,by lia,.inl rfl⟩
theorem gB (m:Nat):1<=aX m:=(eh m 1 m (by lia)).1
theorem iJ (m:Nat):m<10^aX m:=(eh m 1 m (by lia)).2.1
theorem lj (m:Nat):aX m=1\/10^(aX m-1)<=m:=(eh m 1 m (by lia)).2.2
theorem bu {a b:Nat} (h:a<=b):10^a<=10^b:=Nat.pow_le_pow_right (by decide) h
theorem vo {a b:Nat} (h:10^a<10^b):a<b:=(Nat.pow_lt_pow_iff_right (by decide)).mp h
theorem uB {m k:Nat} (hk:1<=k) (h1:m<10^k) (h2:k=1\/10^(k-1)<=m):aX m=k:=by
 have a1:=gB m
 have a2:=iJ m
 have a3:=lj m
 rcases Nat.lt_trichotomy (aX m) k with h | h | h
 ·rcases h2 with h2 | h2
  ·lia
  ·have:=bu (a:=aX m) (b:=k-1) (by lia);lia
 ·exact h
 ·rcases a3 with a3 | a3
  ·lia
  ·have:=bu (a:=k) (b:=aX m-1) (by lia);lia
theorem gk {m k:Nat} (hk:1<=k) (h1:m<10^k):aX m<=k:=by
 rcases lj m with h | h
 ·lia
 ·have:=vo (Nat.lt_of_le_of_lt h h1);lia
theorem pP {a:Int}:jT .Mult (.int a) (.int 10)=some (.int (a*10)):=(if_pos (Bool.or_true _):(if lS a||lS 10 then some (RV.int (a*10)) else none)=_)
theorem sw {γ:Lo} {st s₁:ai} {K:cK} {i:Nat} {op:Operator} {e:XE} {a r z:RV} (ha:γ[i]? = some (some a)) (h:ev e K γ st=some (.ok r s₁)) (h3:jT op a r=some z):ex (.aug i op e) K γ st=some (.next (γ.set i (some z)) s₁):=
 (ak (congrArg Option.join ha) (bS h (bW h3)):((γ[i]?).join.bind fun a=>dg (ev e K γ st) γ fun r s₁=>(jT op a r).map fun z=>.next (γ.set i (some z)) s₁)=_)
theorem mu (m:Nat) {K:cK} {st:ai}:∀(f k:Nat),m<k+f->∃b,ex (.while (.cmp .LtE (.loc 2) (.loc 0)) (.cons (.aug 2 .Mult (.val (.int 10))) (.cons (.aug 1 .Add (.val (.int 1))) .nil))) K [some (.int m),some (.int k),some (.int ((10^k:Nat):Int))] st =
   some (.next [some (.int m),some (.int (gd f k m:Nat)),b] st)
 | 0,k,h=>⟨_,gw (b:=decide (((10^k:Nat):Int)<=(m:Int))) rfl (by have:=n8 k;rw [decide_eq_false_iff_not];lia)⟩
 | f+1,k,h=>by
  rw [gd]
  by_cases q:10^k<=m
  ·rw [if_pos q]
   obtain ⟨b,e⟩:=mu m (K:=K) (st:=st) f (k+1) (by lia)
   refine ⟨b,gv (b:=decide (((10^k:Nat):Int)<=(m:Int))) rfl (by rw [decide_eq_true_iff];lia) (aa (sw rfl rfl pP) (aa (sw rfl rfl rfl) rfl)) ?_⟩
   rw [<-e]
   have e1:((10^(k+1):Nat):Int)=((10^k:Nat):Int)*10:=by rw [Nat.pow_succ];exact rfl
   rw [e1]
   rfl
  ·rw [if_neg q]
   exact ⟨_,gw (b:=decide (((10^k:Nat):Int)<=(m:Int))) rfl (by rw [decide_eq_false_iff_not];omega)⟩
theorem gp (m:Nat):Pu 1 93 [.int m] (.ok (.int (aX m:Nat))):=Pu.of (E:=AW) rfl rfl fun n st _=>by
 obtain ⟨b,e⟩:=mu m (K:=Kn true n) (st:=st) m 1 (by lia)
 exact ⟨_,aa rfl (aa e (ao rfl)),rfl⟩
noncomputable def roundN (m:Nat) (p:Int):Nat:=
 if p<=0 then m else if p>aX m+1 then 0 else
  if 2*(m%10^p.toNat)>10^p.toNat\/(2*(m%10^p.toNat)=10^p.toNat/\m/10^p.toNat%2=1) then m/10^p.toNat+1 else m/10^p.toNat
theorem uR {p:Nat}:(10:Int)^p=((10^p:Nat):Int):=by rw [Int.natCast_pow];rfl
theorem iM {p:Nat} (h:p<=1000000):binI .Pow (.int 10) (.int p)=some (.int ((10^p:Nat):Int)):=by
 have:(lS 10=true/\(0:Int)<=(p:Int)/\(p:Int)<=1000000):=⟨by decide,by lia,by lia⟩
 show (if lS 10=true/\(0:Int)<=(p:Int)/\(p:Int)<=1000000 then some (RV.int (10^(p:Int).toNat)) else none)=_
 rw [if_pos this,Int.toNat_natCast,uR]
theorem uh {p:Nat} (h:p<=2000):((10^p:Nat)).log2<9000:=by
 have h1:10^p<=16^p:=Nat.pow_le_pow_left (by decide) p
 have h2:(16:Nat)^p=2^(4*p):=by rw [Nat.pow_mul]
 have h3:10^p<2^9000:=Nat.lt_of_le_of_lt (by rw [h2] at h1;exact h1) (Nat.pow_lt_pow_right (by decide) (by lia))
 exact (Nat.log2_lt (Nat.pos_iff_ne_zero.mp (Nat.pow_pos (by decide)))).mpr h3
theorem iB {m u:Nat} (h:0<u) (hl:u.log2<9000):binI .FloorDiv (.int m) (.int u)=some (.int (m/u:Nat)):=by
 have:((u:Int)≠0/\(u:Int).natAbs.log2<9000):=⟨by lia,hl⟩
 show (if (u:Int)≠0/\(u:Int).natAbs.log2<9000 then some (RV.int ((m:Int).fdiv u)) else none)=_
 rw [if_pos this,Int.fdiv_eq_ediv_of_nonneg _ (by lia)]
 rfl
theorem fm {m u:Nat} (h:0<u):binI .Mod (.int m) (.int u)=some (.int (m%u:Nat)):=by
 show (if (u:Int)≠0 then some (RV.int ((m:Int).fmod u)) else none)=_
 rw [if_pos (by lia),Int.fmod_eq_emod_of_nonneg _ (by lia)]
 rfl
theorem mv (m:Nat) (p:Int) (hp:p<=2000):Pu 2 100 [.int m,.int p] (.ok (.int (roundN m p:Nat))):=Pu.of (E:=e100) rfl rfl fun n st hn=>by
 unfold roundN
 by_cases h1:p<=0
 ·rw [if_pos h1]
  exact ⟨_,ao (aF (b:=decide (p<=0)) rfl (by simpa using h1) (ao rfl)),rfl⟩
 ·rw [if_neg h1]
  have t1:cu (.cmp .LtE (.loc 1) (.val (.int 0))) (Kn true n) [some (.int m),some (.int p),none,none,none] st=some (.ok (decide (p<=0)) st):=rfl
  have hf:=(gp m).at (n:=n) (st:=st) hn
  have t2:cu (.cmp .Gt (.loc 1) (.bin .Add (.call 93 (.cons (.loc 0) .nil)) (.val (.int 1)))) (Kn true n) [some (.int m),some (.int p),none,none,none] st=some (.ok (decide (p>(aX m:Int)+1)) st):=
   ci (bZ rfl (aJ (ag rfl hf) rfl rfl) rfl)
  by_cases h2:p>(aX m:Int)+1
  ·rw [if_pos h2]
   exact ⟨_,aa (am t1 (by simpa using h1) rfl) (ao (aF t2 (by simpa using h2) (ao rfl))),rfl⟩
  ·rw [if_neg h2]
   obtain ⟨k,rfl⟩:∃k:Nat,p=k:=⟨p.toNat,by lia⟩
   rw [Int.toNat_natCast]
   have hu:0<10^k:=Nat.pow_pos (by decide)
   generalize hU:10^k=u at hu
   have hlog:u.log2<9000:=by rw [<-hU];exact uh (by lia)
   have e1:ev (.bin .Pow (.val (.int 10)) (.loc 1)) (Kn true n) [some (.int m),some (.int k),none,none,none] st=some (.ok (.int u) st):=by
    rw [<-hU];exact aJ rfl rfl (iM (by lia))
   have e2:ev (.tup (.cons (.bin .FloorDiv (.loc 0) (.loc 2)) (.cons (.bin .Mod (.loc 0) (.loc 2)) .nil))) (Kn true n) [some (.int m),some (.int k),some (.int u),none,none] st=some (.ok (.tup [.int (m/u:Nat),.int (m%u:Nat)]) st):=
    aL (ac (aJ rfl rfl (iB hu hlog)) (ac (aJ rfl rfl (fm hu)) rfl)) (cn rfl)
   have fin:∀b,cu (.or (.cmp .Gt (.bin .Mult (.val (.int 2)) (.loc 4)) (.loc 2)) (.and (.cmp .Eq (.bin .Mult (.val (.int 2)) (.loc 4)) (.loc 2)) (.cmp .Eq (.bin .Mod (.loc 3) (.val (.int 2))) (.val (.int 1))))) (Kn true n) [some (.int m),some (.int k),some (.int u),some (.int (m/u:Nat)),some (.int (m%u:Nat))] st=some (.ok b st)->
     ∃so,bV e100.code (Kn true n) [some (.int m),some (.int k),none,none,none] st=some so/\so.fin=.ok (.int (if b then m/u+1 else m/u:Nat)) st:=fun b hb=>by
    refine ⟨.ret (.int (if b then m/u+1 else m/u:Nat)) st,aa (am t1 (by simpa using h1) rfl) (aa (am t2 (by simpa using h2) rfl) (aa (aD e1) (aa (bc e2 rfl) ?_))),rfl⟩
    cases b with
    | true=>exact aa (aF hb rfl (aa (sw rfl rfl rfl) rfl)) (ao rfl)
    | false=>exact aa (am hb rfl rfl) (ao rfl)
   have g1:ev (.cmp .Gt (.bin .Mult (.val (.int 2)) (.loc 4)) (.loc 2)) (Kn true n) [some (.int m),some (.int k),some (.int u),some (.int (m/u:Nat)),some (.int (m%u:Nat))] st=some (.ok (.bool (decide (2*((m%u:Nat):Int)>(u:Int)))) st):=rfl
   have g2:ev (.cmp .Eq (.bin .Mult (.val (.int 2)) (.loc 4)) (.loc 2)) (Kn true n) [some (.int m),some (.int k),some (.int u),some (.int (m/u:Nat)),some (.int (m%u:Nat))] st=some (.ok (.bool (2*((m%u:Nat):Int)==(u:Int))) st):=rfl
   have g3:ev (.cmp .Eq (.bin .Mod (.loc 3) (.val (.int 2))) (.val (.int 1))) (Kn true n) [some (.int m),some (.int k),some (.int u),some (.int (m/u:Nat)),some (.int (m%u:Nat))] st=some (.ok (.bool (((m/u%2:Nat):Int)==1)) st):=
    bZ (aJ rfl rfl (fm (u:=2) (by decide))) rfl rfl
   by_cases c1:2*(m%u)>u
   ·rw [if_pos (.inl c1)]
    exact fin true (ci (j7 g1 (by rw [decide_eq_true_iff];lia)))
   ·have c1':decide (2*((m%u:Nat):Int)>(u:Int))=false:=by rw [decide_eq_false_iff_not];lia
    by_cases c2:2*(m%u)=u
    ·have c2':(2*((m%u:Nat):Int)==(u:Int))=true:=by rw [beq_iff_eq];lia
     by_cases c3:m/u%2=1
     ·rw [if_pos (.inr ⟨c2,c3⟩)]
      exact fin true (ci ((et g1 c1' (dU g2 c2' g3)).trans (by rw [c3];rfl)))
     ·rw [if_neg (fun h=>h.elim c1 fun h=>c3 h.2)]
      have c3':(((m/u%2:Nat):Int)==1)=false:=by rw [beq_eq_false_iff_ne];lia
      exact fin false (ci ((et g1 c1' (dU g2 c2' g3)).trans (by rw [c3'])))
    ·have c2':(2*((m%u:Nat):Int)==(u:Int))=false:=by rw [beq_eq_false_iff_ne];lia
     rw [if_neg (fun h=>h.elim c1 fun h=>c2 h.1)]
     exact fin false (ci (et g1 c1' (jK g2 c2')))
noncomputable def bj:Nat->Nat->Int->Nat×Int
 | 0,s,e=>(s,e)
 | f+1,s,e=>if s%10=0 then bj f (s/10) (e+1) else (s,e)
noncomputable def strip (s:Nat) (e:Int):Nat×Int:=bj s s e
noncomputable def dec (c e:Int):RV:=.tup [.int c,.int e]
inductive V where
 | i (n:Int)
 | d (c e:Int)
 | s (x:Str)
noncomputable def V.rv:V->RV
 | .i n=>.int n
 | .d c e=>dec c e
 | .s x=>.str x
inductive VR where
 | ok (v:V)
 | exc (k:Str)
noncomputable def VR.res:VR->Res
 | .ok v=>.ok v.rv
 | .exc k=>.exc k
noncomputable def lE (neg:Bool) (s:Nat) (e:Int):VR:=
 if e+aX s-1>99 then .exc "OV" else if e+aX s-1 < -99 then .ok (.d 0 0) else .ok (.d (if neg then -(s:Int) else s) e)
noncomputable def em (neg:Bool) (s:Nat) (e:Int):VR:=if s=0 then .ok (.d 0 0) else lE neg (strip s e).1 (strip s e).2
noncomputable def bY (c e:Int):VR:=
 if (aX c.natAbs:Int)-6>0 then em (decide (c<0)) (roundN c.natAbs ((aX c.natAbs:Int)-6)) (e+((aX c.natAbs:Int)-6)) else em (decide (c<0)) c.natAbs e
theorem bJ {b:BI} {x:om} {n:Nat} {γ:Lo} {st s₁:ai} {rs:List RV} {r:RV} (h:cP x (Kn true n) γ st=some (.ok rs s₁)) (h2:callB b s₁ rs=some r):ev (.prim b x) (Kn true n) γ st=some (.ok r s₁):=by
 show (if true=true then aq (cP x (Kn true n) γ st) _ else none)=_
 rw [if_pos rfl,h];show (callB b s₁ rs).map _=_;rw [h2];rfl
theorem fb {c:Int} {st:ai}:callB .abs st [.int c]=some (.int (c.natAbs:Nat)):=by
 show some (RV.int (if c<0 then -c else c))=_
 congr 2
 split <;> lia
theorem iU {c m:Int} {x y:Option RV} {K:cK} {st:ai}:∀(f s:Nat) (e:Int),0<s->s<=f->ex (.while (.cmp .Eq (.bin .Mod (.loc 3) (.val (.int 10))) (.val (.int 0))) (.cons (.unpack [3,1] true (.tup (.cons (.bin .FloorDiv (.loc 3) (.val (.int 10))) (.cons (.bin .Add (.loc 1) (.val (.int 1))) .nil)))) .nil)) K
   [some (.int c),some (.int e),some (.int m),some (.int s),x,y] st=some (.next [some (.int c),some (.int (bj f s e).2),some (.int m),some (.int ((bj f s e).1:Nat)),x,y] st)/\0<(bj f s e).1/\(bj f s e).1<=s
 | 0,s,e,h1,h2=>by lia
 | f+1,s,e,h1,h2=>by
  have t:cu (.cmp .Eq (.bin .Mod (.loc 3) (.val (.int 10))) (.val (.int 0))) K [some (.int c),some (.int e),some (.int m),some (.int s),x,y] st=some (.ok (((s%10:Nat):Int)==0) st):=
   ci (bZ (aJ rfl rfl (fm (u:=10) (by decide))) rfl rfl)
  rw [bj]
  by_cases q:s%10=0
  ·rw [if_pos q]
   obtain ⟨g1,g2,g3⟩:=iU (c:=c) (m:=m) (x:=x) (y:=y) (K:=K) (st:=st) f (s/10) (e+1) (by lia) (by lia)
   refine ⟨gv t (by rw [beq_iff_eq];lia) (aa (bc (aL (ac (aJ rfl rfl (iB (u:=10) (by decide) (by decide))) (ac rfl rfl)) (cn rfl)) rfl) rfl) g1,g2,by lia⟩
  ·rw [if_neg q]
   exact ⟨gw t (by rw [beq_eq_false_iff_ne];lia),h1,Nat.le_refl _⟩
theorem lg {n:Nat} {st:ai} {c e m:Int} {s:Nat} {y:Option RV} (hn:1<=n):∃so,bV (.cons (.ite (.cmp .Eq (.loc 3) (.val (.int 0))) (.cons (.ret (.tup (.cons (.val (.int 0)) (.cons (.val (.int 0)) .nil)))) .nil) .nil) (.cons (.while (.cmp .Eq (.bin .Mod (.loc 3) (.val (.int 10))) (.val (.int 0))) (.cons (.unpack [3,1] true (.tup (.cons (.bin .FloorDiv (.loc 3) (.val (.int 10))) (.cons (.bin .Add (.loc 1) (.val (.int 1))) .nil)))) .nil)) (.cons (.asg 5 (.bin .Sub (.bin .Add (.loc 1) (.call 93 (.cons (.loc 3) .nil))) (.val (.int 1)))) (.cons (.ite (.cmp .Gt (.loc 5) (.val (.int 99))) (.cons (.raise (.cons (.val (.str "OV")) .nil)) .nil) .nil) (.cons (.ite (.cmp .Lt (.loc 5) (.neg (.val (.int 99)))) (.cons (.ret (.tup (.cons (.val (.int 0)) (.cons (.val (.int 0)) .nil)))) .nil) .nil) (.cons (.ret (.tup (.cons (.ite (.cmp .Lt (.loc 0) (.val (.int 0))) (.neg (.loc 3)) (.loc 3)) (.cons (.loc 1) .nil)))) .nil))))))
  (Kn true n) [some (.int c),some (.int e),some (.int m),some (.int s),y,none] st=some so/\so.fin=(em (decide (c<0)) s e).res.out st:=by
 unfold em
 have t0:∀(s:Nat),cu (.cmp .Eq (.loc 3) (.val (.int 0))) (Kn true n) [some (.int c),some (.int e),some (.int m),some (.int s),y,none] st=some (.ok ((s:Int)==0) st):=fun _=>rfl
 by_cases h0:s=0
 ·rw [if_pos h0]
  exact ⟨_,ao (aF (t0 s) (by rw [beq_iff_eq];lia) (ao rfl)),rfl⟩
 ·rw [if_neg h0]
  obtain ⟨l1,l2,l3⟩:=iU (c:=c) (m:=m) (x:=y) (y:=none) (K:=Kn true n) (st:=st) s s e (by lia) (Nat.le_refl _)
  unfold strip
  generalize bj s s e=z at l1 l2 l3
  obtain ⟨s2,e2⟩:=z
  have hf:=(gp s2).at (n:=n) (st:=st) hn
  have a1:ev (.bin .Sub (.bin .Add (.loc 1) (.call 93 (.cons (.loc 3) .nil))) (.val (.int 1))) (Kn true n) [some (.int c),some (.int e2),some (.int m),some (.int s2),y,none] st=some (.ok (.int (e2+aX s2-1)) st):=
   aJ (aJ rfl (ag rfl hf) rfl) rfl rfl
  unfold lE
  generalize hF:e2+(aX s2:Int)-1=F at a1
  have t1:cu (.cmp .Gt (.loc 5) (.val (.int 99))) (Kn true n) [some (.int c),some (.int e2),some (.int m),some (.int s2),y,some (.int F)] st=some (.ok (decide (F>99)) st):=rfl
  have t2:cu (.cmp .Lt (.loc 5) (.neg (.val (.int 99)))) (Kn true n) [some (.int c),some (.int e2),some (.int m),some (.int s2),y,some (.int F)] st=some (.ok (decide (F < -99)) st):=rfl
  have t3:cu (.cmp .Lt (.loc 0) (.val (.int 0))) (Kn true n) [some (.int c),some (.int e2),some (.int m),some (.int s2),y,some (.int F)] st=some (.ok (decide (c<0)) st):=rfl
  by_cases h1:F>99
  ·rw [if_pos h1]
   exact ⟨_,aa (am (t0 s) (by rw [beq_eq_false_iff_ne];lia) rfl) (aa l1 (aa (aD a1) (aH (aF t1 (by simpa using h1) (aH (ch rfl hn rfl (cn rfl))))))),rfl⟩
  ·rw [if_neg h1]
   by_cases h2:F < -99
   ·rw [if_pos h2]
    exact ⟨_,aa (am (t0 s) (by rw [beq_eq_false_iff_ne];lia) rfl) (aa l1 (aa (aD a1) (aa (am t1 (by simpa using h1) rfl) (ao (aF t2 (by simpa using h2) (ao rfl)))))),rfl⟩
   ·rw [if_neg h2]
    refine ⟨.ret (dec (if decide (c<0) then -(s2:Int) else s2) e2) st,aa (am (t0 s) (by rw [beq_eq_false_iff_ne];lia) rfl) (aa l1 (aa (aD a1) (aa (am t1 (by simpa using h1) rfl) (aa (am t2 (by simpa using h2) rfl) (ao (aK (aL (ac ?_ (ac rfl rfl)) (cn rfl)))))))),rfl⟩
    by_cases h3:c<0
    ·simp only [h3,decide_true,if_true];exact aS t3 (by simpa using h3) rfl
    ·simp only [h3,decide_false,Bool.false_eq_true,if_false];exact bK t3 (by simpa using h3) rfl
theorem sf {m:Nat} (h:m<10^2000):(aX m:Int)<=2000:=by
 have:=gk (k:=2000) (by decide) h
 lia
theorem fk (c e:Int) (hc:c.natAbs<10^2000):Pu 3 107 [.int c,.int e,.int 6] (bY c e).res:=Pu.of (E:=yE) rfl rfl fun n st hn=>by
 have hf:=(gp c.natAbs).at (n:=n) (st:=st) (br hn rfl)
 have hb:=sf hc
 have a0:ev (.prim .abs (.cons (.loc 0) .nil)) (Kn true n) [some (.int c),some (.int e),some (.int 6),none,none,none] st=some (.ok (.int (c.natAbs:Nat)) st):=bJ rfl fb
 have a1:ev (.bin .Sub (.call 93 (.cons (.loc 3) .nil)) (.loc 2)) (Kn true n) [some (.int c),some (.int e),some (.int 6),some (.int (c.natAbs:Nat)),none,none] st=some (.ok (.int ((aX c.natAbs:Int)-6)) st):=
  aJ (ag rfl hf) rfl rfl
 unfold bY
 generalize hM:(aX c.natAbs:Int)-6=M at a1
 have t1:cu (.cmp .Gt (.loc 4) (.val (.int 0))) (Kn true n) [some (.int c),some (.int e),some (.int 6),some (.int (c.natAbs:Nat)),some (.int M),none] st=some (.ok (decide (M>0)) st):=rfl
 by_cases h:M>0
 ·rw [if_pos h]
  have hr:=(mv c.natAbs M (by lia)).at (n:=n) (st:=st) hn
  obtain ⟨so,h1,h2⟩:=lg (n:=n) (st:=st) (c:=c) (e:=e+M) (m:=6) (s:=roundN c.natAbs M) (y:=some (.int M)) (br hn rfl)
  refine ⟨so,aa (aD a0) (aa (aD a1) (aa (aF t1 (by simpa using h) (aa (bc (aL (ac (ag rfl hr) (ac rfl rfl)) (cn rfl)) rfl) rfl)) h1)),h2⟩
 ·rw [if_neg h]
  obtain ⟨so,h1,h2⟩:=lg (n:=n) (st:=st) (c:=c) (e:=e) (m:=6) (s:=c.natAbs) (y:=some (.int M)) (br hn rfl)
  exact ⟨so,aa (aD a0) (aa (aD a1) (aa (am t1 (by simpa using h) rfl) h1)),h2⟩
noncomputable def Sm (c e:Int):Prop:=c.natAbs<10^7 /\ -400<=e/\e<=400
noncomputable def V.Ok:V->Prop
 | .i n=> -32768<=n/\n<32768
 | .d c e=>Sm c e
 | .s x=>x.length<=255
noncomputable def VR.Ok:VR->Prop
 | .ok v=>v.Ok
 | .exc _=>True
noncomputable def near (c e:Int):Int:=if e>=0 then c*((10^e.toNat:Nat):Int) else if c<0 then -((roundN c.natAbs (-e):Nat):Int) else (roundN c.natAbs (-e):Nat)
noncomputable def cZ (i:Int):Bool:=decide (-32768<=i)&&decide (i<32768)
noncomputable def jV (i:Int):VR:=if cZ i then .ok (.i i) else .exc "OV"
noncomputable def cb:V->VR
 | .i n=>jV n
 | .d c e=>jV (near c e)
 | .s _=>.exc "TM"
noncomputable def bk:V->VR
 | .i n=>bY n 0
 | .d c e=>bY c e
 | .s _=>.exc "TM"
noncomputable def kC:V->VR
 | .s x=>if x.length>255 then .exc "LS" else .ok (.s x)
 | _=>.exc "TM"
inductive Kd where
 | text | whole | decimal
noncomputable def Kd.str:Kd->Str
 | .text=>"text"
 | .whole=>"whole"
 | .decimal=>"decimal"
noncomputable def dp:Kd->V->VR
 | .text=>kC
 | .whole=>cb
 | .decimal=>bk
theorem gH {c:Int} (h:c.natAbs<10^7):lS c=true:=by
 unfold lS
 rw [decide_eq_true_iff]
 lia
theorem gi {a b:Int} (h:lS a=true):binI .Mult (.int a) (.int b)=some (.int (a*b)):=by
 show (if (lS a||lS b)=true then some (RV.int (a*b)) else none)=_
 rw [h];rfl
theorem ux {c e:Int} (h:Sm c e):Pu 3 114 [dec c e] (.ok (.int (near c e))):=Pu.of (E:=yA) rfl rfl fun n st hn=>by
 obtain ⟨h1,h2,h3⟩:=h
 unfold near
 have t1:cu (.cmp .GtE (.loc 2) (.val (.int 0))) (Kn true n) [some (dec c e),some (.int c),some (.int e),none] st=some (.ok (decide (e>=0)) st):=rfl
 by_cases q:e>=0
 ·rw [if_pos q]
  refine ⟨_,aa (bc rfl rfl) (ao (aF t1 (by simpa using q) (ao (aK (aJ rfl (aJ rfl rfl ?_) (gi (gH h1))))))),rfl⟩
  have:=iM (p:=e.toNat) (by lia)
  rwa [Int.toNat_of_nonneg q] at this
 ·rw [if_neg q]
  have hr:=(mv c.natAbs (-e) (by lia)).at (n:=n) (st:=st) (br hn rfl)
  have a1:ev (.call 100 (.cons (.prim .abs (.cons (.loc 1) .nil)) (.cons (.neg (.loc 2)) .nil))) (Kn true n) [some (dec c e),some (.int c),some (.int e),none] st=some (.ok (.int (roundN c.natAbs (-e):Nat)) st):=
   ag (ac (bJ rfl fb) (ac rfl rfl)) hr
  have t2:cu (.cmp .Lt (.loc 1) (.val (.int 0))) (Kn true n) [some (dec c e),some (.int c),some (.int e),some (.int (roundN c.natAbs (-e):Nat))] st=some (.ok (decide (c<0)) st):=rfl
  by_cases q2:c<0
  ·rw [if_pos q2]
   exact ⟨_,aa (bc rfl rfl) (aa (am t1 (by simpa using q) rfl) (aa (aD a1) (ao (aK (aS t2 (by simpa using q2) rfl))))),rfl⟩
  ·rw [if_neg q2]
   exact ⟨_,aa (bc rfl rfl) (aa (am t1 (by simpa using q) rfl) (aa (aD a1) (ao (aK (bK t2 (by simpa using q2) rfl))))),rfl⟩
theorem lQ (i:Int):Pu 1 121 [.int i,.int 16] (.ok (.bool (cZ i))):=Pu.of (E:=yj) rfl rfl fun n st hn=>by
 refine ⟨.ret (.bool (cZ i)) st,ao (aK ?_),rfl⟩
 show (if decide (-32768<=i)=true then some (Out.ok (RV.bool (decide (i<32768))) st) else some (.ok (.bool false) st))=_
 unfold cZ
 cases decide (-32768<=i) <;> rfl
theorem kO {n:Nat} {st:ai} {v:RV} (hn:1<=n) (i:Int):∃so,bV (.cons (.ite (.not (.call 121 (.cons (.loc 2) (.cons (.loc 1) .nil)))) (.cons (.raise (.cons (.val (.str "OV")) .nil)) .nil) .nil) (.cons (.ret (.loc 2)) .nil)) (Kn true n) [some v,some (.int 16),some (.int i)] st=some so/\so.fin=(jV i).res.out st:=by
 have hf:=(lQ i).at (n:=n) (st:=st) hn
 have t:cu (.not (.call 121 (.cons (.loc 2) (.cons (.loc 1) .nil)))) (Kn true n) [some v,some (.int 16),some (.int i)] st=some (.ok (!cZ i) st):=ci (kB (ag rfl hf))
 unfold jV
 by_cases q:cZ i=true
 ·rw [if_pos q];exact ⟨_,aa (am t (by rw [q];rfl) rfl) (ao rfl),rfl⟩
 ·rw [if_neg q];exact ⟨_,aH (aF t (by simpa using q) (aH (ch rfl hn rfl (cn rfl)))),rfl⟩
theorem ja {v:V} (h:v.Ok):Pu 4 128 [v.rv,.int 16] (cb v).res:=Pu.of (E:=yW) rfl rfl fun n st hn=>by
 cases v with
 | i m=>
  obtain ⟨so,h1,h2⟩:=kO (n:=n) (st:=st) (v:=.int m) (br hn rfl) m
  exact ⟨so,aa (am (b:=false) rfl rfl rfl) (aa (aD (bK (b:=false) rfl rfl rfl)) h1),h2⟩
 | d c e=>
  obtain ⟨so,h1,h2⟩:=kO (n:=n) (st:=st) (v:=dec c e) (br hn rfl) (near c e)
  exact ⟨so,aa (am (b:=false) rfl rfl rfl) (aa (aD (aS (b:=true) rfl rfl (ag rfl ((ux h).at hn)))) h1),h2⟩
 | s x=>exact ⟨_,aH (aF (b:=true) rfl rfl (aH (ch rfl (by show 0<n;lia) rfl (cn rfl)))),rfl⟩
theorem wy {c e:Int} (h:Sm c e):c.natAbs<10^2000:=Nat.lt_of_lt_of_le h.1 (bu (by decide))
theorem dM {a:Int} (h:(V.i a).Ok):a.natAbs<10^7:=by obtain ⟨h1,h2⟩:=h;omega
theorem d9 {v:V} (h:v.Ok):Pu 4 135 [v.rv,.int 6] (bk v).res:=Pu.of (E:=zR) rfl rfl fun n st hn=>by
 cases v with
 | i m=>
  have hm:m.natAbs<10^2000:=Nat.lt_of_lt_of_le (dM h) (bu (by decide))
  have:=(fk m 0 hm).at (n:=n) (st:=st) hn
  exact ⟨_,aa (am (b:=false) rfl rfl rfl) (aZ (bK (b:=false) rfl rfl (ag rfl this))),Res.so_fin⟩
 | d c e=>
  have:=(fk c e (wy h)).at (n:=n) (st:=st) hn
  exact ⟨_,aa (am (b:=false) rfl rfl rfl) (aZ (aS (b:=true) rfl rfl (ag rfl this))),Res.so_fin⟩
 | s x=>exact ⟨_,aH (aF (b:=true) rfl rfl (aH (ch rfl (by show 0<n;lia) rfl (cn rfl)))),rfl⟩
theorem u4 (v:V):Pu 2 142 [v.rv] (match v with | .s x=>Res.ok (.str x) | _=>.exc "TM"):=Pu.of (E:=zn) rfl rfl fun n st hn=>by
 cases v with
 | s x=>exact ⟨_,aa (am (b:=false) rfl rfl rfl) (ao rfl),rfl⟩
 | _=>exact ⟨_,aH (aF (b:=true) rfl rfl (aH (ch rfl (by show 0<n;lia) rfl (cn rfl)))),rfl⟩
theorem iY (x:Str) (h:x.length<2^63):Pu 2 149 [.str x] (if x.length>255 then .exc "LS" else .ok (.str x)):=Pu.of (E:=zq) rfl rfl fun n st hn=>by
 have t:cu (.cmp .Gt (.prim .len (.cons (.loc 0) .nil)) (.val (.int 255))) (Kn true n) [some (.str x)] st=some (.ok (decide ((x.length:Int)>255)) st):=
  ci (bZ (bJ rfl (show callB .len st [.str x]=some (.int x.length) from if_pos h)) rfl rfl)
 by_cases q:x.length>255
 ·rw [if_pos q];exact ⟨_,aH (aF t (by rw [decide_eq_true_iff];lia) (aH (ch rfl (by show 0<n;lia) rfl (cn rfl)))),rfl⟩
 ·rw [if_neg q];exact ⟨_,aa (am t (by rw [decide_eq_false_iff_not];lia) rfl) (ao rfl),rfl⟩
theorem gS {v:V} (h:v.Ok) (k:Kd):Pu 5 156 [v.rv,.str k.str,.int 16,.int 6] (dp k v).res:=Pu.of (E:=zN) rfl rfl fun n st hn=>by
 cases k with
 | text=>
  have h1:=(u4 v).at (n:=n) (st:=st) (br hn rfl)
  cases v with
  | s x=>
   have h2:=(iY x (Nat.lt_of_le_of_lt h (by decide))).at (n:=n) (st:=st) (br hn rfl)
   have e:(dp .text (.s x)).res=(if x.length>255 then Res.exc "LS" else .ok (.str x)):=by
    show (if x.length>255 then VR.exc "LS" else .ok (.s x)).res=_
    split <;> rfl
   rw [e]
   exact ⟨_,l8 (aF (b:=true) rfl rfl (aZ (ag (ac (ag rfl h1) rfl) h2))),Res.so_fin⟩
  | i m=>exact ⟨_,aH (aF (b:=true) rfl rfl (aH (eO (gy (cm (ag rfl h1)))))),rfl⟩
  | d c e=>exact ⟨_,aH (aF (b:=true) rfl rfl (aH (eO (gy (cm (ag rfl h1)))))),rfl⟩
 | whole=>exact ⟨_,aa (am (b:=false) rfl rfl rfl) (aZ (aS (b:=true) rfl rfl (ag rfl ((ja h).at hn)))),Res.so_fin⟩
 | decimal=>exact ⟨_,aa (am (b:=false) rfl rfl rfl) (aZ (bK (b:=false) rfl rfl (ag rfl ((d9 h).at hn)))),Res.so_fin⟩
theorem ig {m:Nat} {p:Nat} (h:m<10^(p+6)) (hp:0<p):roundN m p<=10^6:=by
 have hd:m/10^p<10^6:=by
  rw [Nat.div_lt_iff_lt_mul (Nat.pow_pos (by decide)),<-Nat.pow_add,Nat.add_comm];exact h
 unfold roundN
 rw [Int.toNat_natCast]
 repeat' split
 all_goals lia
theorem jB:∀(f s:Nat) (e:Int),(bj f s e).1<=s
 | 0,s,e=>Nat.le_refl _
 | f+1,s,e=>by
  rw [bj]
  split
  ·exact Nat.le_trans (jB f _ _) (Nat.div_le_self _ _)
  ·exact Nat.le_refl _
theorem uA {b:Bool} {s:Nat} {e:Int} (h:s<=10^6):(lE b s e).Ok:=by
 unfold lE
 have h1:=gk (m:=s) (k:=7) (by decide) (by lia)
 have h2:=gB s
 split
 ·trivial
 ·split
  ·exact ⟨by decide,by decide,by decide⟩
  ·refine ⟨?_,by lia,by lia⟩
   cases b
   ·show ((s:Int)).natAbs<_;omega
   ·show (-(s:Int)).natAbs<_;omega
theorem mT {b:Bool} {s:Nat} {e:Int} (h:s<=10^6):(em b s e).Ok:=by
 unfold em
 split
 ·exact ⟨by decide,by decide,by decide⟩
 ·exact uA (Nat.le_trans (jB _ _ _) h)
theorem c8 {c e:Int}:(bY c e).Ok:=by
 unfold bY
 have h:=iJ c.natAbs
 split
 ·rename_i q
  obtain ⟨p,hp⟩:∃p:Nat,(aX c.natAbs:Int)-6=p:=Int.eq_ofNat_of_zero_le (by lia)
  rw [hp]
  refine mT (ig ?_ (by lia))
  rw [show p+6=aX c.natAbs from by lia];exact h
 ·refine mT (Nat.le_of_lt (Nat.lt_of_lt_of_le h (bu (by lia))))
noncomputable def dY (a b:Int):Int:=if b<a then b else a
noncomputable def ll (c e c' e':Int):VR:=bY (c*((10^(e-dY e e').toNat:Nat):Int)+c'*((10^(e'-dY e e').toNat:Nat):Int)) (dY e e')
noncomputable def xN (c e c' e':Int):VR:=bY (c*c') (e+e')
noncomputable def bP (s b:Nat):Nat:=8+(aX b-aX s)
noncomputable def uE (c e c' e':Int):VR:=
 if c'=0 then .exc "DZ" else
  let p:=bP c.natAbs c'.natAbs
  let z:=c.natAbs*10^p
  let w:Int:=if z%c'.natAbs=0 then (z/c'.natAbs:Nat) else (z/c'.natAbs:Nat)*10+1
  let x:Int:=if z%c'.natAbs=0 then e-e'-p else e-e'-p-1
  bY (if (decide (c<0)==decide (c'<0))=true then w else 0-w) x
theorem kE {n:Nat} {γ:Lo} {st:ai} {x y z:XE} {c d:Int} (hx:ev x (Kn true n) γ st=some (.ok (.int c) st)) (hy:ev y (Kn true n) γ st=some (.ok (.int d) st)) (hc:lS c=true) (h0:0<=d) (h1:d<=1000000) :
  ev (.bin .Mult x (.bin .Pow (.val (.int 10)) y)) (Kn true n) γ st=some (.ok (.int (c*((10^d.toNat:Nat):Int))) st):=by
 have:=iM (p:=d.toNat) (by lia)
 rw [Int.toNat_of_nonneg h0] at this
 exact aJ hx (aJ rfl hy this) (gi hc)
theorem rj {c e c' e':Int} (h:Sm c e) (h':Sm c' e'):Pu 1 289 [dec c e,dec c' e'] (.ok (.tup [.int (c*((10^(e-dY e e').toNat:Nat):Int)),.int (c'*((10^(e'-dY e e').toNat:Nat):Int)),.int (dY e e')])):=Pu.of (E:=zi) rfl rfl fun n st hn=>by
 obtain ⟨h1,h2,h3⟩:=h
 obtain ⟨g1,g2,g3⟩:=h'
 have m1:0<=e-dY e e'/\0<=e'-dY e e'/\e-dY e e'<=800/\e'-dY e e'<=800:=by unfold dY;split <;> lia
 have a0:ev (.prim .min (.cons (.idx (.loc 0) (.val (.int 1))) (.cons (.idx (.loc 1) (.val (.int 1))) .nil))) (Kn true n) [some (dec c e),some (dec c' e'),none] st=some (.ok (.int (dY e e')) st):=rfl
 generalize dY e e'=l at a0 m1
 exact ⟨_,aa (aD a0) (ao (aK (aL (ac (kE (z:=.bad) rfl rfl (gH h1) m1.1 (by omega)) (ac (kE (z:=.bad) rfl rfl (gH g1) m1.2.1 (by lia)) rfl)) (cn rfl)))),rfl⟩
theorem sV {c d:Int} {j k:Nat} (hc:c.natAbs<10^7) (hd:d.natAbs<10^7) (hj:j<=800) (hk:k<=800):(c*((10^j:Nat):Int)+d*((10^k:Nat):Int)).natAbs<10^2000:=by
 have h1:(c*((10^j:Nat):Int)).natAbs<=10^7*10^800:=by
  rw [Int.natAbs_mul,Int.natAbs_natCast];exact Nat.mul_le_mul (Nat.le_of_lt hc) (bu hj)
 have h2:(d*((10^k:Nat):Int)).natAbs<=10^7*10^800:=by
  rw [Int.natAbs_mul,Int.natAbs_natCast];exact Nat.mul_le_mul (Nat.le_of_lt hd) (bu hk)
 have h3:10^7*10^800=10^807:=by rw [<-Nat.pow_add]
 have h4:10^807*10<=10^2000:=by rw [<-Nat.pow_succ];exact bu (by decide)
 rw [h3] at h1 h2
 have h5:0<10^807:=Nat.pow_pos (by decide)
 have:=Int.natAbs_add_le (c*((10^j:Nat):Int)) (d*((10^k:Nat):Int))
 omega
theorem sD {c e c' e':Int} (h:Sm c e) (h':Sm c' e'):Pu 4 296 [dec c e,dec c' e',.int 6] (ll c e c' e').res:=Pu.of (E:=y6) rfl rfl fun n st hn=>by
 have ha:=(rj h h').at (n:=n) (st:=st) (br hn rfl)
 unfold ll
 have hm:e-dY e e'<=800/\e'-dY e e'<=800:=by obtain ⟨_,h2,h3⟩:=h;obtain ⟨_,g2,g3⟩:=h';unfold dY;split <;> lia
 have hs:=sV (j:=(e-dY e e').toNat) (k:=(e'-dY e e').toNat) h.1 h'.1 (by omega) (by omega)
 exact ⟨_,aa (bc (ag rfl ha) rfl) (aZ (ag rfl ((fk _ _ hs).at hn))),Res.so_fin⟩
theorem pu_neg {c e:Int}:Pu 1 282 [dec c e] (.ok (dec (0-c) e)):=Pu.of (E:=zE) rfl rfl fun n st hn=>⟨_,ao rfl,rfl⟩
theorem mM {W:Int} {k:Nat} (h:W.natAbs<k):(0-W).natAbs<k:=by rw [Int.zero_sub,Int.natAbs_neg];exact h
theorem uP {c:Prop} [Decidable c] {W:Int} {k:Nat} (h:W.natAbs<k):(if c then W else 0-W).natAbs<k:=by
 by_cases q:c
 ·rw [if_pos q];exact h
 ·rw [if_neg q];exact mM h
theorem xE {c e:Int} (h:Sm c e):Sm (0-c) e:=⟨mM h.1,h.2⟩
theorem wo {c e c' e':Int} (h:Sm c e) (h':Sm c' e'):Pu 5 303 [dec c e,dec c' e',.int 6] (ll c e (0-c') e').res:=Pu.of (E:=ym) rfl rfl fun n st hn=>
 ⟨_,aZ (ag (ac rfl (ac (ag rfl (pu_neg.at (br hn rfl))) rfl)) ((sD h (xE h')).at hn)),Res.so_fin⟩
theorem nv {c d:Int} (hc:c.natAbs<10^7) (hd:d.natAbs<10^7):(c*d).natAbs<10^2000:=by
 rw [Int.natAbs_mul]
 have:=Nat.mul_le_mul (Nat.le_of_lt hc) (Nat.le_of_lt hd)
 have h4:10^14<10^2000:=Nat.pow_lt_pow_right (by decide) (by decide)
 exact Nat.lt_of_le_of_lt this h4
theorem xR {c e c' e':Int} (h:Sm c e) (h':Sm c' e'):Pu 4 310 [dec c e,dec c' e',.int 6] (xN c e c' e').res:=Pu.of (E:=zL) rfl rfl fun n st hn=>
 ⟨_,aZ (ag (ac (aJ rfl rfl (gi (gH h.1))) rfl) ((fk _ _ (nv h.1 h'.1)).at hn)),Res.so_fin⟩
theorem uG (w r:Nat) (x:Int):Pu 1 317 [.int w,.int r,.int x] (.ok (dec (if r=0 then (w:Int) else (w:Int)*10+1) (if r=0 then x else x-1))):=Pu.of (E:=yo) rfl rfl fun n st hn=>by
 have t:cu (.cmp .Eq (.loc 1) (.val (.int 0))) (Kn true n) [some (.int w),some (.int r),some (.int x)] st=some (.ok ((r:Int)==0) st):=rfl
 by_cases q:r=0
 ·rw [if_pos q,if_pos q];exact ⟨_,ao (aK (aS t (by rw [beq_iff_eq];lia) rfl)),rfl⟩
 ·rw [if_neg q,if_neg q]
  have:binI .Mult (.int w) (.int 10)=some (.int ((w:Int)*10)):=pP
  exact ⟨_,ao (aK (bK t (by rw [beq_eq_false_iff_ne];lia) (aL (ac (aJ (aJ rfl rfl this) rfl rfl) rfl) (cn rfl)))),rfl⟩
theorem uM {a b:Nat}:(if (a:Int)-b>0 then (a:Int)-b else 0)=((a-b:Nat):Int):=by
 split <;> lia
theorem un {a b:Nat} {st:ai}:callB .max st [.int 0,.int ((a:Int)-b)]=some (.int (a-b:Nat)):=by
 show some (RV.int (if (a:Int)-b>0 then (a:Int)-b else 0))=_
 rw [uM]
theorem re {a b w z:Nat} (h:w<=10*z+1) (hz:z<=10^40):w<10^2000:=by
 have h4:10^42<=10^2000:=bu (by decide)
 lia
theorem vY {m:Nat} (h:m<10^7):aX m<=7:=gk (by decide) h
theorem ite_int {b:Bool} {n:Nat} {γ:Lo} {st:ai} {t x y:XE} {i j:Int} (h:cu t (Kn true n) γ st=some (.ok b st)) (h1:ev x (Kn true n) γ st=some (.ok (.int i) st)) (h2:ev y (Kn true n) γ st=some (.ok (.int j) st)) :
  ev (.ite t x y) (Kn true n) γ st=some (.ok (.int (if b=true then i else j)) st):=by
 cases b with
 | true=>exact aS h rfl h1
 | false=>exact bK h rfl h2
theorem xn {c e c' e':Int} (h:Sm c e) (h':Sm c' e'):Pu 4 324 [dec c e,dec c' e',.int 6] (uE c e c' e').res:=Pu.of (E:=yh) rfl rfl fun n st hn=>by
 unfold uE
 have t0:cu (.cmp .Eq (.idx (.loc 1) (.val (.int 0))) (.val (.int 0))) (Kn true n) [some (dec c e),some (dec c' e'),some (.int 6),none,none,none,none,none] st=some (.ok (c'==0) st):=rfl
 by_cases q:c'=0
 ·rw [if_pos q]
  exact ⟨_,aH (aF t0 (by simpa using q) (aH (ch rfl (by show 0<n;lia) rfl (cn rfl)))),rfl⟩
 ·rw [if_neg q]
  dsimp only
  have hb:0<c'.natAbs:=by lia
  have a1:ev (.tup (.cons (.prim .abs (.cons (.idx (.loc 0) (.val (.int 0))) .nil)) (.cons (.prim .abs (.cons (.idx (.loc 1) (.val (.int 0))) .nil)) .nil))) (Kn true n) [some (dec c e),some (dec c' e'),some (.int 6),none,none,none,none,none] st=some (.ok (.tup [.int (c.natAbs:Nat),.int (c'.natAbs:Nat)]) st):=
   aL (ac (bJ rfl fb) (ac (bJ rfl fb) rfl)) (cn rfl)
  have hs:c.natAbs<10^7:=h.1
  have hd:c'.natAbs<10^7:=h'.1
  have fs:=vY hs
  have fd:=vY hd
  have hfb:=(gp c'.natAbs).at (n:=n) (st:=st) (br hn rfl)
  have hfs:=(gp c.natAbs).at (n:=n) (st:=st) (br hn rfl)
  have hx:((c.natAbs*10^bP c.natAbs c'.natAbs:Nat):Int)=((c.natAbs:Nat):Int)*((10^bP c.natAbs c'.natAbs:Nat):Int):=rfl
  have a2:ev (.bin .Add (.bin .Add (.loc 2) (.val (.int 2))) (.prim .max (.cons (.val (.int 0)) (.cons (.bin .Sub (.call 93 (.cons (.loc 4) .nil)) (.call 93 (.cons (.loc 3) .nil))) .nil)))) (Kn true n) [some (dec c e),some (dec c' e'),some (.int 6),some (.int (c.natAbs:Nat)),some (.int (c'.natAbs:Nat)),none,none,none] st=some (.ok (.int (bP c.natAbs c'.natAbs:Nat)) st):=by
   have:binI .Add (.int 8) (.int (aX c'.natAbs-aX c.natAbs:Nat))=some (.int (bP c.natAbs c'.natAbs:Nat)):=by
    show some (RV.int (8+((aX c'.natAbs-aX c.natAbs:Nat):Int)))=_
    unfold bP;congr 2
   exact aJ rfl (bJ (ac rfl (ac (aJ (ag rfl hfb) (ag rfl hfs) rfl) rfl)) un) this
  have hp:bP c.natAbs c'.natAbs<=20:=by unfold bP;lia
  have hc:lS ((c.natAbs:Nat):Int)=true:=gH (by simpa using hs)
  have hz:c.natAbs*10^bP c.natAbs c'.natAbs<=10^40:=by
   have:=Nat.mul_le_mul (Nat.le_of_lt hs) (bu hp)
   rw [<-Nat.pow_add] at this
   exact Nat.le_trans this (bu (by decide))
  have a3:ev (.bin .Mult (.loc 3) (.bin .Pow (.val (.int 10)) (.loc 5))) (Kn true n) [some (dec c e),some (dec c' e'),some (.int 6),some (.int (c.natAbs:Nat)),some (.int (c'.natAbs:Nat)),some (.int (bP c.natAbs c'.natAbs:Nat)),none,none] st =
    some (.ok (.int ((c.natAbs*10^bP c.natAbs c'.natAbs:Nat):Int)) st):=by
   rw [hx];exact aJ rfl (aJ rfl rfl (iM (by lia))) (gi hc)
  generalize c.natAbs*10^bP c.natAbs c'.natAbs=z at a3 hz ⊢
  generalize bP c.natAbs c'.natAbs=p at a2 a3 ⊢
  have hlog:c'.natAbs.log2<9000:=by
   rw [Nat.log2_lt (by lia)]
   exact Nat.lt_of_lt_of_le hd (Nat.le_trans (Nat.pow_le_pow_left (by decide) 7) (show 16^7<=2^9000 by rw [show (16:Nat)=2^4 from rfl,<-Nat.pow_mul];exact Nat.pow_le_pow_right (by decide) (by decide)))
  have hr:=(uG (z/c'.natAbs) (z%c'.natAbs) (e-e'-p)).at (n:=n) (st:=st) (br hn rfl)
  generalize hW:(if z%c'.natAbs=0 then ((z/c'.natAbs:Nat):Int) else ((z/c'.natAbs:Nat):Int)*10+1)=W at hr ⊢
  generalize hX:(if z%c'.natAbs=0 then e-e'-(p:Int) else e-e'-(p:Int)-1)=X at hr ⊢
  have a4:ev (.call 317 (.cons (.bin .FloorDiv (.loc 3) (.loc 4)) (.cons (.bin .Mod (.loc 3) (.loc 4)) (.cons (.bin .Sub (.bin .Sub (.idx (.loc 0) (.val (.int 1))) (.idx (.loc 1) (.val (.int 1)))) (.loc 5)) .nil)))) (Kn true n) [some (dec c e),some (dec c' e'),some (.int 6),some (.int (z:Nat)),some (.int (c'.natAbs:Nat)),some (.int (p:Nat)),none,none] st=some (.ok (dec W X) st):=
   ag (ac (aJ rfl rfl (iB hb hlog)) (ac (aJ rfl rfl (fm hb)) rfl)) hr
  have hw:W.natAbs<10^2000:=by
   refine re (a:=0) (b:=0) (z:=z) ?_ hz
   have:=Nat.div_le_self z c'.natAbs
   rw [<-hW]
   generalize z/c'.natAbs=k at this ⊢
   split <;> lia
  have hm:(if (decide (c<0)==decide (c'<0))=true then W else 0-W).natAbs<10^2000:=uP hw
  exact ⟨_,aa (am t0 (by simpa using q) rfl) (aa (bc a1 rfl) (aa (aD a2) (aa (aD a3) (aa (bc a4 rfl) (aZ (ag (ac (ite_int rfl rfl rfl) rfl) ((fk _ _ hm).at hn))))))),Res.so_fin⟩
noncomputable def ph:V->Bool
 | .s _=>false
 | _=>true
noncomputable def isInt:V->Bool
 | .i _=>true
 | _=>false
theorem wM (v:V):Pu 2 352 [v.rv] (if ph v then .ok (.bool (isInt v)) else .exc "TM"):=Pu.of (E:=yL) rfl rfl fun n st hn=>by
 cases v with
 | i m=>exact ⟨_,aa (am (b:=false) rfl rfl rfl) (ao rfl),rfl⟩
 | d c e=>exact ⟨_,aa (am (b:=false) rfl rfl rfl) (ao rfl),rfl⟩
 | s x=>exact ⟨_,aH (aF (b:=true) rfl rfl (aH (ch rfl (by show 0<n;lia) rfl (cn rfl)))),rfl⟩
noncomputable def bv (i:Int):VR:=if cZ i then .ok (.i i) else bY i 0
theorem d0 (i:Int) (h:i.natAbs<10^2000):Pu 4 359 [.int i,.int 16,.int 6] (bv i).res:=Pu.of (E:=zv) rfl rfl fun n st hn=>by
 have hf:=(lQ i).at (n:=n) (st:=st) (br hn rfl)
 have t:cu (.call 121 (.cons (.loc 0) (.cons (.loc 1) .nil))) (Kn true n) [some (.int i),some (.int 16),some (.int 6)] st=some (.ok (cZ i) st):=ci (ag rfl hf)
 unfold bv
 by_cases q:cZ i=true
 ·rw [if_pos q];exact ⟨_,ao (aK (aS t q rfl)),rfl⟩
 ·rw [if_neg q];exact ⟨_,aZ (bK t (by simpa using q) (ag rfl ((fk i 0 h).at hn))),Res.so_fin⟩
inductive Op where
 | add | sub | mul | div | cut
noncomputable def Op.str:Op->Str
 | .add=>"+"
 | .sub=>"-"
 | .mul=>"*"
 | .div=>"/"
 | .cut=>"\\"
noncomputable def ww (op:Op) (a b:Int):VR:=match op with
 | .add=>bv (a+b)
 | .sub=>bv (a-b)
 | _=>bv (a*b)
theorem ot {a:Int} (h:a.natAbs<=10^14):a.natAbs<10^2000:=Nat.lt_of_le_of_lt h (Nat.pow_lt_pow_right (by decide) (by decide))
theorem wt {op:Op} (hop:op=.add\/op=.sub\/op=.mul) {a b:Int} (ha:(V.i a).Ok) (hb:(V.i b).Ok):Pu 5 366 [.str op.str,.int a,.int b,.int 16,.int 6] (ww op a b).res:=Pu.of (E:=xX) rfl rfl fun n st hn=>by
 have h1:=dM ha
 have h2:=dM hb
 rcases hop with rfl | rfl | rfl
 ·exact ⟨_,l8 (aF (b:=true) rfl rfl (aZ (ag rfl ((d0 (a+b) (ot (Nat.le_trans (Int.natAbs_add_le a b) (Nat.le_trans (Nat.add_le_add (Nat.le_of_lt h1) (Nat.le_of_lt h2)) (cn rfl))))).at hn)))),Res.so_fin⟩
 ·exact ⟨_,aa (am (b:=false) rfl rfl rfl) (aZ (ag (ac (aS (b:=true) rfl rfl rfl) rfl) ((d0 (a-b) (ot (Nat.le_trans (Int.natAbs_sub_le a b) (Nat.le_trans (Nat.add_le_add (Nat.le_of_lt h1) (Nat.le_of_lt h2)) (cn rfl))))).at hn))),Res.so_fin⟩
 ·exact ⟨_,aa (am (b:=false) rfl rfl rfl) (aZ (ag (ac (bK (b:=false) rfl rfl (aJ rfl rfl (gi (gH h1)))) rfl) ((d0 (a*b) (nv h1 h2)).at hn))),Res.so_fin⟩
noncomputable def iT (a b:Int):VR:=if b=0 then .exc "DZ" else .ok (.i (if (decide (a<0)==decide (b<0))=true then ((a.natAbs/b.natAbs:Nat):Int) else 0-((a.natAbs/b.natAbs:Nat):Int)))
theorem wz {a b:Int} (hb:(V.i b).Ok):Pu 2 373 [.int a,.int b] (iT a b).res:=Pu.of (E:=yV) rfl rfl fun n st hn=>by
 have t0:cu (.cmp .Eq (.loc 1) (.val (.int 0))) (Kn true n) [some (.int a),some (.int b),none] st=some (.ok (b==0) st):=rfl
 unfold iT
 by_cases q:b=0
 ·rw [if_pos q];exact ⟨_,aH (aF t0 (by simpa using q) (aH (ch rfl (by show 0<n;lia) rfl (cn rfl)))),rfl⟩
 ·rw [if_neg q]
  have h2:=dM hb
  have hlog:b.natAbs.log2<9000:=by
   rw [Nat.log2_lt (by lia)]
   exact Nat.lt_of_lt_of_le h2 (Nat.le_trans (Nat.pow_le_pow_left (by decide) 7) (show 16^7<=2^9000 by rw [show (16:Nat)=2^4 from rfl,<-Nat.pow_mul];exact Nat.pow_le_pow_right (by decide) (by decide)))
  exact ⟨_,aa (am t0 (by simpa using q) rfl) (aa (aD (aJ (bJ rfl fb) (bJ rfl fb) (iB (by lia) hlog))) (ao (aK (ite_int rfl rfl rfl)))),rfl⟩
noncomputable def VR.bind (x:VR) (f:V->VR):VR:=match x with
 | .ok v=>f v
 | .exc k=>.exc k
noncomputable def xu (x y:V):VR:=match x,y with
 | .i m,.i k=>(iT m k).bind fun q=>match q with
  | .i q=>bv q
  | _=>.exc ""
 | _,_=>.exc ""
noncomputable def vH (op:Op) (x y:V):VR:=match x,y with
 | .d c e,.d c' e'=>(match op with
  | .add=>ll c e c' e'
  | .sub=>ll c e (0-c') e'
  | .mul=>xN c e c' e'
  | _=>uE c e c' e')
 | _,_=>.exc ""
noncomputable def yp (op:Op) (x y:V):VR:=match x,y with
 | .i a,.i b=>ww op a b
 | _,_=>.exc ""
noncomputable def Op.isCut:Op->Bool
 | .cut=>true
 | _=>false
noncomputable def Op.isDiv:Op->Bool
 | .div=>true
 | _=>false
noncomputable def kg (op:Op) (a b:V):VR:=
 if op.isCut then (cb a).bind fun x=>(cb b).bind fun y=>xu x y
 else if !op.isDiv&&(isInt a&&isInt b) then yp op a b
 else (bk a).bind fun x=>(bk b).bind fun y=>vH op x y
theorem lx {i:Int} {v:V} (h:jV i=.ok v):v=.i i/\(V.i i).Ok:=by
 unfold jV at h
 split at h
 ·rename_i q
  cases h
  unfold cZ at q
  rw [Bool.and_eq_true,decide_eq_true_iff,decide_eq_true_iff] at q
  exact ⟨rfl,q⟩
 ·cases h
theorem dF {a v:V} (h:cb a=.ok v):∃m,v=.i m/\(V.i m).Ok:=by
 cases a with
 | i m=>exact ⟨m,lx h⟩
 | d c e=>exact ⟨_,lx h⟩
 | s x=>exact nomatch h
theorem tv {b:Bool} {s:Nat} {e:Int} {v:V} (h:lE b s e=.ok v):∃c x,v=.d c x:=by
 unfold lE at h
 split at h
 ·exact nomatch h
 ·split at h
  ·cases h;exact ⟨_,_,rfl⟩
  ·cases h;exact ⟨_,_,rfl⟩
theorem mt {c e:Int} {v:V} (h:bY c e=.ok v):∃c' e',v=.d c' e'/\Sm c' e':=by
 have ok:=c8 (c:=c) (e:=e)
 rw [h] at ok
 obtain ⟨c',e',rfl⟩:∃c x,v=.d c x:=by
  unfold bY em at h
  repeat' split at h
  all_goals first | (cases h;exact ⟨_,_,rfl⟩) | exact tv h
 exact ⟨c',e',rfl,ok⟩
theorem cD {a v:V} (h:bk a=.ok v):∃c e,v=.d c e/\Sm c e:=by
 cases a with
 | i m=>exact mt h
 | d c e=>exact mt h
 | s x=>exact nomatch h
noncomputable abbrev sg (x:om) (n:Nat) (γ:Lo) (a:RV) (s₁:ai):Option (Out RV):=if uw a then aq (cP x (Kn true n) γ s₁) fun l s₂=>pJ ((Kn true n).run true n) a l s₂ else none
theorem pD {n:Nat} {γ:Lo} {st s₁:ai} {i:Nat} {x:om} {f:Addr} {rs:List RV} {z:Option (Out RV)} (h0:iv γ i st=some (.ok (.stat f) st)) (hf:fnAddrs.contains f=true) (h:cP x (Kn true n) γ st=some (.ok rs s₁)) (h2:(Kn true n).run true n f rs s₁=z):ev (.vcall i x) (Kn true n) γ st=z:=
 (av h0 ((if_pos hf).trans (av h h2)):aq (iv γ i st) (sg x n γ)=z)
theorem nF {n:Nat} {γ:Lo} {st s₁:ai} {i:Nat} {x:om} {f:Addr} {k:Str} (h0:iv γ i st=some (.ok (.stat f) st)) (hf:fnAddrs.contains f=true) (h:cP x (Kn true n) γ st=some (.exc k s₁)):ev (.vcall i x) (Kn true n) γ st=some (.exc k s₁):=
 (av h0 ((if_pos hf).trans (eP h)):aq (iv γ i st) (sg x n γ)=_)
theorem rI {v:V} {n:Nat} {st:ai} (hv:ph v=true) (hn:2<=n):(Kn true n).run (Kn true n).q (Kn true n).n 352 [v.rv] st=some (.ok (.bool (isInt v)) st):=by
 have:=(wM v).at (n:=n) (st:=st) hn
 rw [if_pos hv] at this
 exact this
theorem pN {m k:Int} {v:V} (h:iT m k=.ok v) (hm:(V.i m).Ok):∃q,v=.i q/\q.natAbs<10^2000:=by
 unfold iT at h
 split at h
 ·cases h
 ·cases h
  refine ⟨_,rfl,ot ?_⟩
  have:=Nat.div_le_self m.natAbs k.natAbs
  have:=dM hm
  generalize m.natAbs/k.natAbs=z at *
  split <;> lia
noncomputable abbrev γr (op a b:RV) (p q w x y:Option RV):Lo:=[some op,some a,some b,some (.int 16),some (.int 6),p,q,w,x,y]
theorem rV {a b:V} (ha:a.Ok) (hb:b.Ok) {n:Nat} {st:ai} (hn:5<=n) {p q x y:Option RV}:∃so,ex (.ite (.or (.cmp .Eq (.loc 0) (.val (.str "\\"))) (.cmp .Eq (.loc 0) (.val (.str "MOD")))) (.cons (.asg 7 (.ite (.cmp .Eq (.loc 0) (.val (.str "\\"))) (.val (.stat 373)) (.val (.stat 380)))) (.cons (.ret (.call 359 (.cons (.vcall 7 (.cons (.call 128 (.cons (.loc 1) (.cons (.loc 3) .nil))) (.cons (.call 128 (.cons (.loc 2) (.cons (.loc 3) .nil))) .nil))) (.cons (.loc 3) (.cons (.loc 4) .nil))))) .nil)) .nil) (Kn true n) (γr (.str "\\") a.rv b.rv p q none x y) st =
  some (((cb a).bind fun x=>(cb b).bind fun y=>xu x y).res.so so st):=by
 have h1:=(ja ha).at (n:=n) (st:=st) (br hn rfl)
 have h2:=(ja hb).at (n:=n) (st:=st) (br hn rfl)
 refine ⟨γr (.str "\\") a.rv b.rv p q (some (.stat 373)) x y,aF (b:=true) rfl rfl (aa (aD (aS (b:=true) rfl rfl rfl)) ?_)⟩
 cases eA:cb a with
 | exc k=>
  rw [eA] at h1
  exact aH (eO (gy (cm (nF (f:=373) rfl (by decide) (cm (ag rfl h1))))))
 | ok v=>
  rw [eA] at h1
  cases eB:cb b with
  | exc k=>
   rw [eB] at h2
   exact aH (eO (gy (cm (nF (f:=373) rfl (by decide) (iH (ag rfl h1) (cm (ag rfl h2)))))))
  | ok w=>
   rw [eB] at h2
   obtain ⟨m,rfl,hm⟩:=dF eA
   obtain ⟨k,rfl,hk⟩:=dF eB
   have h3:=(wz (a:=m) hk).at (n:=n) (st:=st) (br hn rfl)
   show _=some (((iT m k).bind fun q=>match q with | .i q=>bv q | _=>.exc "").res.so _ st)
   cases eC:iT m k with
   | exc k=>
    rw [eC] at h3
    exact aH (eO (gy (cm (pD (f:=373) rfl (by decide) (ac (ag rfl h1) (ac (ag rfl h2) rfl)) h3))))
   | ok z=>
    rw [eC] at h3
    obtain ⟨q',rfl,hq⟩:=pN eC hm
    exact aZ (ag (ac (pD (f:=373) rfl (by decide) (ac (ag rfl h1) (ac (ag rfl h2) rfl)) h3) rfl) ((d0 q' hq).at (br hn rfl)))
theorem tR {op:Op} (hc:op.isCut=false) {a b:V} (ha:a.Ok) (hb:b.Ok) {n:Nat} {st:ai} (hn:5<=n) {p q w:Option RV}:∃so,bV (.cons (.unpack [8,9] true (.tup (.cons (.call 135 (.cons (.loc 1) (.cons (.loc 4) .nil))) (.cons (.call 135 (.cons (.loc 2) (.cons (.loc 4) .nil))) .nil)))) (.cons (.ite (.cmp .Eq (.loc 0) (.val (.str "+"))) (.cons (.ret (.call 296 (.cons (.loc 8) (.cons (.loc 9) (.cons (.loc 4) .nil))))) .nil) .nil) (.cons (.ite (.cmp .Eq (.loc 0) (.val (.str "-"))) (.cons (.ret (.call 303 (.cons (.loc 8) (.cons (.loc 9) (.cons (.loc 4) .nil))))) .nil) .nil) (.cons (.ret (.ite (.cmp .Eq (.loc 0) (.val (.str "*"))) (.call 310 (.cons (.loc 8) (.cons (.loc 9) (.cons (.loc 4) .nil)))) (.call 324 (.cons (.loc 8) (.cons (.loc 9) (.cons (.loc 4) .nil)))))) .nil)))) (Kn true n) (γr (.str op.str) a.rv b.rv p q w none none) st =
  some (((bk a).bind fun x=>(bk b).bind fun y=>vH op x y).res.so so st):=by
 have h1:=(d9 ha).at (n:=n) (st:=st) (br hn rfl)
 have h2:=(d9 hb).at (n:=n) (st:=st) (br hn rfl)
 cases eA:bk a with
 | exc k=>
  rw [eA] at h1
  exact ⟨_,aH (te (lR (cm (ag rfl h1))))⟩
 | ok v=>
  rw [eA] at h1
  cases eB:bk b with
  | exc k=>
   rw [eB] at h2
   exact ⟨_,aH (te (lR (iH (ag rfl h1) (cm (ag rfl h2)))))⟩
  | ok u=>
   rw [eB] at h2
   obtain ⟨c,e,rfl,hs⟩:=cD eA
   obtain ⟨c',e',rfl,hs'⟩:=cD eB
   have s1:ex (.unpack [8,9] true (.tup (.cons (.call 135 (.cons (.loc 1) (.cons (.loc 4) .nil))) (.cons (.call 135 (.cons (.loc 2) (.cons (.loc 4) .nil))) .nil)))) (Kn true n) (γr (.str op.str) a.rv b.rv p q w none none) st=some (.next (γr (.str op.str) a.rv b.rv p q w (some (dec c e)) (some (dec c' e'))) st):=
    bc (aL (ac (ag rfl h1) (ac (ag rfl h2) rfl)) (cn rfl)) rfl
   cases op with
   | add=>exact ⟨_,aa s1 (l8 (aF (b:=true) rfl rfl (aZ (ag rfl ((sD hs hs').at (br hn rfl))))))⟩
   | sub=>exact ⟨_,aa s1 (aa (am (b:=false) rfl rfl rfl) (l8 (aF (b:=true) rfl rfl (aZ (ag rfl ((wo hs hs').at (br hn rfl)))))))⟩
   | mul=>exact ⟨_,aa s1 (aa (am (b:=false) rfl rfl rfl) (aa (am (b:=false) rfl rfl rfl) (aZ (aS (b:=true) rfl rfl (ag rfl ((xR hs hs').at (br hn rfl)))))))⟩
   | div=>exact ⟨_,aa s1 (aa (am (b:=false) rfl rfl rfl) (aa (am (b:=false) rfl rfl rfl) (aZ (bK (b:=false) rfl rfl (ag rfl ((xn hs hs').at (br hn rfl)))))))⟩
   | cut=>exact vC hc
theorem uH {op:Op} {a b:V} (ha:a.Ok) (hb:b.Ok) (na:ph a=true) (nb:ph b=true):Pu 6 408 [.str op.str,a.rv,b.rv,.int 16,.int 6] (kg op a b).res:=Pu.of (E:=zm) rfl rfl fun n st hn=>by
 have s1:ex (.unpack [5,6] true (.tup (.cons (.call 352 (.cons (.loc 1) .nil)) (.cons (.call 352 (.cons (.loc 2) .nil)) .nil)))) (Kn true n) (γr (.str op.str) a.rv b.rv none none none none none) st=some (.next (γr (.str op.str) a.rv b.rv (some (.bool (isInt a))) (some (.bool (isInt b))) none none none) st):=
  bc (aL (ac (ag rfl (rI na (br hn rfl))) (ac (ag rfl (rI nb (br hn rfl))) rfl)) (cn rfl)) rfl
 unfold kg
 by_cases hc:op.isCut=true
 ·cases op <;> first | cases hc | skip
  rw [if_pos (show Op.cut.isCut=true from rfl)]
  obtain ⟨g,e⟩:=rV ha hb (n:=n) (st:=st) (p:=some (.bool (isInt a))) (q:=some (.bool (isInt b))) (x:=none) (y:=none) (br hn rfl)
  exact ⟨_,aa s1 (aa (am (b:=false) rfl rfl rfl) (l8 e)),Res.so_fin⟩
 ·rw [if_neg hc]
  have hc:op.isCut=false:=by simpa using hc
  have s2:ex (.ite (.cmp .Eq (.loc 0) (.val (.str "^"))) (.cons (.ret .bad) .nil) .nil) (Kn true n) (γr (.str op.str) a.rv b.rv (some (.bool (isInt a))) (some (.bool (isInt b))) none none none) st=some (.next (γr (.str op.str) a.rv b.rv (some (.bool (isInt a))) (some (.bool (isInt b))) none none none) st):=by
   cases op <;> exact am (b:=false) rfl rfl rfl
  have s3:∀z,ex (.ite (.or (.cmp .Eq (.loc 0) (.val (.str "\\"))) (.cmp .Eq (.loc 0) (.val (.str "MOD")))) z .nil) (Kn true n) (γr (.str op.str) a.rv b.rv (some (.bool (isInt a))) (some (.bool (isInt b))) none none none) st=some (.next (γr (.str op.str) a.rv b.rv (some (.bool (isInt a))) (some (.bool (isInt b))) none none none) st):=fun z=>by
   cases op <;> first | exact am (b:=false) rfl rfl rfl | cases hc
  have t4:cu (.and (.cmp .NotEq (.loc 0) (.val (.str "/"))) (.and (.loc 5) (.loc 6))) (Kn true n) (γr (.str op.str) a.rv b.rv (some (.bool (isInt a))) (some (.bool (isInt b))) none none none) st=some (.ok (!op.isDiv&&(isInt a&&isInt b)) st):=by
   generalize isInt a=z
   cases op <;> cases z <;> rfl
  by_cases hi:(!op.isDiv&&(isInt a&&isInt b))=true
  ·rw [if_pos hi]
   have hi':=hi
   rw [Bool.and_eq_true,Bool.and_eq_true] at hi
   cases a with
   | i a=>
    cases b with
    | i b=>
     have hop:op=.add\/op=.sub\/op=.mul:=by
      cases op with
      | add=>simp
      | sub=>simp
      | mul=>simp
      | div=>cases hi.1
      | cut=>cases hc
     exact ⟨_,aa s1 (aa s2 (aa (s3 _) (l8 (aF t4 hi' (aZ (ag rfl ((wt hop ha hb).at (br hn rfl)))))))),Res.so_fin⟩
    | _=>cases hi.2.2
   | _=>cases hi.2.1
  ·rw [if_neg hi]
   obtain ⟨g,e⟩:=tR hc ha hb (n:=n) (st:=st) (p:=some (.bool (isInt a))) (q:=some (.bool (isInt b))) (w:=none) (br hn rfl)
   exact ⟨_,aa s1 (aa s2 (aa (s3 _) (aa (am t4 (by simpa using hi) rfl) e))),Res.so_fin⟩
section
variable {T:Tg} {ik:IK} {it:om} {elt:XE} {tn:List Str} {fi:List Nat} {K:cK} {γ γQ:Lo} {st s₁ s₂ s₃:ai} {l xs:List RV} {x r:RV} {k:Str} {ef:Lo->ai->Option (Out RV)} {y:Out (List RV)}
noncomputable abbrev wg (T:Tg) (elt:XE) (tn:List Str) (fi:List Nat) (K:cK) (γ:Lo) (l:List RV) (s:ai):Option (Out RV):=ip T (ev elt K) (fu tn fi γ) l s
theorem du (h:sT K.q ik (cP it K γ st)=some (.ok l s₁)) (hl:l.length<16777216) (h2:bw T (ev elt K) l (fu tn fi γ) s₁=some (.ok xs s₂)):ev (.comp T ik it elt tn fi) K γ st=some (.ok (.lst xs) s₂):=
 (av h ((if_pos hl).trans (av h2 rfl)):aq (sT K.q ik (cP it K γ st)) (wg T elt tn fi K γ)=_)
theorem pW (h:sT K.q ik (cP it K γ st)=some (.ok l s₁)) (hl:l.length<16777216) (h2:bw T (ev elt K) l (fu tn fi γ) s₁=some (.exc k s₂)):ev (.comp T ik it elt tn fi) K γ st=some (.exc k s₂):=
 (av h ((if_pos hl).trans (eP h2)):aq (sT K.q ik (cP it K γ st)) (wg T elt tn fi K γ)=_)
noncomputable abbrev sU (T:Tg) (ef:Lo->ai->Option (Out RV)) (l:List RV) (st:ai) (γQ:Lo):Option (Out (List RV)):=aq (ef γQ st) fun x st₁=>aq (bw T ef l γQ st₁) fun xs st₂=>some (.ok (x::xs) st₂)
theorem dD (hp:T.put r γ=some γQ) (h:ef γQ st=some (.ok x s₁)) (h2:bw T ef l γQ s₁=some (.ok xs s₂)):bw T ef (r::l) γ st=some (.ok (x::xs) s₂):=(ak hp (av h (av h2 rfl)):(T.put r γ).bind (sU T ef l st)=_)
theorem pB (hp:T.put r γ=some γQ) (h:ef γQ st=some (.exc k s₁)):bw T ef (r::l) γ st=some (.exc k s₁):=(ak hp (eP h):(T.put r γ).bind (sU T ef l st)=_)
theorem pv (hp:T.put r γ=some γQ) (h:ef γQ st=some (.ok x s₁)) (h2:bw T ef l γQ s₁=some (.exc k s₂)):bw T ef (r::l) γ st=some (.exc k s₂):=(ak hp (av h (eP h2)):(T.put r γ).bind (sU T ef l st)=_)
end
noncomputable def V.kd:V->Kd
 | .i _=>.whole
 | .d _ _=>.decimal
 | .s _=>.text
noncomputable def isS:V->Bool
 | .s _=>true
 | _=>false
theorem vm (v:V):Pu 1 72 [v.rv] (.ok (.str v.kd.str)):=Pu.of (E:=AR) rfl rfl fun n st hn=>by
 cases v with
 | i m=>exact ⟨_,aa (am (b:=false) rfl rfl rfl) (ao rfl),rfl⟩
 | d c e=>exact ⟨_,aa (am (b:=false) rfl rfl rfl) (ao rfl),rfl⟩
 | s x=>exact ⟨_,ao (aF (b:=true) rfl rfl (ao rfl)),rfl⟩
noncomputable def Op.isAdd:Op->Bool
 | .add=>true
 | _=>false
noncomputable def lw (op:Op) (x y:Str):VR:=if op.isAdd then kC (.s (x++y)) else .exc "TM"
noncomputable def l9 (op:Op) (a b:V):VR:=match a,b with
 | .s x,.s y=>lw op x y
 | .s _,_=>.exc "TM"
 | _,.s _=>.exc "TM"
 | a,b=>kg op a b
theorem sJ (op:Op) {x y:Str} (hx:x.length<=255) (hy:y.length<=255):Pu 3 536 [.str op.str,.str x,.str y] (lw op x y).res:=Pu.of (E:=e536) rfl rfl fun n st hn=>by
 have one:∀op:Op,op.isAdd=false->∃so,bV e536.code (Kn true n) [some (.str op.str),some (.str x),some (.str y)] st=some so/\so.fin=(VR.exc "TM").res.out st:=fun op h=>by
  cases op with
  | add=>cases h
  | _=>exact ⟨_,aa (am (b:=false) rfl rfl rfl) (aH (aF (b:=true) rfl rfl (aH (ch rfl (by show 0<n;lia) rfl (cn rfl))))),rfl⟩
 unfold lw
 by_cases h:op.isAdd=true
 ·rw [if_pos h]
  cases op <;> first | cases h | skip
  have hl:(x++y).length=x.length+y.length:=Str.length_append _ _
  have a1:ev (.bin .Add (.loc 1) (.loc 2)) (Kn true n) [some (.str "+"),some (.str x),some (.str y)] st=some (.ok (.str (x++y)) st):=aJ rfl rfl (show binI .Add (.str x) (.str y)=_ from if_pos (by lia))
  have h2:=(iY (x++y) (by lia)).at (n:=n) (st:=st) (br hn rfl)
  have e:(kC (.s (x++y))).res=(if (x++y).length>255 then Res.exc "LS" else .ok (.str (x++y))):=by
   show (if (x++y).length>255 then VR.exc "LS" else .ok (.s (x++y))).res=_;split <;> rfl
  rw [e]
  exact ⟨_,aa (am (b:=false) rfl rfl rfl) (aa (am (b:=false) rfl rfl rfl) (aZ (ag (ac a1 rfl) h2))),Res.so_fin⟩
 ·rw [if_neg h];exact one op (by simpa using h)
theorem u0 (v:V):((Kd.str v.kd==("text":Str)))=isS v:=by cases v <;> rfl
theorem qB {n:Nat} {st:ai} {op:Str} {a b:V} (hn:1<=n) {y:Option RV}:ev (.comp (.one 1) .one (.cons (.tup (.cons (.loc 1) (.cons (.loc 2) .nil))) .nil) (.cmp .Eq (.call 72 (.cons (.loc 1) .nil)) (.val (.str "text"))) [".0","value"] []) (Kn true n) [some (.str op),some a.rv,some b.rv,some (.int 16),some (.int 6),y] st =
  some (.ok (.lst [.bool (isS a),.bool (isS b)]) st):=by
 have one:∀(v:V) {x:Option RV},ev (.cmp .Eq (.call 72 (.cons (.loc 1) .nil)) (.val (.str "text"))) (Kn true n) [x,some v.rv] st=some (.ok (.bool (isS v)) st):=fun v x=>
  bZ (ag rfl ((vm v).at hn)) rfl (by rw [<-u0];rfl)
 exact du (l:=[a.rv,b.rv]) rfl (show (2:Nat)<16777216 by decide) (dD rfl (one a) (dD rfl (one b) rfl))
theorem xG (op:Op) {a b:V} (ha:a.Ok) (hb:b.Ok):Pu 7 541 [.str op.str,a.rv,b.rv,.int 16,.int 6] (l9 op a b).res:=Pu.of (E:=e541) rfl rfl fun n st hn=>by
 have s1:ex (.asg 5 (.comp (.one 1) .one (.cons (.tup (.cons (.loc 1) (.cons (.loc 2) .nil))) .nil) (.cmp .Eq (.call 72 (.cons (.loc 1) .nil)) (.val (.str "text"))) [".0","value"] [])) (Kn true n) [some (.str op.str),some a.rv,some b.rv,some (.int 16),some (.int 6),none] st=some (.next [some (.str op.str),some a.rv,some b.rv,some (.int 16),some (.int 6),some (.lst [.bool (isS a),.bool (isS b)])] st):=
  aD (i:=5) (qB (n:=n) (st:=st) (op:=op.str) (a:=a) (b:=b) (y:=none) (br hn rfl))
 have mixed:isS a≠isS b->∃so,bV e541.code (Kn true n) [some (.str op.str),some a.rv,some b.rv,some (.int 16),some (.int 6),none] st=some so/\so.fin=(VR.exc "TM").res.out st:=fun h=>
  ⟨_,aa s1 (aH (aF (b:=(isS a != isS b)) rfl (by simpa using h) (aH (ch rfl (by show 0<n;lia) rfl (cn rfl))))),rfl⟩
 have num:isS a=false->isS b=false->∃so,bV e541.code (Kn true n) [some (.str op.str),some a.rv,some b.rv,some (.int 16),some (.int 6),none] st=some so/\so.fin=(kg op a b).res.out st:=fun h1 h2=>by
  rw [h1,h2] at s1
  refine ⟨_,aa s1 (aa (am (b:=false) rfl rfl rfl) (aa (am (b:=false) rfl rfl rfl) (aa (am (b:=false) (s₁:=st) ?_ rfl rfl) (aa (am (b:=false) (s₁:=st) ?_ rfl rfl) (aZ (ag rfl ((uH (op:=op) ha hb (by cases a <;> first | rfl | exact vC h1) (by cases b <;> first | rfl | exact vC h2)).at hn))))))),Res.so_fin⟩
  all_goals cases op <;> rfl
 cases a with
 | s x=>
  cases b with
  | s y=>exact ⟨_,aa s1 (aa (am (b:=false) rfl rfl rfl) (l8 (aF (b:=true) rfl rfl (aZ (ag rfl ((sJ op ha hb).at (br hn rfl))))))),Res.so_fin⟩
  | i m=>exact mixed nofun
  | d c e=>exact mixed nofun
 | i m=>
  cases b with
  | s y=>exact mixed nofun
  | i m=>exact num rfl rfl
  | d c e=>exact num rfl rfl
 | d c e=>
  cases b with
  | s y=>exact mixed nofun
  | i m=>exact num rfl rfl
  | d c e=>exact num rfl rfl
noncomputable def V.tree (v:V):RV:=.tup [.str v.kd.str,v.rv]
noncomputable def tM:V->VR
 | .d c e=>bY c e
 | v=>.ok v
theorem u1 {v:V} (h:v.Ok):Pu 5 555 [v.tree,.int 16,.int 6] (tM v).res:=Pu.of (E:=zt) rfl rfl fun n st hn=>by
 cases v with
 | i m=>
  have hf:=(lQ m).at (n:=n) (st:=st) (br hn rfl)
  have:cZ m=true:=by obtain ⟨h1,h2⟩:=h;unfold cZ;simp [h1,h2]
  rw [this] at hf
  exact ⟨_,aa (bc rfl rfl) (aa (am (b:=false) rfl rfl rfl) (ao (aK (aS (b:=true) (ci (dU (b:=true) rfl rfl (ag rfl hf))) rfl rfl)))),rfl⟩
 | d c e=>exact ⟨_,aa (bc rfl rfl) (aa (am (b:=false) rfl rfl rfl) (aZ (bK (b:=false) rfl rfl (ag rfl ((d9 h).at hn))))),Res.so_fin⟩
 | s x=>exact ⟨_,aa (bc rfl rfl) (ao (aF (b:=true) rfl rfl (ao rfl))),rfl⟩
theorem VR.bind_inv {x:VR} {f:V->VR} {v:V} (h:x.bind f=.ok v):∃u,x=.ok u/\f u=.ok v:=by
 cases x with
 | ok u=>exact ⟨u,rfl,h⟩
 | exc k=>exact nomatch h
theorem xg {i:Int}:(jV i).Ok:=by
 cases q:jV i with
 | exc k=>trivial
 | ok v=>obtain ⟨rfl,h⟩:=lx q;exact h
theorem pz (x:Str):(kC (.s x)).Ok:=by
 show (if x.length>255 then VR.exc "LS" else .ok (.s x)).Ok
 by_cases q:x.length>255
 ·rw [if_pos q];trivial
 ·rw [if_neg q];exact Nat.le_of_not_lt q
theorem pE (k:Kd) (v:V):(dp k v).Ok:=by
 cases k with
 | text=>
  cases v with
  | s x=>exact pz x
  | _=>trivial
 | whole=>cases v with
  | s x=>trivial
  | _=>exact xg
 | decimal=>cases v with
  | s x=>trivial
  | _=>exact c8
theorem xt {v:V} (h:v.Ok):(tM v).Ok:=by
 cases v with
 | d c e=>exact c8
 | _=>exact h
theorem jL {i:Int}:(bv i).Ok:=by
 unfold bv
 split
 ·rename_i q
  unfold cZ at q
  rw [Bool.and_eq_true,decide_eq_true_iff,decide_eq_true_iff] at q
  exact q
 ·exact c8
theorem VR.Ok.bind {x:VR} {f:V->VR} (h:∀v,x=.ok v->(f v).Ok):(x.bind f).Ok:=by
 cases x with
 | ok v=>exact h v rfl
 | exc k=>trivial
theorem uu {op:Op} {a b:V}:(kg op a b).Ok:=by
 unfold kg
 split
 ·refine .bind fun x hx=>.bind fun y hy=>?_
  obtain ⟨m,rfl,hm⟩:=dF hx
  obtain ⟨k,rfl,hk⟩:=dF hy
  refine VR.Ok.bind (x:=iT m k) fun v hv=>?_
  obtain ⟨q,rfl,_⟩:=pN hv hm
  exact jL
 ·split
  ·rename_i q
   unfold yp ww
   cases a <;> cases b <;> first | trivial | (cases op <;> exact jL)
  ·refine .bind fun x hx=>.bind fun y hy=>?_
   obtain ⟨c,e,rfl,_⟩:=cD hx
   obtain ⟨c',e',rfl,_⟩:=cD hy
   unfold vH ll xN uE
   cases op <;> first | exact c8 | (dsimp only;split <;> first | trivial | exact c8)
theorem xb {op:Op} {a b:V}:(l9 op a b).Ok:=by
 unfold l9 lw
 cases a <;> cases b <;> first | trivial | exact uu | (dsimp only;split <;> first | trivial | exact pz _)
inductive Nm where
 | x | y | z | u | t | q | r | a | b | c
noncomputable def Nm.str:Nm->Str
 | .x=>"X" | .y=>"Y%" | .z=>"Z" | .u=>"U$" | .t=>"T$" | .q=>"Q" | .r=>"Q%" | .a=>"FNA" | .b=>"FNB%" | .c=>"FNT$"
noncomputable def Nm.kd:Nm->Kd
 | .y=>.whole | .r=>.whole | .b=>.whole | .u=>.text | .t=>.text | .c=>.text | _=>.decimal
noncomputable def Nm.all:List Nm:=[.x,.y,.z,.u,.t,.q,.r,.a,.b,.c]
noncomputable def Nm.of (s:Str):Option Nm:=Nm.all.find? fun n=>decide (n.str=s)
theorem Nm.of_str (n:Nm):Nm.of n.str=some n:=by cases n <;> rfl
theorem Nm.inj {m n:Nm} (h:m.str=n.str):m=n:=Option.some.inj (by rw [<-Nm.of_str m,h,Nm.of_str])
theorem Nm.mem (n:Nm):n.str∈Nm.all.map Nm.str:=by cases n <;> simp [Nm.all]
noncomputable abbrev En:=Nm->Option V
noncomputable def En.put (ρ:En) (x:Nm) (v:Option V):En:=fun y=>if y.str=x.str then v else ρ y
structure NR (N:List (Str×RV)) (ρ:En):Prop where
 one:(N.map (·.1)).Nodup
 keys:∀k∈N.map (·.1),∃x:Nm,k=x.str
 look:∀x:Nm,N.lookup x.str=(ρ x).map V.rv
theorem mem_lookup:∀{l:List (Str×RV)} {k:Str} {r:RV},(l.map (·.1)).Nodup->(k,r)∈l->l.lookup k=some r
 | (k',r')::l,k,r,h,m=>by
  rw [List.map_cons,List.nodup_cons] at h
  rcases List.mem_cons.mp m with e | m
  ·cases e;simp
  ·have hne:k≠k':=fun e=>h.1 (by rw [<-e];exact List.mem_map.mpr ⟨_,m,rfl⟩)
   rw [List.lookup_cons,show (k==k')=false from by simpa using hne]
   exact mem_lookup h.2 m
theorem lookup_none:∀{l:List (Str×RV)} {k:Str},k∉l.map (·.1)->l.lookup k=none
 | [],k,h=>rfl
 | (k',r')::l,k,h=>by
  rw [List.map_cons,List.mem_cons,not_or] at h
  rw [List.lookup_cons,show (k==k')=false from by simpa using h.1]
  exact lookup_none h.2
theorem lz {α:Type} [DecidableEq α]:∀{l m:List α},l.Nodup->(∀x∈l,x∈m)->l.length<=m.length
 | [],m,_,_=>Nat.zero_le _
 | x::l,m,h,s=>by
  rw [List.nodup_cons] at h
  have hm:=s x (.head _)
  have:=lz (l:=l) (m:=m.erase x) h.2 fun y hy=>(List.mem_erase_of_ne (fun e=>h.1 (by rw [<-e];exact hy))).mpr (s y (.tail _ hy))
  rw [List.length_erase_of_mem hm] at this
  have:=List.length_pos_of_mem hm
  simp only [List.length_cons];lia
theorem NR.short {N:List (Str×RV)} {ρ:En} (h:NR N ρ):N.length<16777216:=by
 have:=lz h.one (m:=Nm.all.map Nm.str) fun k hk=>by obtain ⟨x,rfl⟩:=h.keys k hk;exact x.mem
 rw [List.length_map] at this
 exact Nat.lt_of_le_of_lt this (by decide)
theorem ij {l:List (Str×RV)} {k:Str} {r:RV}:(ay l k r).map (·.1)=if k∈l.map (·.1) then l.map (·.1) else l.map (·.1)++[k]:=by
 unfold ay
 have:(l.any fun p=>decide (p.1=k))=decide (k∈l.map (·.1)):=by
  rw [Bool.eq_iff_iff,List.any_eq_true,decide_eq_true_iff,List.mem_map]
  exact ⟨fun ⟨p,m,e⟩=>⟨p,m,of_decide_eq_true e⟩,fun ⟨p,m,e⟩=>⟨p,m,decide_eq_true e⟩⟩
 rw [this]
 by_cases q:k∈l.map (·.1)
 ·rw [if_pos (by simpa using q),if_pos q,List.map_map]
  refine List.map_congr_left fun p _=>?_
  show (if p.1=k then (p.1,r) else p).1=p.1
  split <;> rfl
 ·rw [if_neg (by simpa using q),if_neg q,List.map_append];rfl
theorem jC {k k':Str} {r:RV}:∀{l:List (Str×RV)},(l.map fun p=>if p.1=k then (p.1,r) else p).lookup k'=if k'=k then (l.lookup k').map (fun _=>r) else l.lookup k'
 | []=>by split <;> rfl
 | (x,r')::l=>by
  rw [List.map_cons,List.lookup_cons]
  have ih:=jC (k:=k) (k':=k') (r:=r) (l:=l)
  by_cases q:x=k
  ·rw [if_pos q]
   by_cases q':k'=x
   ·simp [q',q]
   ·rw [List.lookup_cons,show (k'==x)=false from by simpa using q',ih]
  ·rw [if_neg q]
   by_cases q':k'=x
   ·subst q';rw [if_neg q];simp
   ·rw [List.lookup_cons,show (k'==x)=false from by simpa using q',ih]
theorem ir {k k':Str} {r:RV}:∀{l:List (Str×RV)},(l++[(k,r)]).lookup k'=(l.lookup k').or (if k'=k then some r else none)
 | []=>by
  show ([(k,r)]:List (Str×RV)).lookup k'=_
  rw [List.lookup_cons]
  by_cases q:k'=k
  ·simp [q]
  ·rw [show (k'==k)=false from by simpa using q,if_neg q];rfl
 | (x,r')::l=>by
  rw [List.cons_append,List.lookup_cons,List.lookup_cons,ir]
  cases k'==x <;> rfl
theorem bH {l:List (Str×RV)} {k k':Str} {r:RV}:(ay l k r).lookup k'=if k'=k then some r else l.lookup k':=by
 unfold ay
 split
 ·rename_i h
  obtain ⟨p,m,e⟩:=List.any_eq_true.mp h
  rw [jC]
  by_cases q:k'=k
  ·rw [if_pos q,if_pos q,q]
   cases z:l.lookup k with
   | some _=>rfl
   | none=>
    rw [List.lookup_eq_none_iff] at z
    have:=z p m
    rw [of_decide_eq_true e] at this
    simp at this
  ·rw [if_neg q,if_neg q]
 ·rename_i h
  rw [ir]
  by_cases q:k'=k
  ·rw [if_pos q,if_pos q,q,lookup_none fun m=>h ?_]
   ·rfl
   ·obtain ⟨p,m,e⟩:=List.mem_map.mp m
    exact List.any_eq_true.mpr ⟨p,m,decide_eq_true e⟩
  ·rw [if_neg q,if_neg q];cases l.lookup k' <;> rfl
theorem eN {k k':Str}:∀{l:List (Str×RV)},(bU l k).lookup k'=if k'=k then none else l.lookup k'
 | []=>by split <;> rfl
 | (x,r)::l=>by
  have ih:=eN (k:=k) (k':=k') (l:=l)
  unfold bU at ih ⊢
  rw [List.filter_cons]
  by_cases q:x=k
  ·rw [if_neg (by simpa using q),ih,List.lookup_cons]
   by_cases q':k'=k
   ·rw [if_pos q',if_pos q']
   ·rw [if_neg q',if_neg q',show (k'==x)=false from by rw [q];simpa using q']
  ·rw [if_pos (by simpa using q),List.lookup_cons,ih,List.lookup_cons]
   by_cases q':k'=k
   ·rw [show (k'==x)=false from by rw [q'];simpa using fun e=>q e.symm,if_pos q']
   ·rw [if_neg q',if_neg q']
theorem NR.put {N:List (Str×RV)} {ρ:En} (h:NR N ρ) (x:Nm) (v:V):NR (ay N x.str v.rv) (ρ.put x (some v)):=by
 refine ⟨?_,fun k hk=>?_,fun y=>?_⟩
 ·rw [ij]
  split
  ·exact h.one
  ·rename_i q
   rw [List.nodup_append]
   exact ⟨h.one,by simp,fun a ha b hb e=>q (by rw [List.mem_singleton.mp hb] at e;rw [<-e];exact ha)⟩
 ·rw [ij] at hk
  split at hk
  ·exact h.keys k hk
  ·rcases List.mem_append.mp hk with m | m
   ·exact h.keys k m
   ·exact ⟨x,List.mem_singleton.mp m⟩
 ·rw [bH]
  unfold En.put
  split
  ·rfl
  ·exact h.look y
theorem NR.drop {N:List (Str×RV)} {ρ:En} (h:NR N ρ) (x:Nm):NR (bU N x.str) (ρ.put x none):=by
 have sub:((bU N x.str).map (·.1)).Sublist (N.map (·.1)):=List.Sublist.map _ List.filter_sublist
 refine ⟨h.one.sublist sub,fun k hk=>h.keys k (sub.subset hk),fun y=>?_⟩
 rw [eN]
 unfold En.put
 split
 ·rfl
 ·exact h.look y
theorem oh (v:V):eqv 2 v.rv v.rv=some true:=by
 cases v with
 | i n=>show some (n==n)=_;simp
 | d c e=>show some ((c==c)&&((e==e)&&true))=_;rw [beq_self_eq_true,beq_self_eq_true];rfl
 | s x=>show some (x==x)=_;simp
theorem NR.same {N N':List (Str×RV)} {ρ:En} (h:NR N ρ) (h':NR N' ρ):gq N N'=some true:=by
 have mem:∀{N N':List (Str×RV)},NR N ρ->NR N' ρ->∀p∈N,∃v:V,p.2=v.rv/\N'.lookup p.1=some v.rv:=fun {N N'} h h' p hp=>by
  obtain ⟨k,r⟩:=p
  have e:=mem_lookup h.one hp
  obtain ⟨x,rfl⟩:=h.keys k (List.mem_map.mpr ⟨_,hp,rfl⟩)
  rw [h.look] at e
  obtain ⟨v,e1,e2⟩:=Option.map_eq_some_iff.mp e
  exact ⟨v,e2.symm,by rw [h'.look,e1];rfl⟩
 have sub:∀{N N':List (Str×RV)},NR N ρ->NR N' ρ->∀k∈N.map (·.1),k∈N'.map (·.1):=fun {N N'} h h' k hk=>by
  obtain ⟨p,hp,rfl⟩:=List.mem_map.mp hk
  obtain ⟨v,_,e⟩:=mem h h' p hp
  exact Classical.byContradiction fun q=>by rw [lookup_none q] at e;exact cH e
 have hl:N.length=N'.length:=by
  have h1:=lz h.one (sub h h')
  have h2:=lz h'.one (sub h' h)
  rw [List.length_map,List.length_map] at h1 h2
  lia
 unfold gq
 rw [if_pos hl]
 have go:∀l:List (Str×RV),(∀p∈l,∃v:V,p.2=v.rv/\N'.lookup p.1=some v.rv)->oQ l N'=some true:=fun l=>by
  induction l with
  | nil=>intro _;rfl
  | cons p l ih=>
   intro hm
   obtain ⟨v,e1,e2⟩:=hm p (.head _)
   show (N'.lookup p.1).elim (some false) (fun r'=>(eqv 2 p.2 r').bind fun t=>cond t (oQ l N') (some false))=_
   rw [e2,e1]
   exact (congrArg (Option.bind · fun t=>cond t (oQ l N') (some false)) (oh v)).trans (ih fun p hp=>hm p (.tail _ hp))
 exact go N (mem h h')
noncomputable def Go (q:Bool) (d:Nat) (f:Addr) (rs:List RV) (st:ai) (o:Out RV):Prop:=∀n,d<=n->run n q f rs st=some o
theorem Go.at {q:Bool} {d:Nat} {f:Addr} {rs:List RV} {st:ai} {o:Out RV} (h:Go q d f rs st o) {n:Nat} (hn:d<=n):(Kn q n).run (Kn q n).q (Kn q n).n f rs st=some o:=h n hn
theorem Go.mono {q:Bool} {d d':Nat} {f:Addr} {rs:List RV} {st:ai} {o:Out RV} (h:Go q d f rs st o) (hd:d<=d'):Go q d' f rs st o:=fun n hn=>h n (Nat.le_trans hd hn)
theorem Go.of {q:Bool} {d:Nat} {f:Addr} {E:Entry} {rs:List RV} {st:ai} {o:Out RV} (h:codeOf f=some (E,[])) (hl:(rs++[]).length=E.params.length)
  (hx:∀n,d<=n->∃so,bV E.code (Kn q n) ((rs++[]).map some++E.more.map fun _=>none) st=some so/\so.fin=o):Go q (d+1) f rs st o:=fun n hn=>by
 cases n with
 | zero=>exact absurd hn (Nat.not_succ_le_zero _)
 | succ m=>exact (hx m (Nat.le_of_succ_le_succ hn)).elim fun so y=>(sh h hl y.1).trans (congrArg some y.2)
section
variable {K:cK} {γ γQ:Lo} {st s₁ s₂ s₃:ai} {e e':XE} {l:YL} {x:om} {C:Addr} {k:Nat} {r r' v:RV} {m:CM} {rs:List RV} {w:RV} {z:Option (Out RV)} {f:Addr} {kk:Str} {T:Tg} {ik:IK} {it:om} {o:Option SOut} {body:Lo->ai->Option SOut}
theorem dw (h:ev e K γ st=some (.ok r s₁)) (h2:eH s₁ C k r=some v) (hb:gQ v=false):ev (.attr C k e) K γ st=some (.ok v s₁):=
 (av h (ak h2 (wH hb rfl)):aq (ev e K γ st) (fun a s₁=>(eH s₁ C k a).bind fun r=>if gQ r then none else some (.ok r s₁))=_)
theorem dZ (h:ev e K γ st=some (.ok r s₁)) (hr:mq m s₁ r=true) (hl:cP x K γ s₁=some (.ok rs s₂)) (h2:dH m s₂ r rs=some (w,s₃)):ev (.meth m e x) K γ st=some (.ok w s₃):=
 (av h ((if_pos hr).trans (av hl (bW h2))):aq (ev e K γ st) (fun a s₁=>if mq m s₁ a then aq (cP x K γ s₁) (fun l s₂=>(dH m s₂ a l).map fun p=>.ok p.1 p.2) else none)=_)
theorem o9 (h:ev e K γ st=some (.ok r s₁)) (hr:(fieldsOf s₁ C r).isSome=true) (hl:cP x K γ s₁=some (.ok rs s₂)) (h2:K.run K.q K.n f (r::rs) s₂=z):ev (.mcall f C e x) K γ st=z:=
 (av h ((if_pos hr).trans (av hl h2)):aq (ev e K γ st) (fun a s₁=>if (fieldsOf s₁ C a).isSome then aq (cP x K γ s₁) (fun l s₂=>K.run K.q K.n f (a::l) s₂) else none)=z)
noncomputable abbrev Au (eo ei:XE) (K:cK) (γ:Lo) (r:RV) (s₁:ai):Option (Out Unit):=aq (ev eo K γ s₁) fun a s₂=>aq (ev ei K γ s₂) fun i s₃=>(dB s₃ a i r).map fun s₄=>Out.ok () s₄
theorem bG {a i:RV} {eo ei:XE} (h:ev e K γ st=some (.ok r s₁)) (h2:ev eo K γ s₁=some (.ok a s₂)) (h3:ev ei K γ s₂=some (.ok i s₃)) {s₄:ai} (h4:dB s₃ a i r=some s₄):ex (.setitem eo ei e) K γ st=some (.next γ s₄):=
 (bS (av h (av h2 (av h3 (bW h4)))) rfl:dg (aq (ev e K γ st) (Au eo ei K γ)) γ (fun _ s₁=>some (.next γ s₁))=_)
theorem j8 {l:List RV} {b:YL} (h:sT K.q ik (cP it K γ st)=some (.ok l s₁)) (h2:fw T (bV b K) l γ s₁=o):ex (.for T ik it b) K γ st=o:=(bS h h2:dg (sT K.q ik (cP it K γ st)) γ (fun l s₁=>fw T (bV b K) l γ s₁)=o)
theorem fM {l:List RV} (hp:T.put r γ=some γQ) (h:∃γJ s₁,body γQ st=some (.next γJ s₁)/\fw T body l γJ s₁=o):fw T body (r::l) γ st=o:=
 h.elim fun _ h=>h.elim fun _ h=>(ak hp (gJ h.1 h.2):(T.put r γ).bind (fun γQ=>fQ (body γQ st) (fw T body l))=o)
theorem sH {i j:Nat} {vs:List RV} (h1:st[i]? = some (.inst C (some j))) (h2:st[j]? = some (.attrs C vs)):fieldsOf st C (.obj i)=some (j,vs):=ak rfl (ak (ak h1 rfl) (ak (ak h2 rfl) (if_pos ⟨rfl,rfl⟩)))
end
noncomputable def Bg (d:Int):List RV:=[.int 16,.int 6,.int 2000,.int 20,.int 2000,.obj 3,.obj 4,.obj 5,.obj 6,.lst [],.str "",.lst [],.obj 7,.obj 8,.obj 9,.lst [],.int 0,.int 0,.int 1,.int 0,.int d,.int 0,.bool false,.int 0,.str "",.bool false,.lst [],.lst []]
noncomputable def S (h:AObj) (N:List (Str×RV)) (d:Int) (F:List (Str×RV)) (rest:ai):ai:=
 h::.attrs 237 (Bg d)::.inst 237 (some 1)::.dict N::.dict []::.dict []::.dict F::.dict []::.dict []::.dict []::rest
noncomputable def first:Kd->V
 | .text=>.s ""
 | .whole=>.i 0
 | .decimal=>.d 0 0
noncomputable def val (ρ:En) (x:Nm):V:=(ρ x).getD (first x.kd)
section
variable {h:AObj} {N F:List (Str×RV)} {d:Int} {rest:ai} {ρ:En}
theorem tV (x:Nm):Go true 1 79 [.str x.str,.obj 5] (S h N d F rest) (.ok (.str x.kd.str) (S h N d F rest)):=Go.of (E:=AX) rfl rfl fun n hn=>by
 cases x <;> exact ⟨_,rfl,rfl⟩
theorem iF (x:Nm):Go true 2 248 [.obj 2,.str x.str] (S h N d F rest) (.ok (.str x.kd.str) (S h N d F rest)):=Go.of (E:=yC) rfl rfl fun n hn=>
 ⟨_,ao (aK (ag rfl ((tV x).at hn))),rfl⟩
theorem rZ (k:Kd):Go true 1 86 [.str k.str] (S h N d F rest) (.ok (first k).rv (S h N d F rest)):=Go.of (E:=A0) rfl rfl fun n hn=>by
 cases k <;> exact ⟨_,rfl,rfl⟩
theorem xD (x:Nm) (hN:NR N ρ):Go true 3 255 [.obj 2,.str x.str] (S h N d F rest) (.ok (val ρ x).rv (S h N d F rest)):=Go.of (E:=x9) rfl rfl fun n hn=>by
 have e:=hN.look x
 have t:cu (.cmp .In (.loc 1) (.attr 237 5 (.loc 0))) (Kn true n) [some (.obj 2),some (.str x.str)] (S h N d F rest)=some (.ok (N.lookup x.str).isSome (S h N d F rest)):=rfl
 unfold val
 cases q:ρ x with
 | none=>
  rw [q] at e;rw [e] at t
  exact ⟨_,ao (aK (bK t rfl (ag (ac (ag rfl ((iF x).at hn)) rfl) ((rZ x.kd).at (br hn rfl))))),rfl⟩
 | some v=>
  rw [q] at e;rw [e] at t
  exact ⟨_,ao (aK (aS t rfl (aG rfl rfl (show dA (S h N d F rest) (.obj 3) (.str x.str)=_ from e)))),rfl⟩
theorem tx (x:Nm):Go true 1 198 [.obj 2,.str x.str] (S h N d F rest) (.ok .none (S h N d F rest)):=Go.of (E:=y9) rfl rfl fun n hn=>⟨_,rfl,rfl⟩
theorem xL (x:Nm) (hN:NR N ρ):Go true 4 269 [.obj 2,.str x.str] (S h N d F rest) (.ok (val ρ x).rv (S h N d F rest)):=Go.of (E:=x6) rfl rfl fun n hn=>by
 have a:∀k:Str,(x.str==k)=false->cu (.cmp .Eq (.loc 1) (.val (.str k))) (Kn true n) [some (.obj 2),some (.str x.str),none] (S h N d F rest)=some (.ok false (S h N d F rest)):=fun k e=>by rw [<-e];rfl
 exact ⟨_,aa (am (a "ERR" (by cases x <;> rfl)) rfl rfl) (aa (am (a "ERL" (by cases x <;> rfl)) rfl rfl) (aa (aD (ag rfl ((tx x).at (br hn rfl)))) (ao (aK (aS (b:=true) rfl rfl (ag rfl ((xD x hN).at hn))))))),rfl⟩
noncomputable def zT (L:Nat):List RV:=[.obj 2,.none,.obj (L+10),.int 16,.int 6,.obj (L+14),.obj (L+15)]
structure Good (L c:Nat) (rest:ai):Prop where
 attrs:rest[L+1]? = some (.attrs 685 (zT L))
 inst:rest[L+2]? = some (.inst 685 (some (L+11)))
 asked:∃l,rest[L+5]? = some (.list l)/\l.length<=c
structure Kept (L:Nat) (r r':ai):Prop where
 len:r.length<=r'.length
 same:∀i,i<r.length->i≠L+5->r'[i]? = r[i]?
theorem Kept.refl {L:Nat} {r:ai}:Kept L r r:=⟨Nat.le_refl _,fun _ _ _=>rfl⟩
theorem Kept.trans {L:Nat} {r r' r'':ai} (a:Kept L r r') (b:Kept L r' r''):Kept L r r'':=
 ⟨Nat.le_trans a.len b.len,fun i hi hne=>(b.same i (Nat.lt_of_lt_of_le hi a.len) hne).trans (a.same i hi hne)⟩
theorem Good.mono {L c c':Nat} {r:ai} (g:Good L c r) (h:c<=c'):Good L c' r:=⟨g.attrs,g.inst,by obtain ⟨l,e,q⟩:=g.asked;exact ⟨l,e,Nat.le_trans q h⟩⟩
theorem Good.fields {L c:Nat} (g:Good L c rest):fieldsOf (S h N d F rest) 685 (.obj (L+12))=some (L+11,zT L):=sH (st:=S h N d F rest) g.inst g.attrs
theorem Good.attr {L c:Nat} (g:Good L c rest) (k:Nat):eH (S h N d F rest) 685 k (.obj (L+12))=(zT L)[k]? :=by
 unfold eH;rw [g.fields];rfl
theorem bL {α:Type} {l:List α} {i:Nat} {x:α} (h:l[i]? = some x):i<l.length:=by
 rw [List.getElem?_eq_some_iff] at h;exact h.1
theorem Good.ask {L c:Nat} (g:Good L c rest) (hc:c<16777216) (r:RV):∃rest',dH .append (S h N d F rest) (.obj (L+15)) [r]=some (.none,S h N d F rest')/\mq .append (S h N d F rest) (.obj (L+15))=true/\Good L (c+1) rest'/\Kept L rest rest':=by
 obtain ⟨l,e,q⟩:=g.asked
 have e1:(S h N d F rest)[L+15]? = some (.list l):=e
 refine ⟨rest.set (L+5) (.list (l++[r])),?_,?_,⟨?_,?_,l++[r],?_,?_⟩,?_,fun i hi hne=>?_⟩
 ·exact ak rfl (ak (dP e1) (if_pos (Nat.lt_of_le_of_lt q hc)))
 ·exact congrArg Option.isSome (dP e1)
 ·rw [List.getElem?_set_ne (by lia)];exact g.attrs
 ·rw [List.getElem?_set_ne (by lia)];exact g.inst
 ·rw [List.getElem?_set_self (bL e)]
 ·rw [List.length_append,List.length_singleton];lia
 ·rw [List.length_set];exact Nat.le_refl _
 ·rw [List.getElem?_set_ne (by lia)]
theorem Good.snoc {L c:Nat} {l:ai} (g:Good L c rest):Good L c (rest++l):=by
 obtain ⟨l',e,q⟩:=g.asked
 have h5:=bL e
 exact ⟨by rw [List.getElem?_append_left (by lia)];exact g.attrs,by rw [List.getElem?_append_left (by lia)];exact g.inst,l',by rw [List.getElem?_append_left (by omega)];exact e,q⟩
theorem Kept.snoc {L:Nat} {r l:ai}:Kept L r (r++l):=⟨by rw [List.length_append];lia,fun i hi _=>List.getElem?_append_left hi⟩
theorem tC {L c:Nat} (x:Nm) (hN:NR N ρ) (g:Good L c rest) (hc:c<16777216):∃rest',Good L (c+1) rest'/\Kept L rest rest'/\Go true 5 607 [.obj (L+12),.str x.str] (S h N d F rest) (.ok (val ρ x).rv (S h N d F rest')):=by
 obtain ⟨rest',a,b,g',k⟩:=g.ask (h:=h) (N:=N) (d:=d) (F:=F) hc (.str x.str)
 exact ⟨rest',g',k,Go.of (E:=zd) rfl rfl fun n hn=>
  ⟨_,aa (cG (dZ (dw rfl (g.attr 6) rfl) b rfl a)) (ao (aK (ag (ac (dw rfl (g'.attr 0) rfl) rfl) ((xL x hN).at hn)))),rfl⟩⟩
theorem wU (q:Bool) (x:Str):Go q 1 205 [.obj 2,.str x] (S h N d F rest) (.ok .none (S h N d F rest)):=Go.of (E:=yg) rfl rfl fun n hn=>⟨_,rfl,rfl⟩
theorem uY (xs:List Nm):Go true 1 212 [.obj 2,.lst (xs.map fun x=>.str x.str),.int d] (S h N d F rest) (.ok .none (S h N d F rest)):=Go.of (E:=ye) rfl rfl fun n hn=>by
 have go:∀(xs:List Nm) (a:RV) (y:Option RV),∃y',fw (.one 3) (fun γ s=>bV (.cons (.ite (.cmp .In (.loc 3) (.attr 237 14 (.loc 0))) (.cons (.setitem (.attr 237 14 (.loc 0)) (.bin .Add (.strOf (.cons (.loc 2) .nil)) (.loc 3)) (.meth .take (.attr 237 14 (.loc 0)) (.cons (.loc 3) .nil))) .nil) .nil) .nil) (Kn true n) γ s) (xs.map fun x=>.str x.str) [some (.obj 2),some a,some (.int d),y] (S h N d F rest) =
   some (.next [some (.obj 2),some a,some (.int d),y'] (S h N d F rest)):=fun xs=>by
  induction xs with
  | nil=>exact fun a y=>⟨y,rfl⟩
  | cons x xs ih=>
   intro a y
   obtain ⟨y',e⟩:=ih a (some (.str x.str))
   exact ⟨y',fM rfl ⟨_,_,rfl,e⟩⟩
 obtain ⟨y,e⟩:=go xs (.lst (xs.map fun x=>.str x.str)) none
 exact ⟨_,aa (j8 rfl e) rfl,rfl⟩
theorem vU {d:Nat} (hd:d<3):(u6 [.int d]=fun s=>some (.ok (.str (Str.ofString (toString (d:Int)))) s))/\(Str.ofString (toString (d:Int))).length<=9:=by
 match d,hd with
 | 0,_=>exact ⟨rfl,by decide +kernel⟩
 | 1,_=>exact ⟨rfl,by decide +kernel⟩
 | 2,_=>exact ⟨rfl,by decide +kernel⟩
theorem xI (x:Nm):x.str.length<=9:=by cases x <;> decide +kernel
theorem w7 (q:Bool) (xs:List Nm) {k:Nat} (hk:k<3):Go q 2 219 [.obj 2,.lst (xs.map fun x=>.str x.str),.int k] (S h N d F rest) (.ok .none (S h N d F rest)):=Go.of (E:=zy) rfl rfl fun n hn=>by
 obtain ⟨k1,k2⟩:=vU hk
 have go1:∀(xs:List Nm) (a:RV) (y:Option RV),∃y',fw (.one 3) (fun γ s=>bV (.cons (.expr (.call 205 (.cons (.loc 0) (.cons (.loc 3) .nil)))) .nil) (Kn q n) γ s) (xs.map fun x=>.str x.str) [some (.obj 2),some a,some (.int k),y] (S h N d F rest) =
   some (.next [some (.obj 2),some a,some (.int k),y'] (S h N d F rest)):=fun xs=>by
  induction xs with
  | nil=>exact fun a y=>⟨y,rfl⟩
  | cons x xs ih=>
   intro a y
   obtain ⟨y',e⟩:=ih a (some (.str x.str))
   exact ⟨y',fM rfl ⟨_,_,aa (cG (ag rfl ((wU q x.str).at hn))) rfl,e⟩⟩
 have go2:∀(xs:List Nm) (a:RV) (y:Option RV),∃y',fw (.one 3) (fun γ s=>bV (.cons (.ite (.cmp .In (.bin .Add (.strOf (.cons (.loc 2) .nil)) (.loc 3)) (.attr 237 14 (.loc 0))) (.cons (.setitem (.attr 237 14 (.loc 0)) (.loc 3) (.meth .take (.attr 237 14 (.loc 0)) (.cons (.bin .Add (.strOf (.cons (.loc 2) .nil)) (.loc 3)) .nil))) .nil) .nil) .nil) (Kn q n) γ s) (xs.map fun x=>.str x.str) [some (.obj 2),some a,some (.int k),y] (S h N d F rest) =
   some (.next [some (.obj 2),some a,some (.int k),y'] (S h N d F rest)):=fun xs=>by
  induction xs with
  | nil=>exact fun a y=>⟨y,rfl⟩
  | cons x xs ih=>
   intro a y
   obtain ⟨y',e⟩:=ih a (some (.str x.str))
   have hb:binI .Add (.str (Str.ofString (toString (k:Int)))) (.str x.str)=some (.str (Str.ofString (toString (k:Int))++x.str)):=if_pos (by have:=xI x;lia)
   have hs:ev (.strOf (.cons (.loc 2) .nil)) (Kn q n) [some (.obj 2),some a,some (.int k),some (.str x.str)] (S h N d F rest)=some (.ok (.str (Str.ofString (toString (k:Int)))) (S h N d F rest)):=by
    show u6 [.int k] (S h N d F rest)=_
    rw [k1]
   have t:cu (.cmp .In (.bin .Add (.strOf (.cons (.loc 2) .nil)) (.loc 3)) (.attr 237 14 (.loc 0))) (Kn q n) [some (.obj 2),some a,some (.int k),some (.str x.str)] (S h N d F rest)=some (.ok false (S h N d F rest)):=
    ci (bZ (aJ hs rfl hb) rfl rfl)
   exact ⟨y',fM rfl ⟨_,_,aa (am t rfl rfl) rfl,e⟩⟩
 obtain ⟨y1,e1⟩:=go1 xs (.lst (xs.map fun x=>.str x.str)) none
 obtain ⟨y2,e2⟩:=go2 xs (.lst (xs.map fun x=>.str x.str)) y1
 exact ⟨_,aa (j8 rfl e1) (aa (j8 rfl e2) rfl),rfl⟩
end
mutual
inductive T where
 | lit (v:V)
 | name (x:Nm)
 | two (op:Op) (a b:T)
 | fn (w:Nm) (l:TL)
inductive TL where
 | nil
 | cons (t:T) (l:TL)
end
mutual
noncomputable def T.rv:T->RV
 | .lit v=>v.tree
 | .name x=>.tup [.str "name",.str x.str]
 | .two op a b=>.tup [.str "two",.str op.str,a.rv,b.rv]
 | .fn w l=>.tup [.str "fn",.str w.str,.lst l.rvs]
noncomputable def TL.rvs:TL->List RV
 | .nil=>[]
 | .cons t l=>t.rv::l.rvs
end
noncomputable def T.parts:T->List RV
 | .two _ a b=>[a.rv,b.rv]
 | .fn _ l=>l.rvs
 | _=>[]
mutual
noncomputable def T.sz:T->Nat
 | .two _ a b=>a.sz+b.sz+1
 | .fn _ l=>l.sz+1
 | _=>1
noncomputable def TL.sz:TL->Nat
 | .nil=>0
 | .cons t l=>t.sz+l.sz
end
theorem T.sz_pos (t:T):0<t.sz:=by cases t <;> exact Nat.succ_pos _
theorem TL.len_sz:∀l:TL,l.rvs.length<=l.sz
 | .nil=>Nat.le_refl _
 | .cons t l=>by
  have h1:=TL.len_sz l
  have h2:=t.sz_pos
  rw [TL.rvs,TL.sz,List.length_cons];lia
noncomputable abbrev LR:=Except Str (List V)
noncomputable def k9 (x:VR) (y:LR):LR:=match x with
 | .exc k=>.error k
 | .ok v=>match y with
  | .error k=>.error k
  | .ok vs=>.ok (v::vs)
noncomputable def nA (x:LR) (f:List V->VR):VR:=match x with
 | .error k=>.exc k
 | .ok vs=>f vs
mutual
noncomputable def T.ev (call:Nm->List V->VR) (ρ:En):T->VR
 | .lit v=>tM v
 | .name x=>.ok (val ρ x)
 | .two op a b=>(a.ev call ρ).bind fun u=>(b.ev call ρ).bind fun v=>l9 op u v
 | .fn w l=>nA (l.ev call ρ) (call w)
noncomputable def TL.ev (call:Nm->List V->VR) (ρ:En):TL->LR
 | .nil=>.ok []
 | .cons t l=>k9 (t.ev call ρ) (l.ev call ρ)
end
noncomputable def bN:List Nm->List V->LR
 | p::ps,v::vs=>k9 (dp p.kd v) (bN ps vs)
 | _,_=>.ok []
noncomputable def puts (ρ:En):List Nm->List V->En
 | p::ps,v::vs=>puts (ρ.put p (some v)) ps vs
 | _,_=>ρ
noncomputable abbrev jY:=Nm->Option (List Nm×T)
noncomputable def aC (fns:jY):Nat->En->Nm->List V->VR
 | 0,_,_,_=>.exc ""
 | m+1,ρ,w,vs=>match fns w with
  | none=>.exc "UF"
  | some (ps,body)=>nA (bN ps vs) fun σ=>(body.ev (aC fns m (puts ρ ps σ)) (puts ρ ps σ)).bind (dp w.kd)
mutual
noncomputable def T.Fit (cf:Nm->Nat->Prop):T->Prop
 | .lit v=>v.Ok
 | .name _=>True
 | .two _ a b=>a.Fit cf/\b.Fit cf
 | .fn w l=>cf w l.rvs.length/\l.Fit cf
noncomputable def TL.Fit (cf:Nm->Nat->Prop):TL->Prop
 | .nil=>True
 | .cons t l=>t.Fit cf/\l.Fit cf
end
noncomputable def callable (fns:jY):Nat->Nm->Nat->Prop
 | 0,_,_=>False
 | m+1,w,k=>∃ps body,fns w=some (ps,body)/\ps.length=k/\0<k/\k<3/\body.sz<=20/\body.Fit (callable fns m)
noncomputable def En.Ok (ρ:En):Prop:=∀x v,ρ x=some v->v.Ok
theorem sZ (k:Kd):(first k).Ok:=by
 cases k with
 | text=>exact Nat.zero_le _
 | whole=>exact ⟨by decide,by decide⟩
 | decimal=>exact ⟨by decide,by decide,by decide⟩
theorem wX {ρ:En} (h:ρ.Ok) (x:Nm):(val ρ x).Ok:=by
 unfold val
 cases q:ρ x with
 | some v=>exact h x v q
 | none=>exact sZ _
theorem En.Ok.put {ρ:En} (h:ρ.Ok) {x:Nm} {v:V} (hv:v.Ok):(ρ.put x (some v)).Ok:=fun y u e=>by
 unfold En.put at e
 split at e
 ·cases e;exact hv
 ·exact h y u e
theorem lY:∀{ps:List Nm} {vs:List V} {ρ:En},ρ.Ok->(∀v∈vs,v.Ok)->(puts ρ ps vs).Ok
 | [],_,_,h,_=>h
 | _::_,[],_,h,_=>h
 | p::ps,v::vs,ρ,h,q=>show (puts (ρ.put p (some v)) ps vs).Ok from lY (h.put (q v (.head _))) fun u m=>q u (.tail _ m)
theorem bI {x:VR} {y:LR} {l:List V} (h:k9 x y=.ok l):∃v vs,x=.ok v/\y=.ok vs/\l=v::vs:=by
 cases x with
 | exc k=>exact nomatch h
 | ok v=>cases y with
  | error k=>exact nomatch h
  | ok vs=>cases h;exact ⟨v,vs,rfl,rfl,rfl⟩
theorem kR {x:LR} {f:List V->VR} {v:V} (h:nA x f=.ok v):∃vs,x=.ok vs/\f vs=.ok v:=by
 cases x with
 | error k=>exact nomatch h
 | ok vs=>exact ⟨vs,rfl,h⟩
theorem mP {ps:List Nm} {vs l:List V} (h:bN ps vs=.ok l):∀v∈l,v.Ok:=by
 induction ps generalizing vs l with
 | nil=>cases h;exact nofun
 | cons p ps ih=>cases vs with
  | nil=>cases h;exact nofun
  | cons v vs=>
   obtain ⟨u,us,h1,h2,e⟩:=bI h
   subst e
   have h3:=pE p.kd v
   rw [h1] at h3
   exact fun w m=>(List.mem_cons.mp m).elim (fun e=>e▸h3) (ih h2 w)
theorem hZ {ps:List Nm} {vs l:List V} (q:ps.length=vs.length) (h:bN ps vs=.ok l):l.length=ps.length:=by
 induction ps generalizing vs l with
 | nil=>cases h;rfl
 | cons p ps ih=>cases vs with
  | nil=>exact sS q
  | cons v vs=>
   obtain ⟨u,us,h1,h2,e⟩:=bI h
   subst e
   exact congrArg Nat.succ (ih (Nat.succ.inj q) h2)
mutual
theorem T.ev_ok {call:Nm->List V->VR} {ρ:En} {cf:Nm->Nat->Prop} (hc:∀w vs,(call w vs).Ok) (hρ:ρ.Ok):∀t:T,t.Fit cf->(t.ev call ρ).Ok
 | .lit v,h=>by rw [T.ev];rw [T.Fit] at h;exact xt h
 | .name x,_=>by rw [T.ev];exact wX hρ x
 | .two op a b,h=>by rw [T.ev];exact .bind fun u _=>.bind fun v _=>xb
 | .fn w l,h=>by
  rw [T.ev]
  rw [T.Fit] at h
  cases e:l.ev call ρ with
  | error k=>trivial
  | ok vs=>exact hc w vs
theorem TL.ev_ok {call:Nm->List V->VR} {ρ:En} {cf:Nm->Nat->Prop} (hc:∀w vs,(call w vs).Ok) (hρ:ρ.Ok):∀l:TL,l.Fit cf->∀vs,l.ev call ρ=.ok vs->∀v∈vs,v.Ok
 | .nil,_,vs,e=>by rw [TL.ev] at e;cases e;exact nofun
 | .cons t l,h,vs,e=>by
  rw [TL.ev] at e
  rw [TL.Fit] at h
  obtain ⟨u,us,h1,h2,rfl⟩:=bI e
  have h3:=T.ev_ok hc hρ t h.1
  rw [h1] at h3
  intro w m
  rcases List.mem_cons.mp m with rfl | m
  ·exact h3
  ·exact TL.ev_ok hc hρ l h.2 us h2 w m
end
theorem TL.ev_len {call:Nm->List V->VR} {ρ:En}:∀(l:TL) vs,l.ev call ρ=.ok vs->vs.length=l.rvs.length
 | .nil,vs,e=>by rw [TL.ev] at e;cases e;rfl
 | .cons t l,vs,e=>by
  rw [TL.ev] at e
  obtain ⟨u,us,h1,h2,rfl⟩:=bI e
  rw [TL.rvs,List.length_cons,List.length_cons,TL.ev_len l us h2]
theorem jQ {fns:jY}:∀(m:Nat) (ρ:En) (w:Nm) (vs:List V),(aC fns m ρ w vs).Ok
 | 0,_,_,_=>trivial
 | m+1,ρ,w,vs=>by
  rw [aC]
  cases fns w with
  | none=>trivial
  | some p=>
   dsimp only
   cases bN p.1 vs with
   | error k=>trivial
   | ok σ=>exact .bind fun v _=>pE _ v
theorem nk (t:T) (st:ai):Go true 1 513 [t.rv] st (.ok (.lst t.parts) st):=Go.of (E:=zh) rfl rfl fun n hn=>by
 cases t with
 | lit v=>cases v <;> exact ⟨_,rfl,rfl⟩
 | name x=>exact ⟨_,rfl,rfl⟩
 | two op a b=>exact ⟨_,rfl,rfl⟩
 | fn w l=>exact ⟨_,rfl,rfl⟩
section
variable {K:cK} {γ γQ γJ:Lo} {st s₁ s₂ s₃:ai} {e ob:XE} {b f:YL} {C:Addr} {k:Nat} {r ov old z:RV} {kk:Str} {op:Operator}
theorem zz (h:bV b K γ st=some (.next γQ s₁)) (h2:bV f K γQ s₁=some (.next γJ s₂)):ex (.fin b f) K γ st=some (.next γJ s₂):=(ak h (ak h2 rfl):vQ (bV b K γ st) (bV f K) (bV f { K with q:=false })=_)
theorem xm (h:bV b K γ st=some (.exc kk γQ s₁)) (h2:bV f { K with q:=false } γQ s₁=some (.next γJ s₂)):ex (.fin b f) K γ st=some (.exc kk γJ s₂):=(ak h (ak h2 rfl):vQ (bV b K γ st) (bV f K) (bV f { K with q:=false })=_)
noncomputable abbrev Av (C:Addr) (k:Nat) (op:Operator) (e:XE) (K:cK) (γ:Lo) (ov:RV) (s₁:ai):Option (Out Unit):=(eH s₁ C k ov).bind fun old=>if gQ old then none else aq (ev e K γ s₁) fun r s₂=>(jT op old r).bind fun z=>(j3 s₂ C k ov z).map fun s₃=>Out.ok () s₃
theorem k7 (h:ev ob K γ st=some (.ok ov s₁)) (h2:eH s₁ C k ov=some old) (hb:gQ old=false) (h3:ev e K γ s₁=some (.ok r s₂)) (h4:jT op old r=some z) (h5:j3 s₂ C k ov z=some s₃):ex (.augattr C k op ob e) K γ st=some (.next γ s₃):=
 (bS (av h (ak h2 (wH hb (av h3 (ak h4 (bW h5)))))) rfl:dg (aq (ev ob K γ st) (Av C k op e K γ)) γ (fun _ s₁=>some (.next γ s₁))=_)
end
theorem sN {K:cK} {γ:Lo} {st s₁:ai} {i j m:Nat} {x:om} {f:Addr} {rs:List RV} {z:Option (Out RV)} (h0:iv γ i st=some (.ok (.obj j) st)) (h:cP x K γ st=some (.ok rs s₁)) (hj:s₁[j]? = some (.meth f m)) (h2:K.run K.q K.n f (.obj m::rs) s₁=z):ev (.vcall i x) K γ st=z:=
 (av h0 (av h (ak (ak rfl (ak hj rfl)) h2)):aq (iv γ i st) (fun a s₁=>if uw a then aq (cP x K γ s₁) (fun l s₂=>pJ (K.run K.q K.n) a l s₂) else none)=z)
noncomputable abbrev aw (x:Nm):RV:=.str x.str
noncomputable def nI (o:Option V):RV:=(o.map V.rv).getD .none
noncomputable def ib (N:List (Str×RV)):List Nm->List V->List (Str×RV)
 | p::ps,v::vs=>ib (ay N p.str v.rv) ps vs
 | _,_=>N
noncomputable def oV (ρ' ρ:En):List Nm->En
 | []=>ρ'
 | x::xs=>oV (ρ'.put x (ρ x)) ρ xs
theorem NR.puts:∀{ps:List Nm} {vs:List V} {N:List (Str×RV)} {ρ:En},NR N ρ->NR (ib N ps vs) (Mine.puts ρ ps vs)
 | [],_,_,_,h=>h
 | _::_,[],_,_,h=>h
 | p::ps,v::vs,N,ρ,h=>show NR (ib (ay N p.str v.rv) ps vs) (Mine.puts (ρ.put p (some v)) ps vs) from NR.puts (h.put p v)
theorem NR.congr {N:List (Str×RV)} {ρ ρ':En} (h:NR N ρ) (e:∀x,ρ x=ρ' x):NR N ρ':=⟨h.one,h.keys,fun x=>by rw [h.look,e]⟩
theorem pG {y:Nm}:∀{ps:List Nm} {vs:List V} {ρ:En},y∉ps->puts ρ ps vs y=ρ y
 | [],_,_,_=>rfl
 | _::_,[],_,_=>rfl
 | p::ps,v::vs,ρ,h=>by
  show puts (ρ.put p (some v)) ps vs y=_
  rw [List.mem_cons,not_or] at h
  rw [pG h.2]
  exact if_neg fun e=>h.1 (Nm.inj e)
theorem mo {y:Nm} {ρ:En}:∀{xs:List Nm} {ρ':En},(y∈xs\/ρ' y=ρ y)->oV ρ' ρ xs y=ρ y
 | [],_,h=>h.elim nofun id
 | x::xs,ρ',h=>by
  refine mo (ρ':=ρ'.put x (ρ x)) ?_
  by_cases q:y.str=x.str
  ·exact .inr (by rw [Nm.inj q];exact if_pos rfl)
  ·refine h.imp (fun m=>?_) fun e=>(if_neg q).trans e
   rcases List.mem_cons.mp m with e | m
   ·exact absurd (congrArg Nm.str e) q
   ·exact m
theorem rR {ps:List Nm} {vs:List V} {w:Nm} {ρ:En} (y:Nm):oV (puts ρ ps vs) ρ (ps++[w]).reverse y=ρ y:=by
 refine mo ?_
 by_cases q:y∈ps
 ·exact .inl (by simp [q])
 ·exact .inr (pG q)
noncomputable abbrev gP (w:Nm) (as m1 m2:RV) (l:Lo):Lo:=some (.obj 2)::some (aw w)::some as::some m1::some m2::l
noncomputable abbrev gF (w:Nm) (as m1 m2:RV) (ps:List Nm) (b:T) (nm sv vl tl fd:Option RV):Lo:=
 [some (.obj 2),some (aw w),some as,some m1,some m2,some (.lst (ps.map aw)),some b.rv,some (.int (-1)),some (.lst ((ps++[w]).map aw)),nm,sv,vl,tl,fd]
section
variable {h:AObj} {N F:List (Str×RV)} {d:Int} {rest:ai} {ρ:En} {n:Nat} {w:Nm} {as m1 m2:RV} {ps:List Nm} {b:T}
theorem mw (hN:NR N ρ):∀(xs:List Nm) (a b:Option RV),bw (.one 1) (fun γ s=>ev (.tup (.cons (.loc 1) (.cons (.meth .get (.attr 237 5 (.loc 2)) (.cons (.loc 1) .nil)) .nil))) (Kn true n) γ s) (xs.map aw) [a,b,some (.obj 2)] (S h N d F rest) =
  some (.ok (xs.map fun x=>.tup [aw x,nI (ρ x)]) (S h N d F rest))
 | [],_,_=>rfl
 | x::xs,a,b=>by
  have e:dH .get (S h N d F rest) (.obj 3) [aw x]=some (nI (ρ x),S h N d F rest):=by
   show some ((N.lookup x.str).getD .none,_)=_
   rw [hN.look];rfl
  exact dD rfl (aL (ac rfl (ac (dZ rfl rfl rfl e) rfl)) (cn rfl)) (mw hN xs a _)
theorem lJ:∀(ps:List Nm) (vs:List V) (hv:∀v∈vs,v.Ok) (hn:5<=n) (a b c:Option RV),bw (.many [1,2]) (fun γ s=>ev (.call 156 (.cons (.loc 2) (.cons (.call 248 (.cons (.loc 3) (.cons (.loc 1) .nil))) (.cons (.attr 237 0 (.loc 3)) (.cons (.attr 237 1 (.loc 3)) .nil))))) (Kn true n) γ s) (pairs (ps.map aw) (vs.map V.rv)) [a,b,c,some (.obj 2)] (S h N d F rest) =
  match bN ps vs with
  | .ok σ=>some (.ok (σ.map V.rv) (S h N d F rest))
  | .error k=>some (.exc k (S h N d F rest))
 | [],_,_,_,_,_,_=>rfl
 | _::_,[],_,_,_,_,_=>rfl
 | p::ps,v::vs,hv,hn,a,b,c=>by
  have h1:=(gS (hv v (.head _)) p.kd).at (n:=n) (st:=S h N d F rest) hn
  have h2:=lJ ps vs (fun u m=>hv u (.tail _ m)) hn a (some (aw p)) (some v.rv)
  rw [bN]
  have hl:cP (.cons (.loc 2) (.cons (.call 248 (.cons (.loc 3) (.cons (.loc 1) .nil))) (.cons (.attr 237 0 (.loc 3)) (.cons (.attr 237 1 (.loc 3)) .nil)))) (Kn true n) [a,some (aw p),some v.rv,some (.obj 2)] (S h N d F rest)=some (.ok [v.rv,.str p.kd.str,.int 16,.int 6] (S h N d F rest)):=
   ac rfl (ac (ag rfl ((iF p).at (br hn rfl))) rfl)
  cases e:dp p.kd v with
  | exc k=>
   rw [e] at h1
   exact pB rfl (ag hl h1)
  | ok u=>
   rw [e] at h1
   cases e2:bN ps vs with
   | error k=>
    rw [e2] at h2
    exact pv rfl (ag hl h1) h2
   | ok us=>
    rw [e2] at h2
    exact dD rfl (ag hl h1) h2
theorem oB (hN:NR N ρ) (k r:_):dB (S h N d F rest) (.obj 3) (.str k) r=some (S h (ay N k r) d F rest):=if_pos hN.short
theorem mH {K:cK}:∀(qs:List Nm) (vs:List V) {N:List (Str×RV)} {ρ:En} (hN:NR N ρ) (nm sv vl tl fd:Option RV),∃nm' vl',fw (.many [9,11]) (fun γ s=>bV (.cons (.setitem (.attr 237 5 (.loc 0)) (.loc 9) (.loc 11)) .nil) K γ s) (pairs (qs.map aw) (vs.map V.rv)) (gF w as m1 m2 ps b nm sv vl tl fd) (S h N d F rest) =
  some (.next (gF w as m1 m2 ps b nm' sv vl' tl fd) (S h (ib N qs vs) d F rest))
 | [],_,_,_,_,nm,sv,vl,tl,fd=>⟨nm,vl,rfl⟩
 | _::_,[],_,_,_,nm,sv,vl,tl,fd=>⟨nm,vl,rfl⟩
 | p::qs,v::vs,N,ρ,hN,nm,sv,vl,tl,fd=>by
  obtain ⟨nm',vl',e⟩:=mH qs vs (hN.put p v) (some (aw p)) sv (some v.rv) tl fd
  exact ⟨nm',vl',fM rfl ⟨_,_,aa (bG rfl rfl rfl (oB hN p.str v.rv)) rfl,e⟩⟩
noncomputable def tc:YL:=.cons (.expr (.meth .take (.attr 237 5 (.loc 0)) (.cons (.loc 9) (.cons (.val .none) .nil)))) (.cons (.ite (.cmp .IsNot (.loc 11) (.val .none)) (.cons (.setitem (.attr 237 5 (.loc 0)) (.loc 9) (.loc 11)) .nil) .nil) .nil)
theorem k6 {ρ:En}:∀(xs:List Nm) {N:List (Str×RV)} {ρ':En} (hN:NR N ρ'),∃N',NR N' (oV ρ' ρ xs)/\∀(K:cK) (nm sv vl tl fd:Option RV),∃nm' vl',fw (.many [9,11]) (fun γ s=>bV tc K γ s) (xs.map fun x=>.tup [aw x,nI (ρ x)]) (gF w as m1 m2 ps b nm sv vl tl fd) (S h N d F rest) =
  some (.next (gF w as m1 m2 ps b nm' sv vl' tl fd) (S h N' d F rest))
 | [],N,_,hN=>⟨N,hN,fun _ nm _ vl _ _=>⟨nm,vl,rfl⟩⟩
 | x::xs,N,ρ',hN=>by
  obtain ⟨r,N1,h1,e1⟩:∃r N1,NR N1 (ρ'.put x none)/\dH .take (S h N d F rest) (.obj 3) [aw x,.none]=some (r,S h N1 d F rest):=by
   have e:dH .take (S h N d F rest) (.obj 3) [aw x,.none]=some ((N.lookup x.str).getD .none,cond (N.lookup x.str).isSome (S h (bU N x.str) d F rest) (S h N d F rest)):=if_pos hN.short
   rw [e]
   cases q:N.lookup x.str with
   | some r=>exact ⟨r,_,hN.drop x,rfl⟩
   | none=>
    refine ⟨.none,N,hN.congr fun y=>?_,rfl⟩
    unfold En.put
    split
    ·rename_i z
     have:=hN.look y
     rw [z,q] at this
     cases e:ρ' y with
     | none=>rfl
     | some v=>rw [e] at this;exact cH this
    ·rfl
  obtain ⟨N2,h2,e2⟩:∃N2,NR N2 (ρ'.put x (ρ x))/\∀(K:cK) (sv tl fd:Option RV),bV tc K (gF w as m1 m2 ps b (some (aw x)) sv (some (nI (ρ x))) tl fd) (S h N d F rest)=some (.next (gF w as m1 m2 ps b (some (aw x)) sv (some (nI (ρ x))) tl fd) (S h N2 d F rest)):=by
   have s1:∀(K:cK) (sv vl tl fd:Option RV),ex (.expr (.meth .take (.attr 237 5 (.loc 0)) (.cons (.loc 9) (.cons (.val .none) .nil)))) K (gF w as m1 m2 ps b (some (aw x)) sv vl tl fd) (S h N d F rest)=some (.next (gF w as m1 m2 ps b (some (aw x)) sv vl tl fd) (S h N1 d F rest)):=
    fun K sv vl tl fd=>cG (dZ rfl rfl rfl e1)
   cases q:ρ x with
   | none=>exact ⟨N1,h1,fun K sv tl fd=>aa (s1 K sv _ tl fd) (aa (am (b:=false) rfl rfl rfl) rfl)⟩
   | some v=>
    refine ⟨ay N1 x.str v.rv,(h1.put x v).congr fun y=>?_,fun K sv tl fd=>aa (s1 K sv _ tl fd) (aa (aF (b:=true) (by cases v <;> rfl) rfl (aa (bG rfl rfl rfl (oB h1 x.str v.rv)) rfl)) rfl)⟩
    unfold En.put
    split <;> rfl
  obtain ⟨N',h3,e3⟩:=k6 xs h2
  refine ⟨N',h3,fun K nm sv vl tl fd=>?_⟩
  obtain ⟨nm',vl',e4⟩:=e3 K (some (aw x)) sv (some (nI (ρ x))) tl fd
  exact ⟨nm',vl',fM rfl ⟨_,_,e2 K sv tl fd,e4⟩⟩
noncomputable def wk:YL:=.cons (.augattr 237 20 .Sub (.loc 0) (.val (.int 1))) (.cons (.for (.many [9,11]) .one (.cons (.back (.loc 10)) .nil) tc) (.cons (.expr (.call 219 (.cons (.loc 0) (.cons (.loc 8) (.cons (.attr 237 20 (.loc 0)) .nil))))) .nil))
theorem wA {k:Nat} (hk:k<3) (hp:ps.length<3) {σ:List V} (hN:NR N (puts ρ ps σ)):∃N',NR N' ρ/\∀(n:Nat) (q:Bool) (nm vl tl fd:Option RV),2<=n->∃nm' vl',
  bV wk (Kn q n) (gF w as m1 m2 ps b nm (some (.lst ((ps++[w]).map fun x=>.tup [aw x,nI (ρ x)]))) vl tl fd) (S h N ((k+1:Nat):Int) F rest)=some (.next (gF w as m1 m2 ps b nm' (some (.lst ((ps++[w]).map fun x=>.tup [aw x,nI (ρ x)]))) vl' tl fd) (S h N' k F rest)):=by
 obtain ⟨N',h1,e1⟩:=k6 (h:=h) (F:=F) (d:=k) (rest:=rest) (w:=w) (as:=as) (m1:=m1) (m2:=m2) (ps:=ps) (b:=b) (ρ:=ρ) (ps++[w]).reverse hN
 refine ⟨N',h1.congr rR,fun n q nm vl tl fd hn=>?_⟩
 obtain ⟨nm',vl',e2⟩:=e1 (Kn q n) nm (some (.lst ((ps++[w]).map fun x=>.tup [aw x,nI (ρ x)]))) vl tl fd
 refine ⟨nm',vl',aa (k7 (z:=.int k) rfl rfl rfl rfl ?_ rfl) (aa (j8 ?_ e2) (aa (cG (ag rfl ((w7 q (ps++[w]) hk).at hn))) rfl))⟩
 ·show some (RV.int (((k+1:Nat):Int)-1))=some (.int k)
  congr 2;lia
 ·rw [List.map_reverse]
  show aq (aq ((if ((ps++[w]).map fun x=>RV.tup [aw x,nI (ρ x)]).length<=16777216 then some (RV.lst ((ps++[w]).map fun x=>.tup [aw x,nI (ρ x)]).reverse) else none).map fun r=>.ok r (S h N k F rest)) fun r s₁=>aq (some (.ok [] s₁)) fun l s₂=>some (.ok (r::l) s₂)) (uy q)=_
  rw [if_pos (by simp;lia)]
  rfl
noncomputable def zu:YL:=.cons (.asg 12 (.comp (.many [1,2]) .zip (.cons (.loc 5) (.cons (.loc 2) .nil)) (.call 156 (.cons (.loc 2) (.cons (.call 248 (.cons (.loc 3) (.cons (.loc 1) .nil))) (.cons (.attr 237 0 (.loc 3)) (.cons (.attr 237 1 (.loc 3)) .nil))))) [".0","name","value"] [0])) (.cons (.expr (.call 212 (.cons (.loc 0) (.cons (.loc 8) (.cons (.attr 237 20 (.loc 0)) .nil))))) (.cons (.for (.many [9,11]) .zip (.cons (.loc 5) (.cons (.loc 12) .nil)) (.cons (.setitem (.attr 237 5 (.loc 0)) (.loc 9) (.loc 11)) .nil)) (.cons (.augattr 237 20 .Add (.loc 0) (.val (.int 1))) (.cons (.fin (.cons (.asg 13 (.ite (.cmp .Lt (.loc 7) (.val (.int 0))) (.vcall 3 (.cons (.loc 6) .nil)) (.vcall 4 (.cons (.loc 1) (.cons (.loc 7) .nil))))) .nil) wk) (.cons (.ret (.call 156 (.cons (.loc 13) (.cons (.call 248 (.cons (.loc 0) (.cons (.loc 1) .nil))) (.cons (.attr 237 0 (.loc 0)) (.cons (.attr 237 1 (.loc 0)) .nil)))))) .nil)))))
theorem iE {l:List RV} {st:ai} (h:l.length<100):callB .len st [.lst l]=some (.int l.length):=if_pos (by lia)
theorem zQ {L j:Nat} {k:Nat} {vs:List V} (hF:F.lookup w.str=some (.tup [.lst (ps.map aw),b.rv,.int (-1)])) (hl:ps.length=vs.length) (hp:ps.length<3) (hk:k<3) (hN:NR N ρ) (hv:∀v∈vs,v.Ok) (hj:rest[j]? = some (.meth 593 (L+12))) (m2:RV) {D:Nat} (hD:5<=D) :
  match bN ps vs with
  | .error e=>Go true (D+1) 274 [.obj 2,aw w,.lst (vs.map V.rv),.obj (j+10),m2] (S h N k F rest) (.exc e (S h N k F rest))
  | .ok σ=>∀(x:VR) (N'' rest''),x.Ok->NR N'' (puts ρ ps σ)->Go true D 593 [.obj (L+12),b.rv] (S h (ib N ps σ) ((k+1:Nat):Int) F rest) (x.res.out (S h N'' ((k+1:Nat):Int) F rest''))->
   ∃N3,NR N3 ρ/\Go true (D+1) 274 [.obj 2,aw w,.lst (vs.map V.rv),.obj (j+10),m2] (S h N k F rest) ((x.bind (dp w.kd)).res.out (S h N3 k F rest'')):=by
 have pre:∀n,D<=n->∀o,bV zu (Kn true n) (gF w (.lst (vs.map V.rv)) (.obj (j+10)) m2 ps b none (some (.lst ((ps++[w]).map fun x=>.tup [aw x,nI (ρ x)]))) none none none) (S h N k F rest)=o->
   bV e274.code (Kn true n) [some (.obj 2),some (aw w),some (.lst (vs.map V.rv)),some (.obj (j+10)),some m2,none,none,none,none,none,none,none,none,none] (S h N k F rest)=o:=fun n hn o e=>by
  have l1:(ps.map aw).length<100:=by rw [List.length_map];lia
  have l2:(vs.map V.rv).length<100:=by rw [List.length_map];lia
  have l3:((ps++[w]).map aw).length<16777216:=by rw [List.length_map,List.length_append,List.length_singleton];lia
  have l4:(((ps.map aw).length:Int) != (vs.map V.rv).length)=false:=by rw [List.length_map,List.length_map,hl];simp
  have t1:cu (.cmp .NotIn (.loc 1) (.attr 237 8 (.loc 0))) (Kn true n) (gP w (.lst (vs.map V.rv)) (.obj (j+10)) m2 [none,none,none,none,none,none,none,none,none]) (S h N k F rest)=some (.ok false (S h N k F rest)):=by
   show some (Out.ok (!(F.lookup w.str).isSome) _)=_
   rw [hF];rfl
  have s2:ex (.unpack [5,6,7] false (.idx (.attr 237 8 (.loc 0)) (.loc 1))) (Kn true n) (gP w (.lst (vs.map V.rv)) (.obj (j+10)) m2 [none,none,none,none,none,none,none,none,none]) (S h N k F rest)=some (.next (gP w (.lst (vs.map V.rv)) (.obj (j+10)) m2 [some (.lst (ps.map aw)),some b.rv,some (.int (-1)),none,none,none,none,none,none]) (S h N k F rest)):=
   bc (aG rfl rfl (show dA (S h N k F rest) (.obj 6) (.str w.str)=_ from hF)) rfl
  have t3:cu (.cmp .NotEq (.prim .len (.cons (.loc 5) .nil)) (.prim .len (.cons (.loc 2) .nil))) (Kn true n) (gP w (.lst (vs.map V.rv)) (.obj (j+10)) m2 [some (.lst (ps.map aw)),some b.rv,some (.int (-1)),none,none,none,none,none,none]) (S h N k F rest)=some (.ok (((ps.map aw).length:Int) != (vs.map V.rv).length) (S h N k F rest)):=
   ci (bZ (bJ rfl (iE l1)) (bJ rfl (iE l2)) rfl)
  have t4:cu (.cmp .GtE (.attr 237 20 (.loc 0)) (.attr 237 3 (.loc 0))) (Kn true n) (gP w (.lst (vs.map V.rv)) (.obj (j+10)) m2 [some (.lst (ps.map aw)),some b.rv,some (.int (-1)),none,none,none,none,none,none]) (S h N k F rest)=some (.ok (decide ((k:Int)>=20)) (S h N k F rest)):=rfl
  have b5:binI .Add (.lst (ps.map aw)) (.lst [aw w])=some (.lst ((ps++[w]).map aw)):=by
   rw [List.map_append];exact if_pos (Nat.le_trans (Nat.add_le_add_right (Nat.le_of_lt l1) 1) (by decide))
  have s5:ex (.asg 8 (.bin .Add (.loc 5) (.lst (.cons (.loc 1) .nil)))) (Kn true n) (gP w (.lst (vs.map V.rv)) (.obj (j+10)) m2 [some (.lst (ps.map aw)),some b.rv,some (.int (-1)),none,none,none,none,none,none]) (S h N k F rest)=some (.next (gP w (.lst (vs.map V.rv)) (.obj (j+10)) m2 [some (.lst (ps.map aw)),some b.rv,some (.int (-1)),some (.lst ((ps++[w]).map aw)),none,none,none,none,none]) (S h N k F rest)):=
   aD (aJ rfl rfl b5)
  have s6:ex (.asg 10 (.comp (.one 1) .one (.cons (.loc 8) .nil) (.tup (.cons (.loc 1) (.cons (.meth .get (.attr 237 5 (.loc 2)) (.cons (.loc 1) .nil)) .nil))) [".0","name"] [0])) (Kn true n) (gP w (.lst (vs.map V.rv)) (.obj (j+10)) m2 [some (.lst (ps.map aw)),some b.rv,some (.int (-1)),some (.lst ((ps++[w]).map aw)),none,none,none,none,none]) (S h N k F rest)=some (.next (gF w (.lst (vs.map V.rv)) (.obj (j+10)) m2 ps b none (some (.lst ((ps++[w]).map fun x=>.tup [aw x,nI (ρ x)]))) none none none) (S h N k F rest)):=
   rJ (du rfl l3 (mw hN (ps++[w]) none none))
  exact aa (am t1 rfl rfl) (aa s2 (aa (am t3 l4 rfl) (aa (am t4 (by rw [decide_eq_false_iff_not];lia) rfl) (aa s5 (aa s6 e)))))
 have zl:(pairs (ps.map aw) (vs.map V.rv)).length<16777216:=by rw [pairs_len,List.length_map];lia
 cases q:bN ps vs with
 | error e=>
  refine Go.of (E:=e274) rfl rfl fun n hn=>⟨_,pre n hn _ (aH (jH (pW rfl zl ?_))),rfl⟩
  have:=lJ (h:=h) (N:=N) (d:=k) (F:=F) (rest:=rest) (n:=n) ps vs hv (by lia) none none none
  rw [q] at this
  exact this
 | ok σ=>
  intro x N'' rest'' hx hN'' hw
  obtain ⟨N3,hN3,hf⟩:=wA (h:=h) (F:=F) (rest:=rest'') (w:=w) (as:=.lst (vs.map V.rv)) (m1:=.obj (j+10)) (m2:=m2) (ps:=ps) (b:=b) hk hp hN''
  refine ⟨N3,hN3,Go.of (E:=e274) rfl rfl fun n hn=>?_⟩
  have ht:=lJ (h:=h) (N:=N) (d:=k) (F:=F) (rest:=rest) (n:=n) ps vs hv (by lia) none none none
  rw [q] at ht
  obtain ⟨nm',vl',e1⟩:=mH (K:=Kn true n) (h:=h) (F:=F) (d:=k) (rest:=rest) (w:=w) (as:=.lst (vs.map V.rv)) (m1:=.obj (j+10)) (m2:=m2) (ps:=ps) (b:=b) ps σ hN none (some (.lst ((ps++[w]).map fun x=>.tup [aw x,nI (ρ x)]))) none (some (.lst (σ.map V.rv))) none
  have one:∀o,bV (.cons (.fin (.cons (.asg 13 (.ite (.cmp .Lt (.loc 7) (.val (.int 0))) (.vcall 3 (.cons (.loc 6) .nil)) (.vcall 4 (.cons (.loc 1) (.cons (.loc 7) .nil))))) .nil) wk) (.cons (.ret (.call 156 (.cons (.loc 13) (.cons (.call 248 (.cons (.loc 0) (.cons (.loc 1) .nil))) (.cons (.attr 237 0 (.loc 0)) (.cons (.attr 237 1 (.loc 0)) .nil)))))) .nil)) (Kn true n) (gF w (.lst (vs.map V.rv)) (.obj (j+10)) m2 ps b nm' (some (.lst ((ps++[w]).map fun x=>.tup [aw x,nI (ρ x)]))) vl' (some (.lst (σ.map V.rv))) none) (S h (ib N ps σ) ((k+1:Nat):Int) F rest)=o->
    bV e274.code (Kn true n) [some (.obj 2),some (aw w),some (.lst (vs.map V.rv)),some (.obj (j+10)),some m2,none,none,none,none,none,none,none,none,none] (S h N k F rest)=o:=fun o e=>
   pre n hn o (aa (rJ (du rfl zl ht)) (aa (cG (ag rfl ((uY (ps++[w])).at (by lia)))) (aa (j8 rfl e1) (aa (k7 (z:=.int ((k+1:Nat):Int)) rfl rfl rfl rfl rfl rfl) e))))
  have ev1:ev (.ite (.cmp .Lt (.loc 7) (.val (.int 0))) (.vcall 3 (.cons (.loc 6) .nil)) (.vcall 4 (.cons (.loc 1) (.cons (.loc 7) .nil)))) (Kn true n) (gF w (.lst (vs.map V.rv)) (.obj (j+10)) m2 ps b nm' (some (.lst ((ps++[w]).map fun x=>.tup [aw x,nI (ρ x)]))) vl' (some (.lst (σ.map V.rv))) none) (S h (ib N ps σ) ((k+1:Nat):Int) F rest)=some (x.res.out (S h N'' ((k+1:Nat):Int) F rest'')):=
   aS (b:=true) rfl rfl (sN rfl rfl (show (S h (ib N ps σ) ((k+1:Nat):Int) F rest)[j+10]? = _ from hj) (hw.at hn))
  cases x with
  | exc kk=>
   obtain ⟨nm2,vl2,e2⟩:=hf n false nm' vl' (some (.lst (σ.map V.rv))) none (by lia)
   exact ⟨_,one _ (aH (xm (aH (jH ev1)) e2)),rfl⟩
  | ok v=>
   obtain ⟨nm2,vl2,e2⟩:=hf n true nm' vl' (some (.lst (σ.map V.rv))) (some v.rv) (by lia)
   have h3:=(gS hx w.kd).at (n:=n) (st:=S h N3 k F rest'') (by lia)
   exact ⟨_,one _ (aa (zz (aa (aD ev1) rfl) e2) (aZ (ag (ac rfl (ac (ag rfl ((iF w).at (by lia))) rfl)) h3))),Res.so_fin⟩
end
noncomputable def zc:YL:=.cons (.unpack [4,5] false (.meth .pop (.loc 2) .nil)) (.cons (.asg 6 (.call 513 (.cons (.loc 4) .nil))) (.cons (.ite (.or (.loc 5) (.cmp .Eq (.prim .len (.cons (.loc 6) .nil)) (.val (.int 0)))) (.cons (.asg 7 (.bin .Sub (.prim .len (.cons (.loc 3) .nil)) (.prim .len (.cons (.loc 6) .nil)))) (.cons (.asg 8 (.call 562 (.cons (.loc 4) (.cons (.drop (.loc 3) (.loc 7)) (.cons (.loc 1) .nil))))) (.cons (.asg 3 (.bin .Add (.take (.loc 3) (.loc 7)) (.lst (.cons (.loc 8) .nil)))) .nil))) (.cons (.expr (.meth .append (.loc 2) (.cons (.tup (.cons (.loc 4) (.cons (.val (.bool true)) .nil))) .nil))) (.cons (.expr (.meth .extend (.loc 2) (.cons (.comp (.one 1) .rev (.cons (.loc 6) .nil) (.tup (.cons (.loc 1) (.cons (.val (.bool false)) .nil))) [".0","part"] []) .nil))) .nil))) .nil))
noncomputable def eR:YS:=.while (.cmp .Gt (.prim .len (.cons (.loc 2) .nil)) (.val (.int 0))) zc
noncomputable abbrev pr (r:RV):RV:=.tup [r,.bool false]
noncomputable abbrev gW (t0:RV) (L j:Nat) (vals:List RV) (a b c d e:Option RV):Lo:=[some t0,some (.obj (L+12)),some (.obj (j+10)),some (.lst vals),a,b,c,d,e]
noncomputable def oA:VR->LR
 | .ok v=>.ok [v]
 | .exc k=>.error k
structure KeptJ (L j:Nat) (r r':ai):Prop where
 len:r.length<=r'.length
 same:∀i,i<r.length->i≠L+5->i≠j->r'[i]? = r[i]?
theorem KeptJ.trans {L j:Nat} {r r' r'':ai} (a:KeptJ L j r r') (b:KeptJ L j r' r''):KeptJ L j r r'':=
 ⟨Nat.le_trans a.len b.len,fun i hi h1 h2=>(b.same i (Nat.lt_of_lt_of_le hi a.len) h1 h2).trans (a.same i hi h1 h2)⟩
theorem Kept.toJ {L j:Nat} {r r':ai} (a:Kept L r r'):KeptJ L j r r':=⟨a.len,fun i hi h _=>a.same i hi h⟩
theorem KeptJ.set {L j:Nat} {r:ai} {o:AObj}:KeptJ L j r (r.set j o):=⟨by rw [List.length_set];exact Nat.le_refl _,fun i _ _ h=>by rw [List.getElem?_set_ne (Ne.symm h)]⟩
section
variable {h:AObj} {N F:List (Str×RV)} {d:Int} {rest:ai} {ρ:En} {n L j c:Nat} {stk:List RV} {K:cK} {γ:Lo}
theorem Good.set {l l':List RV} (g:Good L c rest) (hj:rest[j]? = some (.list l)) (hne:j≠L+5):Good L c (rest.set j (.list l')):=by
 obtain ⟨l1,e,q⟩:=g.asked
 have n1:j≠L+1:=fun z=>by rw [z,g.attrs] at hj;exact nomatch hj
 have n2:j≠L+2:=fun z=>by rw [z,g.inst] at hj;exact nomatch hj
 exact ⟨by rw [List.getElem?_set_ne n1];exact g.attrs,by rw [List.getElem?_set_ne n2];exact g.inst,l1,by rw [List.getElem?_set_ne hne];exact e,q⟩
theorem eL {l l':List RV} (hj:rest[j]? = some (.list l)):(rest.set j (.list l'))[j]? = some (.list l'):=List.getElem?_set_self (bL hj)
theorem rU (hj:rest[j]? = some (.list stk)):listAt (S h N d F rest) (j+10)=some stk:=dP (st:=S h N d F rest) hj
theorem gz {m:CM} (hj:rest[j]? = some (.list stk)):mq m (S h N d F rest) (.obj (j+10))=(m.ty=="list"):=by
 show cond (m.ty=="list") (listAt (S h N d F rest) (j+10)).isSome (rest[j]?.bind AObj.asDict).isSome=_
 rw [rU hj,hj]
 cases m.ty=="list" <;> rfl
theorem pop_at {x:RV} (hj:rest[j]? = some (.list (stk++[x]))) (hl:stk.length<16777215):dH .pop (S h N d F rest) (.obj (j+10)) []=some (x,S h N d F (rest.set j (.list stk))):=
 ak rfl (ak (rU hj) (ak List.getLast?_concat ((if_pos ⟨rfl,List.length_append▸Nat.succ_lt_succ hl⟩).trans (congrArg (fun l=>some (x,S h N d F (rest.set j (.list l)))) List.dropLast_concat))))
theorem th {x:RV} (hj:rest[j]? = some (.list stk)) (hl:stk.length<16777216):dH .append (S h N d F rest) (.obj (j+10)) [x]=some (.none,S h N d F (rest.set j (.list (stk++[x])))):=ak rfl (ak (rU hj) (if_pos hl))
theorem xi {l:List RV} (hj:rest[j]? = some (.list stk)) (hl:stk.length+l.length<16777216):dH .extend (S h N d F rest) (.obj (j+10)) [.lst l]=some (.none,S h N d F (rest.set j (.list (stk++l)))):=ak rfl (ak (rU hj) (if_pos hl))
theorem wj (hj:rest[j]? = some (.list stk)) (hl:stk.length<16777216):callB .len (S h N d F rest) [.obj (j+10)]=some (.int stk.length):=ak (rU hj) (if_pos (Nat.lt_of_lt_of_le hl (by decide)))
theorem gm {l:List RV} {st:ai} (h:l.length<16777216):callB .len st [.lst l]=some (.int l.length):=if_pos (by lia)
theorem li {t0:RV} {vals:List RV} {x1 x2 x3 x4 x5:Option RV} (hj:rest[j]? = some (.list stk)) (hl:stk.length<16777216):cu (.cmp .Gt (.prim .len (.cons (.loc 2) .nil)) (.val (.int 0))) (Kn true n) (gW t0 L j vals x1 x2 x3 x4 x5) (S h N d F rest)=some (.ok (decide ((stk.length:Int)>0)) (S h N d F rest)):=
 ci (bZ (bJ rfl (wj hj hl)) rfl rfl)
theorem sm {K:cK}:∀(l:List RV) (a b:Option RV) (st:ai),bw (.one 1) (fun γ s=>ev (.tup (.cons (.loc 1) (.cons (.val (.bool false)) .nil))) K γ s) l [a,b] st=some (.ok (l.map pr) st)
 | [],_,_,_=>rfl
 | x::l,a,b,st=>dD rfl (aL (ac rfl (ac rfl rfl)) (cn rfl)) (sm l a (some x) st)
theorem qX {t:T} {t0:RV} {vals:List RV} (hj:rest[j]? = some (.list (stk++[pr t.rv]))) (hp:t.parts≠[]) (hl:stk.length+t.parts.length<100000) (hn:1<=n) (x1 x2 x3 x4 x5:Option RV) :
  ∃y1 y2 y3 y4 y5,ex eR (Kn true n) (gW t0 L j vals x1 x2 x3 x4 x5) (S h N d F rest)=ex eR (Kn true n) (gW t0 L j vals y1 y2 y3 y4 y5) (S h N d F (((rest.set j (.list stk)).set j (.list (stk++[.tup [t.rv,.bool true]]))).set j (.list ((stk++[.tup [t.rv,.bool true]])++(t.parts.map pr).reverse)))):=by
 have h1:=eL (l':=stk) hj
 have h2:=eL (l':=stk++[.tup [t.rv,.bool true]]) h1
 have pl:0<t.parts.length:=List.length_pos_iff.mpr hp
 have s1:ex (.unpack [4,5] false (.meth .pop (.loc 2) .nil)) (Kn true n) (gW t0 L j vals x1 x2 x3 x4 x5) (S h N d F rest)=some (.next (gW t0 L j vals (some t.rv) (some (.bool false)) x3 x4 x5) (S h N d F (rest.set j (.list stk)))):=
  bc (dZ rfl (gz hj) rfl (pop_at hj (by lia))) rfl
 have t3:cu (.or (.loc 5) (.cmp .Eq (.prim .len (.cons (.loc 6) .nil)) (.val (.int 0)))) (Kn true n) (gW t0 L j vals (some t.rv) (some (.bool false)) (some (.lst t.parts)) x4 x5) (S h N d F (rest.set j (.list stk)))=some (.ok ((t.parts.length:Int)==0) (S h N d F (rest.set j (.list stk)))):=
  ci (et (b:=false) rfl rfl (bZ (bJ rfl (gm (by lia))) rfl rfl))
 have c5:ev (.comp (.one 1) .rev (.cons (.loc 6) .nil) (.tup (.cons (.loc 1) (.cons (.val (.bool false)) .nil))) [".0","part"] []) (Kn true n) (gW t0 L j vals (some t.rv) (some (.bool false)) (some (.lst t.parts)) x4 x5) (S h N d F ((rest.set j (.list stk)).set j (.list (stk++[.tup [t.rv,.bool true]])))) =
   some (.ok (.lst (t.parts.map pr).reverse) (S h N d F ((rest.set j (.list stk)).set j (.list (stk++[.tup [t.rv,.bool true]]))))):=by
  rw [<-List.map_reverse]
  exact du (l:=t.parts.reverse) rfl (by rw [List.length_reverse];lia) (sm _ none none _)
 refine ⟨_,_,_,_,_,gv (li hj (by rw [List.length_append,List.length_singleton];lia)) (by simp) (aa s1 (aa (aD (ag rfl ((nk t _).at hn))) (aa (am t3 (by rw [beq_eq_false_iff_ne];lia) (aa (cG (dZ rfl (gz h1) rfl (th h1 (by lia)))) (aa (cG (dZ rfl (gz h2) (ac c5 rfl) (xi h2 ?_))) rfl))) rfl))) rfl⟩
 rw [List.length_append,List.length_singleton,List.length_reverse,List.length_map];lia
theorem tz {a b:List RV} {i:Int} (hi:i=a.length) (hl:a.length+b.length<100000):im (.lst (a++b)) (.int i)=some (.lst a):=by
 subst hi
 show (if 0<=(a.length:Int)/\(a++b).length<=16777216 then some (RV.lst ((a++b).take (a.length:Int).toNat)) else none)=_
 rw [if_pos ⟨by lia,by rw [List.length_append];lia⟩,Int.toNat_natCast,List.take_left]
theorem rK {a b:List RV} {i:Int} (hi:i=a.length) (hl:a.length+b.length<100000):nh (.lst (a++b)) (.int i)=some (.lst b):=by
 subst hi
 show (if 0<=(a.length:Int)/\(a++b).length<=16777216 then some (RV.lst ((a++b).drop (a.length:Int).toNat)) else none)=_
 rw [if_pos ⟨by lia,by rw [List.length_append];lia⟩,Int.toNat_natCast,List.drop_left]
theorem xM {e e':XE} {st s₁ s₂:ai} {r r' v:RV} (h:ev e K γ st=some (.ok r s₁)) (h2:ev e' K γ s₁=some (.ok r' s₂)) (h3:nh r r'=some v):ev (.drop e e') K γ st=some (.ok v s₂):=(av h (av h2 (bW h3)):aq (ev e K γ st) (rB e' K γ fun _=>nh)=_)
theorem sM {e e':XE} {st s₁ s₂:ai} {r r' v:RV} (h:ev e K γ st=some (.ok r s₁)) (h2:ev e' K γ s₁=some (.ok r' s₂)) (h3:im r r'=some v):ev (.take e e') K γ st=some (.ok v s₂):=(av h (av h2 (bW h3)):aq (ev e K γ st) (rB e' K γ fun _=>im)=_)
noncomputable def TurnEnd (n:Nat) (t0:RV) (L j:Nat) (v0 v1:List RV) (st st':ai) (x1 x2 x3 x4 x5:Option RV):VR->Prop
 | .ok v=>∃y1 y2 y3 y4 y5,ex eR (Kn true n) (gW t0 L j (v0++v1) x1 x2 x3 x4 x5) st=ex eR (Kn true n) (gW t0 L j (v0++[v.rv]) y1 y2 y3 y4 y5) st'
 | .exc k=>∃γ',ex eR (Kn true n) (gW t0 L j (v0++v1) x1 x2 x3 x4 x5) st=some (.exc k γ' st')
theorem qT {t:T} {t0:RV} {bt:Bool} {v0 v1:List RV} {x:VR} {D:Nat} {st':ai} (hj:rest[j]? = some (.list (stk++[.tup [t.rv,.bool bt]]))) (hb:bt=true\/t.parts=[]) (hv:v1.length=t.parts.length) (hl:stk.length<100000) (hl2:v0.length+v1.length<99999) (hD:1<=D)
  (hw:Go true D 562 [t.rv,.lst v1,.obj (L+12)] (S h N d F (rest.set j (.list stk))) (x.res.out st')) (hn:D<=n) (x1 x2 x3 x4 x5:Option RV) :
  TurnEnd n t0 L j v0 v1 (S h N d F rest) st' x1 x2 x3 x4 x5 x:=by
 have h1:=eL (l':=stk) hj
 have s1:ex (.unpack [4,5] false (.meth .pop (.loc 2) .nil)) (Kn true n) (gW t0 L j (v0++v1) x1 x2 x3 x4 x5) (S h N d F rest)=some (.next (gW t0 L j (v0++v1) (some t.rv) (some (.bool bt)) x3 x4 x5) (S h N d F (rest.set j (.list stk)))):=
  bc (dZ rfl (gz hj) rfl (pop_at hj (by lia))) rfl
 have pl:t.parts.length<16777216:=by lia
 have vl:(v0++v1).length<16777216:=by rw [List.length_append];lia
 have tt:=li (n:=n) (L:=L) (h:=h) (N:=N) (d:=d) (F:=F) (t0:=t0) (vals:=v0++v1) (x1:=x1) (x2:=x2) (x3:=x3) (x4:=x4) (x5:=x5) hj (by rw [List.length_append,List.length_singleton];lia)
 have t3:cu (.or (.loc 5) (.cmp .Eq (.prim .len (.cons (.loc 6) .nil)) (.val (.int 0)))) (Kn true n) (gW t0 L j (v0++v1) (some t.rv) (some (.bool bt)) (some (.lst t.parts)) x4 x5) (S h N d F (rest.set j (.list stk)))=some (.ok true (S h N d F (rest.set j (.list stk)))):=by
  rcases hb with e | e
  ·exact ci (j7 (b:=bt) rfl e)
  ·cases bt with
   | true=>exact ci (j7 (b:=true) rfl rfl)
   | false=>exact ci (et (b:=false) rfl rfl (bZ (bJ rfl (gm pl)) rfl (by rw [e];rfl)))
 have hi:(((v0++v1).length:Int)-t.parts.length)=v0.length:=by rw [List.length_append];lia
 have a7:ex (.asg 7 (.bin .Sub (.prim .len (.cons (.loc 3) .nil)) (.prim .len (.cons (.loc 6) .nil)))) (Kn true n) (gW t0 L j (v0++v1) (some t.rv) (some (.bool bt)) (some (.lst t.parts)) x4 x5) (S h N d F (rest.set j (.list stk)))=some (.next (gW t0 L j (v0++v1) (some t.rv) (some (.bool bt)) (some (.lst t.parts)) (some (.int (((v0++v1).length:Int)-t.parts.length))) x5) (S h N d F (rest.set j (.list stk)))):=
  aD (aJ (bJ rfl (gm vl)) (bJ rfl (gm pl)) rfl)
 have a8:ev (.call 562 (.cons (.loc 4) (.cons (.drop (.loc 3) (.loc 7)) (.cons (.loc 1) .nil)))) (Kn true n) (gW t0 L j (v0++v1) (some t.rv) (some (.bool bt)) (some (.lst t.parts)) (some (.int (((v0++v1).length:Int)-t.parts.length))) x5) (S h N d F (rest.set j (.list stk)))=some (x.res.out st'):=
  ag (ac rfl (ac (xM rfl rfl (rK hi (by lia))) (ac rfl rfl))) (hw.at hn)
 have s6:ex (.asg 6 (.call 513 (.cons (.loc 4) .nil))) (Kn true n) (gW t0 L j (v0++v1) (some t.rv) (some (.bool bt)) x3 x4 x5) (S h N d F (rest.set j (.list stk)))=some (.next (gW t0 L j (v0++v1) (some t.rv) (some (.bool bt)) (some (.lst t.parts)) x4 x5) (S h N d F (rest.set j (.list stk)))):=
  aD (ag rfl ((nk t _).at (by lia)))
 cases x with
 | exc k=>exact ⟨_,tN tt (by simp) (aa s1 (aa s6 (aH (aF t3 rfl (aa a7 (aH (jH a8)))))))⟩
 | ok v=>
  have b9:binI .Add (.lst v0) (.lst [v.rv])=some (.lst (v0++[v.rv])):=if_pos (by rw [List.length_singleton];lia)
  have a9:ex (.asg 3 (.bin .Add (.take (.loc 3) (.loc 7)) (.lst (.cons (.loc 8) .nil)))) (Kn true n) (gW t0 L j (v0++v1) (some t.rv) (some (.bool bt)) (some (.lst t.parts)) (some (.int (((v0++v1).length:Int)-t.parts.length))) (some v.rv)) st'=some (.next (gW t0 L j (v0++[v.rv]) (some t.rv) (some (.bool bt)) (some (.lst t.parts)) (some (.int (((v0++v1).length:Int)-t.parts.length))) (some v.rv)) st'):=
   aD (aJ (sM rfl rfl (tz hi (by lia))) rfl b9)
  exact ⟨_,_,_,_,_,gv tt (by simp) (aa s1 (aa s6 (aa (aF t3 rfl (aa a7 (aa (aD a8) (aa a9 rfl)))) rfl))) rfl⟩
end
noncomputable def lD (D:Nat) (t0:RV) (L j:Nat) (vals:List V) (st st':ai):LR->Prop
 | .ok vs=>∀n,D<=n->∀a b c d e,∃a' b' c' d' e',ex eR (Kn true n) (gW t0 L j (vals.map V.rv) a b c d e) st=ex eR (Kn true n) (gW t0 L j ((vals++vs).map V.rv) a' b' c' d' e') st'
 | .error k=>∀n,D<=n->∀a b c d e,∃γ',ex eR (Kn true n) (gW t0 L j (vals.map V.rv) a b c d e) st=some (.exc k γ' st')
section
variable {h:AObj} {F:List (Str×RV)} {d:Int} {ρ:En} {D u L j:Nat} {t0:RV}
noncomputable def RunP (h:AObj) (F:List (Str×RV)) (d:Int) (ρ:En) (D u:Nat) (t0:RV) (L j:Nat) (ts:List RV) (sz:Nat) (x:LR):Prop:=
 ∀⦃c:Nat⦄ ⦃stk:List RV⦄ ⦃vals:List V⦄ ⦃rest:ai⦄ ⦃N:List (Str×RV)⦄,NR N ρ->Good L c rest->rest[j]? = some (.list (stk++(ts.map pr).reverse))->c+sz*u<=16000000->stk.length+sz<=16000->vals.length+sz<=16000->
  ∃N' rest',NR N' ρ/\Good L (c+sz*u) rest'/\KeptJ L j rest rest'/\(∀vs,x=.ok vs->rest'[j]? = some (.list stk))/\lD D t0 L j vals (S h N d F rest) (S h N' d F rest') x
theorem RunP.nil:RunP h F d ρ D u t0 L j [] 0 (.ok []):=fun c stk vals rest N hN g hj _ _ _=>
 ⟨N,rest,hN,g.mono (by lia),Kept.refl.toJ,fun _ _=>by simpa using hj,fun n _ a b c d e=>⟨a,b,c,d,e,by rw [List.append_nil]⟩⟩
theorem RunP.cons {t:RV} {ts:List RV} {s s':Nat} {x:VR} {y:LR} (a:RunP h F d ρ D u t0 L j [t] s (oA x)) (b:RunP h F d ρ D u t0 L j ts s' y) (hs:0<s) (hlen:ts.length<=s'):RunP h F d ρ D u t0 L j (t::ts) (s+s') (k9 x y):=fun c stk vals rest N hN g hj hc hl hv=>by
 have hm:(s+s')*u=s*u+s'*u:=Nat.add_mul _ _ _
 obtain ⟨N1,r1,hN1,g1,k1,j1,e1⟩:=a (stk:=stk++(ts.map pr).reverse) (vals:=vals) hN g (by rw [hj];simp) (by lia) (by rw [List.length_append,List.length_reverse,List.length_map];lia) (by lia)
 cases x with
 | exc k=>exact ⟨N1,r1,hN1,g1.mono (by lia),k1,nofun,e1⟩
 | ok v=>
  have hj1:=j1 _ rfl
  obtain ⟨N2,r2,hN2,g2,k2,j2,e2⟩:=b (vals:=vals++[v]) hN1 g1 hj1 (by lia) (by lia) (by rw [List.length_append,List.length_singleton];lia)
  refine ⟨N2,r2,hN2,g2.mono (by lia),k1.trans k2,?_,?_⟩
  ·cases y with
   | error k=>exact nofun
   | ok vs=>exact fun _ _=>j2 _ rfl
  ·cases y with
   | error k=>
    intro n hn a b c d e
    obtain ⟨a1,b1,c1,d1,f1,q1⟩:=e1 n hn a b c d e
    obtain ⟨γ',q2⟩:=e2 n hn a1 b1 c1 d1 f1
    exact ⟨γ',q1.trans q2⟩
   | ok vs=>
    intro n hn a b c d e
    obtain ⟨a1,b1,c1,d1,f1,q1⟩:=e1 n hn a b c d e
    obtain ⟨a2,b2,c2,d2,f2,q2⟩:=e2 n hn a1 b1 c1 d1 f1
    refine ⟨a2,b2,c2,d2,f2,q1.trans (q2.trans ?_)⟩
    rw [List.append_assoc];rfl
noncomputable def NodeOk (h:AObj) (F:List (Str×RV)) (d:Int) (ρ:En) (D u L:Nat) (t:T) (vs:List V) (x:VR):Prop:=
 ∀⦃c:Nat⦄ ⦃rest:ai⦄ ⦃N:List (Str×RV)⦄,NR N ρ->Good L c rest->c+u<=16000000->∃N' rest',NR N' ρ/\Good L (c+u) rest'/\Kept L rest rest'/\Go true D 562 [t.rv,.lst (vs.map V.rv),.obj (L+12)] (S h N d F rest) (x.res.out (S h N' d F rest'))
theorem RunP.done {t:T} {bt:Bool} {vs:List V} {x:VR} (hx:NodeOk h F d ρ D u L t vs x) (hb:bt=true\/t.parts=[]) (hvs:vs.length=t.parts.length) (hne:j≠L+5) (hD:1<=D) {c:Nat} {stk:List RV} {vals:List V} {rest:ai} {N:List (Str×RV)} (hN:NR N ρ) (g:Good L c rest)
  (hj:rest[j]? = some (.list (stk++[.tup [t.rv,.bool bt]]))) (hc:c+u<=16000000) (hl:stk.length<16001) (hv:vals.length+vs.length<=16000) :
  ∃N' rest',NR N' ρ/\Good L (c+u) rest'/\KeptJ L j rest rest'/\(∀vs,oA x=.ok vs->rest'[j]? = some (.list stk))/\∀n,D<=n->∀x1 x2 x3 x4 x5,TurnEnd n t0 L j (vals.map V.rv) (vs.map V.rv) (S h N d F rest) (S h N' d F rest') x1 x2 x3 x4 x5 x:=by
 obtain ⟨N1,r1,hN1,g1,k1,e1⟩:=hx hN (g.set (l':=stk) hj hne) hc
 have hjl:=bL hj
 refine ⟨N1,r1,hN1,g1,KeptJ.set.trans k1.toJ,fun _ _=>?_,fun n hn x1 x2 x3 x4 x5=>qT hj hb (by rw [List.length_map];exact hvs) (by lia) (by rw [List.length_map,List.length_map];lia) hD e1 hn x1 x2 x3 x4 x5⟩
 rw [k1.same j (by rw [List.length_set];exact hjl) hne]
 exact eL hj
theorem RunP.node {t:T} {s:Nat} {y:LR} {f:List V->VR} (a:RunP h F d ρ D u t0 L j t.parts s y) (hy:∀vs,y=.ok vs->vs.length=t.parts.length/\NodeOk h F d ρ D u L t vs (f vs)) (hs:t.parts.length<=s) (hne:j≠L+5) (hD:1<=D) (h0:t.parts=[]->y=.ok []):RunP h F d ρ D u t0 L j [t.rv] (s+1) (oA (nA y f)):=fun c stk vals rest N hN g hj hc hl hv=>by
 have hm:(s+1)*u=s*u+u:=Nat.succ_mul s u
 have hj':rest[j]? = some (.list (stk++[pr t.rv])):=hj
 by_cases hp:t.parts=[]
 ·have hy0:=h0 hp
  subst hy0
  obtain ⟨q1,q2⟩:=hy [] rfl
  obtain ⟨N1,r1,hN1,g1,k1,j1,e1⟩:=RunP.done (t0:=t0) (vals:=vals) q2 (.inr hp) q1 hne hD hN g hj' (by lia) (by lia) (by rw [List.length_nil];lia)
  refine ⟨N1,r1,hN1,g1.mono (by lia),k1,j1,?_⟩
  show lD D t0 L j vals _ _ (oA (f []))
  cases e:f [] with
  | exc k=>
   rw [e] at e1
   intro n hn a b c d e
   obtain ⟨γ',w⟩:=e1 n hn a b c d e
   exact ⟨γ',by rw [<-w,List.map_nil,List.append_nil]⟩
  | ok v=>
   rw [e] at e1
   intro n hn a b c d e
   obtain ⟨y1,y2,y3,y4,y5,w⟩:=e1 n hn a b c d e
   exact ⟨y1,y2,y3,y4,y5,by rw [List.map_nil,List.append_nil] at w;rw [w,List.map_append];rfl⟩
 ·have g1:=g.set (l':=stk) hj' hne
  have h1:=eL (l':=stk) hj'
  have g2:=g1.set (l':=stk++[.tup [t.rv,.bool true]]) h1 hne
  have h2:=eL (l':=stk++[.tup [t.rv,.bool true]]) h1
  have g3:=g2.set (l':=(stk++[.tup [t.rv,.bool true]])++(t.parts.map pr).reverse) h2 hne
  have h3:=eL (l':=(stk++[.tup [t.rv,.bool true]])++(t.parts.map pr).reverse) h2
  have to:=fun n (hn:D<=n) (vals:List V)=>qX (h:=h) (N:=N) (d:=d) (F:=F) (L:=L) (t0:=t0) (vals:=vals.map V.rv) (n:=n) hj' hp (by lia) (by lia)
  have hu:u<=s*u+u:=by lia
  obtain ⟨N1,r1,hN1,g4,k4,j4,e4⟩:=a (vals:=vals) hN g3 h3 (by lia) (by rw [List.length_append,List.length_singleton];lia) (by lia)
  have kk:=(KeptJ.set (o:=.list stk)).trans ((KeptJ.set (L:=L) (o:=.list (stk++[.tup [t.rv,.bool true]]))).trans ((KeptJ.set (o:=.list ((stk++[.tup [t.rv,.bool true]])++(t.parts.map pr).reverse))).trans k4))
  cases y with
  | error k=>
   refine ⟨N1,r1,hN1,g4.mono (by lia),kk,nofun,fun n hn a b c d e=>?_⟩
   obtain ⟨y1,y2,y3,y4,y5,q1⟩:=to n hn vals a b c d e
   obtain ⟨γ',q2⟩:=e4 n hn y1 y2 y3 y4 y5
   exact ⟨γ',q1.trans q2⟩
  | ok vs=>
   obtain ⟨q1,q2⟩:=hy vs rfl
   obtain ⟨N2,r2,hN2,g5,k5,j5,e5⟩:=RunP.done (t0:=t0) (vals:=vals) q2 (.inl rfl) q1 hne hD hN1 g4 (j4 _ rfl) (by lia) (by lia) (by lia)
   refine ⟨N2,r2,hN2,g5.mono (by lia),kk.trans k5,j5,?_⟩
   show lD D t0 L j vals _ _ (oA (f vs))
   cases e:f vs with
   | exc k=>
    rw [e] at e5
    intro n hn a b c d e
    obtain ⟨y1,y2,y3,y4,y5,w1⟩:=to n hn vals a b c d e
    obtain ⟨z1,z2,z3,z4,z5,w2⟩:=e4 n hn y1 y2 y3 y4 y5
    obtain ⟨γ',w3⟩:=e5 n hn z1 z2 z3 z4 z5
    exact ⟨γ',w1.trans (w2.trans (by rw [List.map_append];exact w3))⟩
   | ok v=>
    rw [e] at e5
    intro n hn a b c d e
    obtain ⟨y1,y2,y3,y4,y5,w1⟩:=to n hn vals a b c d e
    obtain ⟨z1,z2,z3,z4,z5,w2⟩:=e4 n hn y1 y2 y3 y4 y5
    obtain ⟨p1,p2,p3,p4,p5,w3⟩:=e5 n hn z1 z2 z3 z4 z5
    exact ⟨p1,p2,p3,p4,p5,w1.trans (w2.trans (by rw [List.map_append,List.map_append];exact w3))⟩
noncomputable def jJ (call:Nm->List V->VR) (ρ:En):T->List V->VR
 | .lit v,_=>tM v
 | .name x,_=>.ok (val ρ x)
 | .two op _ _,vs=>(match vs with | [u,v]=>l9 op u v | _=>.exc "")
 | .fn w _,vs=>call w vs
mutual
theorem T.run {call:Nm->List V->VR} {cf:Nm->Nat->Prop} (hne:j≠L+5) (hD:1<=D) (hρ:ρ.Ok) (hc:∀w vs,(call w vs).Ok) (hn:∀t vs,t.Fit cf->vs.length=t.parts.length->(∀v∈vs,v.Ok)->NodeOk h F d ρ D u L t vs (jJ call ρ t vs)) :
  ∀t:T,t.Fit cf->RunP h F d ρ D u t0 L j [t.rv] t.sz (oA (t.ev call ρ))
 | .lit v,ht=>RunP.node (t:=.lit v) (s:=0) (y:=.ok []) (f:=jJ call ρ (.lit v)) RunP.nil (fun vs e=>by cases e;exact ⟨rfl,hn _ _ ht rfl fun _ m=>absurd m List.not_mem_nil⟩) (Nat.le_refl _) hne hD fun _=>rfl
 | .name x,ht=>RunP.node (t:=.name x) (s:=0) (y:=.ok []) (f:=jJ call ρ (.name x)) RunP.nil (fun vs e=>by cases e;exact ⟨rfl,hn _ _ ht rfl fun _ m=>absurd m List.not_mem_nil⟩) (Nat.le_refl _) hne hD fun _=>rfl
 | .two op a b,ht=>by
  have ha:=T.run hne hD hρ hc hn a ht.1
  have hb:=T.run hne hD hρ hc hn b ht.2
  have pa:=T.sz_pos a
  have pb:=T.sz_pos b
  have e:(T.two op a b).ev call ρ=nA (k9 (a.ev call ρ) (k9 (b.ev call ρ) (.ok []))) (jJ call ρ (.two op a b)):=by
   rw [T.ev]
   cases a.ev call ρ <;> cases b.ev call ρ <;> rfl
  rw [e]
  have oa:=T.ev_ok hc hρ a ht.1
  have ob:=T.ev_ok hc hρ b ht.2
  refine RunP.node (t:=.two op a b) (s:=a.sz+b.sz) (ha.cons (hb.cons RunP.nil pb (Nat.le_refl _)) pa pb) (fun vs e=>?_) (show 2<=a.sz+b.sz by lia) hne hD nofun
  obtain ⟨u,us,h1,h2,rfl⟩:=bI e
  obtain ⟨v,vs,h3,h4,rfl⟩:=bI h2
  cases h4
  rw [h1] at oa
  rw [h3] at ob
  refine ⟨rfl,hn _ _ ht rfl fun w m=>?_⟩
  rcases List.mem_cons.mp m with rfl | m
  ·exact oa
  ·rw [List.mem_singleton.mp m];exact ob
 | .fn w l,ht=>by
  have hl:=TL.run hne hD hρ hc hn l ht.2
  refine RunP.node (t:=.fn w l) (s:=l.sz) (f:=jJ call ρ (.fn w l)) hl (fun vs e=>?_) (TL.len_sz l) hne hD fun e=>?_
  ·have:=TL.ev_len l vs e
   exact ⟨this,hn _ _ ht this (TL.ev_ok hc hρ l ht.2 vs e)⟩
  ·cases l with
   | nil=>rfl
   | cons t l=>cases e
theorem TL.run {call:Nm->List V->VR} {cf:Nm->Nat->Prop} (hne:j≠L+5) (hD:1<=D) (hρ:ρ.Ok) (hc:∀w vs,(call w vs).Ok) (hn:∀t vs,t.Fit cf->vs.length=t.parts.length->(∀v∈vs,v.Ok)->NodeOk h F d ρ D u L t vs (jJ call ρ t vs)) :
  ∀l:TL,l.Fit cf->RunP h F d ρ D u t0 L j l.rvs l.sz (l.ev call ρ)
 | .nil,_=>RunP.nil
 | .cons t l,hl=>(T.run hne hD hρ hc hn t hl.1).cons (TL.run hne hD hρ hc hn l hl.2) (T.sz_pos t) (TL.len_sz l)
end
end
theorem iC {K:cK} {γ:Lo} {st s₁:ai} {e:XE} {i:Nat} {C f:Addr} {p:Nat×List RV} (h:ev e K γ st=some (.ok (.obj i) s₁)) (hf:fieldsOf s₁ C (.obj i)=some p):ev (.bound f C e) K γ st=some (.ok (.obj s₁.length) (s₁++[.meth f i])):=(av h (ak rfl (bW hf)):aq (ev e K γ st) (oN f C)=_)
section
variable {h:AObj} {F:List (Str×RV)} {d:Int} {ρ:En} {D u L c:Nat} {t0:RV} {N:List (Str×RV)} {rest:ai}
theorem sO {t:T} {x:VR} (hr:RunP h F d ρ D u t.rv L rest.length [t.rv] t.sz (oA x)) (hN:NR N ρ) (g:Good L c rest) (hc:c+t.sz*u<=16000000) (hs:t.sz<=1000) :
  ∃N' rest',NR N' ρ/\Good L (c+t.sz*u) rest'/\Kept L rest rest'/\Go true (D+1) 567 [t.rv,.obj (L+12)] (S h N d F rest) (x.res.out (S h N' d F rest')):=by
 have hj:(rest++[AObj.list [pr t.rv]])[rest.length]? = some (.list [pr t.rv]):=by simp
 obtain ⟨N1,r1,hN1,g1,k1,j1,e1⟩:=hr (c:=c) (stk:=[]) (vals:=[]) hN (g.snoc (l:=[.list [pr t.rv]])) (by rw [hj];rfl) hc (by rw [List.length_nil];lia) (by rw [List.length_nil];lia)
 refine ⟨N1,r1,hN1,g1,⟨Nat.le_trans (by rw [List.length_append];lia) k1.len,fun i hi hne=>(k1.same i (by rw [List.length_append];lia) hne (by lia)).trans (List.getElem?_append_left hi)⟩,Go.of (E:=yB) rfl rfl fun n hn=>?_⟩
 have s1:ex (.unpack [2,3] true (.tup (.cons (.new (.cons (.tup (.cons (.loc 0) (.cons (.val (.bool false)) .nil))) .nil)) (.cons (.lst .nil) .nil)))) (Kn true n) [some t.rv,some (.obj (L+12)),none,none,none,none,none,none,none] (S h N d F rest)=some (.next (gW t.rv L rest.length [] none none none none none) (S h N d F (rest++[.list [pr t.rv]]))):=
  bc (aL (ac rfl (ac rfl rfl)) (cn rfl)) rfl
 cases x with
 | exc k=>
  obtain ⟨γ',q⟩:=e1 n hn none none none none none
  exact ⟨_,aa s1 (aH q),rfl⟩
 | ok v=>
  obtain ⟨y1,y2,y3,y4,y5,q⟩:=e1 n hn none none none none none
  have hj1:=j1 _ rfl
  exact ⟨_,aa s1 (aa (q.trans (gw (li hj1 (cn rfl)) rfl)) (ao (aK (aG rfl rfl rfl)))),rfl⟩
theorem rg {v:V} (hv:v.Ok) (hu:0<u) (hD:6<=D):NodeOk h F d ρ D u L (.lit v) [] (tM v):=fun c rest N hN g hc=>
 ⟨N,rest,hN,g.mono (by lia),.refl,(Go.of (d:=5) (E:=rT) rfl rfl fun n hn=>by
  have e:=(u1 hv).at (n:=n) (st:=S h N d F rest) hn
  have l:cP (.cons (.loc 0) (.cons (.attr 685 3 (.loc 2)) (.cons (.attr 685 4 (.loc 2)) .nil))) (Kn true n) [some v.tree,some (.lst []),some (.obj (L+12)),some (.str v.kd.str)] (S h N d F rest)=some (.ok [v.tree,.int 16,.int 6] (S h N d F rest)):=
   ac rfl (ac (dw rfl (g.attr 3) rfl) (ac (dw rfl (g.attr 4) rfl) rfl))
  have s1:ex (.asg 3 (.idx (.loc 0) (.val (.int 0)))) (Kn true n) [some v.tree,some (.lst []),some (.obj (L+12)),none] (S h N d F rest)=some (.next [some v.tree,some (.lst []),some (.obj (L+12)),some (.str v.kd.str)] (S h N d F rest)):=rfl
  have t:∀s:Str,(v.kd.str==s)=false->cu (.cmp .Eq (.loc 3) (.val (.str s))) (Kn true n) [some v.tree,some (.lst []),some (.obj (L+12)),some (.str v.kd.str)] (S h N d F rest)=some (.ok false (S h N d F rest)):=fun s e=>by rw [<-e];rfl
  have t2:cu (.or (.cmp .Eq (.loc 3) (.val (.str "neg"))) (.cmp .Eq (.loc 3) (.val (.str "not")))) (Kn true n) [some v.tree,some (.lst []),some (.obj (L+12)),some (.str v.kd.str)] (S h N d F rest)=some (.ok false (S h N d F rest)):=by cases v <;> rfl
  exact ⟨_,aa s1 (aa (am (t "two" (by cases v <;> rfl)) rfl rfl) (aa (am t2 rfl rfl) (aa (am (t "name" (by cases v <;> rfl)) rfl rfl) (aa (am (t "item" (by cases v <;> rfl)) rfl rfl) (aa (am (t "call" (by cases v <;> rfl)) rfl rfl) (aZ (bK (t "fn" (by cases v <;> rfl)) rfl (ag l e)))))))),Res.so_fin⟩).mono hD⟩
theorem qG (x:Nm) (hu:0<u) (hD:6<=D):NodeOk h F d ρ D u L (.name x) [] (.ok (val ρ x)):=fun c rest N hN g hc=>by
 obtain ⟨r1,g1,k1,e1⟩:=tC (h:=h) (F:=F) (d:=d) x hN g (by lia)
 refine ⟨N,r1,hN,g1.mono (by lia),k1,(Go.of (d:=5) (E:=rT) rfl rfl fun n hn=>?_).mono hD⟩
 exact ⟨_,aa rfl (aa (am (b:=false) rfl rfl rfl) (aa (am (b:=false) rfl rfl rfl) (ao (aF (b:=true) rfl rfl (ao (aK (o9 rfl (by rw [g.fields];rfl) (ac (aG rfl rfl rfl) rfl) (e1.at hn)))))))),rfl⟩
theorem rM {op:Op} {a b:T} {x y:V} (hx:x.Ok) (hy:y.Ok) (hu:0<u) (hD:8<=D):NodeOk h F d ρ D u L (.two op a b) [x,y] (l9 op x y):=fun c rest N hN g hc=>
 ⟨N,rest,hN,g.mono (by lia),.refl,(Go.of (d:=7) (E:=rT) rfl rfl fun n hn=>
  ⟨_,aa rfl (l8 (aF (b:=true) rfl rfl (aZ (ag (ac (aG rfl rfl rfl) (ac (aG rfl rfl rfl) (ac (aG rfl rfl rfl) (ac (dw rfl (g.attr 3) rfl) (ac (dw rfl (g.attr 4) rfl) rfl))))) ((xG op hx hy).at hn))))),Res.so_fin⟩).mono hD⟩
end
noncomputable def uc:Nat->Nat
 | 0=>1
 | m+1=>1+200*uc m
theorem oq:∀m,0<uc m
 | 0=>Nat.one_pos
 | m+1=>by rw [uc];lia
noncomputable def FR (F:List (Str×RV)) (fns:jY):Prop:=∀w ps b,fns w=some (ps,b)->F.lookup w.str=some (.tup [.lst (ps.map aw),b.rv,.int (-1)])
noncomputable def gn (h:AObj) (F:List (Str×RV)) (fns:jY) (m:Nat):Prop:=
 ∀⦃L c k:Nat⦄ ⦃N:List (Str×RV)⦄ ⦃rest:ai⦄ ⦃ρ:En⦄ ⦃t:T⦄,k+m<=3->ρ.Ok->NR N ρ->Good L c rest->t.Fit (callable fns m)->c+t.sz*uc m<=16000000->t.sz<=1000->
  ∃N' rest',NR N' ρ/\Good L (c+t.sz*uc m) rest'/\Kept L rest rest'/\Go true (9+5*m) 567 [t.rv,.obj (L+12)] (S h N k F rest) ((t.ev (aC fns m ρ) ρ).res.out (S h N' k F rest'))
section
variable {h:AObj} {F:List (Str×RV)} {fns:jY} {ρ:En} {L k:Nat}
theorem pR {m c:Nat} {w:Nm} {vs:List V} {N:List (Str×RV)} {rest:ai} (hF:FR F fns) (ih:gn h F fns m) (hk:k+(m+1)<=3) (hρ:ρ.Ok) (hw:callable fns (m+1) w vs.length) (hv:∀v∈vs,v.Ok) (hN:NR N ρ) (g:Good L c rest) (hc:c+uc (m+1)<=16000000) (j:Nat) (hj:rest[j]? = some (.meth 593 (L+12))) (m2:RV) :
  ∃N' rest',NR N' ρ/\Good L (c+uc (m+1)) rest'/\Kept L rest rest'/\Go true (11+5*m) 274 [.obj 2,aw w,.lst (vs.map V.rv),.obj (j+10),m2] (S h N k F rest) ((aC fns (m+1) ρ w vs).res.out (S h N' k F rest')):=by
 obtain ⟨ps,b,e1,e2,e3,e4,e5,e6⟩:=hw
 have hu:uc (m+1)=1+200*uc m:=rfl
 have hm:b.sz*uc m<=200*uc m:=Nat.mul_le_mul_right _ (Nat.le_trans e5 (by decide))
 have z:=zQ (h:=h) (L:=L) (w:=w) (ps:=ps) (b:=b) (k:=k) (rest:=rest) (hF w ps b e1) e2 (by lia) (by lia) hN hv hj m2 (D:=10+5*m) (by lia)
 rw [aC,e1]
 dsimp only
 cases q:bN ps vs with
 | error e=>
  rw [q] at z
  exact ⟨N,rest,hN,g.mono (by lia),.refl,Go.mono z (by lia)⟩
 | ok σ=>
  rw [q] at z
  obtain ⟨N1,r1,hN1,g1,k1,s1⟩:=ih (k:=k+1) (t:=b) (by lia) (lY hρ (mP q)) (hN.puts (ps:=ps) (vs:=σ)) g e6 (by lia) (by lia)
  have hb:(b.ev (aC fns m (puts ρ ps σ)) (puts ρ ps σ)).Ok:=T.ev_ok (fun w vs=>jQ m _ w vs) (lY hρ (mP q)) b e6
  obtain ⟨N3,hN3,s3⟩:=z _ N1 r1 hb hN1 ((Go.of (d:=9+5*m) (E:=yX) rfl rfl fun n hn=>⟨_,aZ (ag rfl (s1.at hn)),Res.so_fin⟩).mono (by lia))
  exact ⟨N3,r1,hN3,g1.mono (by lia),k1,Go.mono s3 (by lia)⟩
theorem uJ {m:Nat} (hF:FR F fns) (ih:gn h F fns m) (hk:k+(m+1)<=3) (hρ:ρ.Ok) {w:Nm} {l:TL} (hw:callable fns (m+1) w l.rvs.length) {vs:List V} (hl:vs.length=l.rvs.length) (hv:∀v∈vs,v.Ok) :
  NodeOk h F k ρ (13+5*m) (uc (m+1)) L (.fn w l) vs (aC fns (m+1) ρ w vs):=fun c rest N hN g hc=>by
 have hj:((rest++[AObj.meth 593 (L+12)])++[AObj.meth 633 (L+12)])[rest.length]? = some (.meth 593 (L+12)):=by simp
 have g1:=g.snoc (l:=[AObj.meth 593 (L+12)])
 have hF':F.lookup w.str≠none:=by
  obtain ⟨ps,b,e1,_⟩:=hw
  rw [hF w ps b e1];nofun
 obtain ⟨N1,r1,hN1,g2,k2,s2⟩:=pR hF ih hk hρ (hl▸hw) hv hN (g1.snoc (l:=[AObj.meth 633 (L+12)])) hc rest.length hj (.obj ((rest++[AObj.meth 593 (L+12)]).length+10))
 have s3:Go true (12+5*m) 626 [.obj (L+12),aw w,.lst (vs.map V.rv)] (S h N k F rest) ((aC fns (m+1) ρ w vs).res.out (S h N1 k F r1)):=(Go.of (d:=11+5*m) (E:=yY) rfl rfl fun n hn=>by
  have t:cu (.cmp .In (.loc 1) (.attr 237 8 (.attr 685 0 (.loc 0)))) (Kn true n) [some (.obj (L+12)),some (aw w),some (.lst (vs.map V.rv))] (S h N k F rest)=some (.ok (F.lookup w.str).isSome (S h N k F rest)):=
   ci (bZ rfl (dw (dw rfl (g.attr 0) rfl) rfl rfl) rfl)
  refine ⟨_,l8 (aF t (Option.isSome_iff_ne_none.mpr hF') (aZ (ag (ac (dw rfl (g.attr 0) rfl) (ac rfl (ac rfl (ac (iC rfl g.fields) (ac (iC rfl g1.fields) rfl))))) (s2.at hn)))),Res.so_fin⟩).mono (by lia)
 refine ⟨N1,r1,hN1,g2,(Kept.snoc.trans Kept.snoc).trans k2,(Go.of (d:=12+5*m) (E:=rT) rfl rfl fun n hn=>?_).mono (by lia)⟩
 exact ⟨_,aa rfl (aa (am (b:=false) rfl rfl rfl) (aa (am (b:=false) rfl rfl rfl) (aa (am (b:=false) rfl rfl rfl) (aa (am (b:=false) rfl rfl rfl) (aa (am (b:=false) rfl rfl rfl) (aZ (aS (b:=true) rfl rfl (o9 rfl (by rw [g.fields];rfl) (ac (aG rfl rfl rfl) (ac rfl rfl)) (s3.at hn))))))))),Res.so_fin⟩
theorem vL {α:Type} {l:List α} (h:l.length=2):∃a b,l=[a,b]:=by
 cases l with
 | nil=>exact hO h
 | cons a l=>exact (List.length_eq_one_iff.mp (Nat.succ.inj h)).elim fun b e=>⟨a,b,e▸rfl⟩
theorem jA (hF:FR F fns) (m:Nat) (ih:∀m',m=m'+1->gn h F fns m'):gn h F fns m:=by
  intro L c k N rest ρ t hk hρ hN g ht hc hs
  have hne:rest.length≠L+5:=by obtain ⟨l,e,_⟩:=g.asked;have:=bL e;lia
  suffices hn:∀t vs,T.Fit (callable fns m) t->vs.length=t.parts.length->(∀v∈vs,v.Ok)->NodeOk h F k ρ (8+5*m) (uc m) L t vs (jJ (aC fns m ρ) ρ t vs) by
   obtain ⟨N1,r1,h1,h2,h3,h4⟩:=sO (D:=8+5*m) (T.run hne (by lia) hρ (fun w vs=>jQ m ρ w vs) hn t ht) hN g hc hs
   exact ⟨N1,r1,h1,h2,h3,h4.mono (by lia)⟩
  intro t vs ht hl hv
  cases t with
  | lit v=>
   have:vs=[]:=List.length_eq_zero_iff.mp hl
   subst this
   exact rg ht (oq m) (by lia)
  | name x=>
   have:vs=[]:=List.length_eq_zero_iff.mp hl
   subst this
   exact qG x (oq m) (by lia)
  | two op a b=>
   obtain ⟨x,y,e⟩:=vL hl
   subst e
   exact rM (hv x (.head _)) (hv y (.tail _ (.head _))) (oq m) (by lia)
  | fn w l=>
   cases m with
   | zero=>exact ht.1.elim
   | succ m=>
    show NodeOk h F k ρ (8+5*(m+1)) (uc (m+1)) L (.fn w l) vs (aC fns (m+1) ρ w vs)
    rw [show 8+5*(m+1)=13+5*m by lia]
    exact uJ hF (ih m rfl) hk hρ ht.1 hl hv
theorem jM (hF:FR F fns) (m:Nat):gn h F fns m:=by
 induction m with
 | zero=>exact jA hF 0 fun m' e=>hO e
 | succ m ih=>exact jA hF (m+1) fun m' e=>Nat.succ.inj e▸ih
end
mutual
noncomputable def T.put (σ:Nm->Option T):T->T
 | .lit v=>.lit v
 | .name x=>(σ x).getD (.name x)
 | .two op a b=>.two op (a.put σ) (b.put σ)
 | .fn w l=>.fn w (l.put σ)
noncomputable def TL.put (σ:Nm->Option T):TL->TL
 | .nil=>.nil
 | .cons t l=>.cons (t.put σ) (l.put σ)
end
noncomputable def T.has (x:Nm):T->Bool
 | .two _ a b=>a.has x||b.has x
 | .name y=>y.str==x.str
 | _=>false
noncomputable def T.kept (k:Kd) (t:T):T:=match k with
 | .text=>.two .add t (.lit (.s ""))
 | .whole=>.two .cut t (.lit (.i 1))
 | .decimal=>.two .add t (.lit (.d 0 0))
theorem pC (x:Nm) (t:T) (st:ai):Go true 1 722 [aw x,t.rv] st (.ok (t.kept x.kd).rv st):=Go.of (E:=yF) rfl rfl fun n hn=>by
 cases x <;> exact ⟨_,rfl,rfl⟩
theorem lM (x:Nm) (st:ai):∀t:T,Go true t.sz 734 [t.rv,aw x] st (.ok (.bool (t.has x)) st)
 | .lit v=>Go.of (E:=tu) rfl rfl fun n hn=>by
  cases v with
  | i m=>exact ⟨_,rfl,rfl⟩
  | d c e=>exact ⟨_,rfl,rfl⟩
  | s y=>exact ⟨_,rfl,rfl⟩
 | .name y=>Go.of (E:=tu) rfl rfl fun n hn=>by
  have e:ev (.cmp .Eq (.loc 0) (.tup (.cons (.val (.str "name")) (.cons (.loc 1) .nil)))) (Kn true n) [some (T.name y).rv,some (aw x)] st=some (.ok (.bool (y.str==x.str)) st):=by
   refine bZ rfl rfl ?_
   show some (true&&((y.str==x.str)&&true))=some (y.str==x.str)
   rw [Bool.and_true];rfl
  exact ⟨_,aa (am (b:=false) rfl rfl rfl) (ao (aK e)),rfl⟩
 | .two op a b=>by
  have ha:=lM x st a
  have hb:=lM x st b
  refine Go.of (d:=a.sz+b.sz) (E:=tu) rfl rfl fun n hn=>?_
  have e:ev (.or (.call 734 (.cons (.idx (.loc 0) (.val (.int 2))) (.cons (.loc 1) .nil))) (.call 734 (.cons (.idx (.loc 0) (.val (.int 3))) (.cons (.loc 1) .nil)))) (Kn true n) [some (T.two op a b).rv,some (aw x)] st=some (.ok (.bool (a.has x||b.has x)) st):=by
   cases q:a.has x with
   | true=>rw [q] at ha;exact j7 (ag (ac (aG rfl rfl rfl) rfl) (ha.at (by lia))) rfl
   | false=>rw [q] at ha;exact et (ag (ac (aG rfl rfl rfl) rfl) (ha.at (by lia))) rfl (ag (ac (aG rfl rfl rfl) rfl) (hb.at (by lia)))
  exact ⟨_,ao (aF (b:=true) rfl rfl (ao (aK e))),rfl⟩
 | .fn w l=>Go.mono (d:=1) (Go.of (E:=tu) rfl rfl fun n hn=>⟨_,rfl,rfl⟩) (Nat.succ_le_succ (Nat.zero_le _))
section
variable {st:ai} {g:Nat} {G:List (Str×RV)} {σ:Nm->Option T}
mutual
theorem i9 (hg:st[g]? = some (.dict G)) (hG:∀x:Nm,G.lookup x.str=(σ x).map T.rv):∀t:T,t.sz<=1000->Go true t.sz 727 [t.rv,.obj g] st (.ok (t.put σ).rv st)
 | .lit v,_=>Go.of (E:=t9) rfl rfl fun n hn=>by
  cases v <;> exact ⟨_,rfl,rfl⟩
 | .name x,_=>Go.of (E:=t9) rfl rfl fun n hn=>by
  have hr:mq .get st (.obj g)=true:=congrArg Option.isSome (cy hg)
  have hm:dH .get st (.obj g) [aw x,(T.name x).rv]=some (((σ x).getD (.name x)).rv,st):=by
   refine ak rfl (ak (cy hg) ?_)
   show some ((G.lookup x.str).getD _,st)=_
   rw [hG];cases σ x <;> rfl
  exact ⟨_,aa (am (b:=false) rfl rfl rfl) (aa (am (b:=false) rfl rfl rfl) (ao (aK (aS (b:=true) rfl rfl (dZ rfl hr (ac (aG rfl rfl rfl) rfl) hm))))),rfl⟩
 | .two op a b,h=>by
  have hz:a.sz+b.sz+1<=1000:=h
  have ha:=i9 hg hG a (by lia)
  have hb:=i9 hg hG b (by lia)
  refine Go.of (d:=a.sz+b.sz) (E:=t9) rfl rfl fun n hn=>?_
  exact ⟨_,ao (aF (b:=true) rfl rfl (ao (aK (aL (ac rfl (ac (aG rfl rfl rfl) (ac (ag (ac (aG rfl rfl rfl) rfl) (ha.at (by lia))) (ac (ag (ac (aG rfl rfl rfl) rfl) (hb.at (by lia))) rfl)))) (cn rfl))))),rfl⟩
 | .fn w l,h=>by
  have hz:l.sz+1<=1000:=h
  have hl:=pQ hg hG l (by lia)
  have hs:l.rvs.length<16777216:=by have:=l.len_sz;lia
  refine Go.of (d:=l.sz) (E:=t9) rfl rfl fun n hn=>?_
  exact ⟨_,aa (am (b:=false) rfl rfl rfl) (ao (aF (b:=true) rfl rfl (ao (aK (aL (ac rfl (ac (aG rfl rfl rfl) (ac (du (l:=l.rvs) rfl hs (hl n hn none none)) rfl))) (cn rfl)))))),rfl⟩
theorem pQ (hg:st[g]? = some (.dict G)) (hG:∀x:Nm,G.lookup x.str=(σ x).map T.rv):∀l:TL,l.sz<=1000->∀n,l.sz<=n->∀a b:Option RV,bw (.one 1) (fun γ s=>ev (.call 727 (.cons (.loc 1) (.cons (.loc 2) .nil))) (Kn true n) γ s) l.rvs [a,b,some (.obj g)] st=some (.ok (l.put σ).rvs st)
 | .nil,_,_,_,_,_=>rfl
 | .cons t l,h,n,hn,a,b=>by
  rw [TL.sz] at hn h
  have ht:=i9 hg hG t (by lia)
  exact dD rfl (ag rfl (ht.at (by lia))) (pQ hg hG l (by lia) n (by lia) a _)
end
end
noncomputable def fL (σ:Nm->Option T) (p:Nm) (t:T):Nm->Option T:=fun x=>if x.str=p.str then some t else σ x
noncomputable def gives (σ:Nm->Option T):List Nm->TL->Nm->Option T
 | p::ps,.cons t l=>gives (fL σ p (t.kept p.kd)) ps l
 | _,_=>σ
mutual
noncomputable def T.with (cf:Nm->TL->T):T->T
 | .lit v=>.lit v
 | .name x=>.name x
 | .two op a b=>.two op (a.with cf) (b.with cf)
 | .fn w l=>cf w (l.with cf)
noncomputable def TL.with (cf:Nm->TL->T):TL->TL
 | .nil=>.nil
 | .cons t l=>.cons (t.with cf) (l.with cf)
end
noncomputable def aI (fns:jY):Nat->Nm->TL->T
 | 0,w,l=>.fn w l
 | m+1,w,l=>match fns w with
  | none=>.fn w l
  | some (ps,b)=>((b.with (aI fns m)).put (gives (fun _=>none) ps l)).kept w.kd
mutual
noncomputable def T.tight (cf:Nm->Prop):T->Prop
 | .two _ a b=>a.tight cf/\b.tight cf
 | .fn w l=>cf w/\l.tight cf
 | _=>True
noncomputable def TL.tight (cf:Nm->Prop):TL->Prop
 | .nil=>True
 | .cons t l=>t.tight cf/\l.tight cf
end
noncomputable def fK (fns:jY):Nat->Nm->Prop
 | 0,_=>True
 | m+1,w=>∀ps b,fns w=some (ps,b)->b.tight (fK fns m)/\∀p∈ps,(b.with (aI fns m)).has p=true
structure KeptX (X:List Nat) (r r':ai):Prop where
 len:r.length<=r'.length
 same:∀i,i<r.length->i∉X->r'[i]? = r[i]?
theorem KeptX.refl {X:List Nat} {r:ai}:KeptX X r r:=⟨Nat.le_refl _,fun _ _ _=>rfl⟩
theorem KeptX.trans {X:List Nat} {r r' r'':ai} (a:KeptX X r r') (b:KeptX X r' r''):KeptX X r r'':=
 ⟨Nat.le_trans a.len b.len,fun i hi h=>(b.same i (Nat.lt_of_lt_of_le hi a.len) h).trans (a.same i hi h)⟩
theorem KeptX.mono {X Y:List Nat} {r r':ai} (a:KeptX X r r') (h:∀i∈X,i∈Y):KeptX Y r r':=⟨a.len,fun i hi q=>a.same i hi fun m=>q (h i m)⟩
theorem KeptX.set {X:List Nat} {r:ai} {i:Nat} {o:AObj} (h:i∈X):KeptX X r (r.set i o):=⟨by rw [List.length_set];exact Nat.le_refl _,fun j _ q=>by rw [List.getElem?_set_ne fun (e:i=j)=>q (e▸h)]⟩
theorem cY {l:List (Str×RV)} {k:Str} {r:RV}:(ay l k r).length<=l.length+1:=by
 unfold ay
 split
 ·rw [List.length_map];lia
 ·rw [List.length_append,List.length_singleton];exact Nat.le_refl _
noncomputable def ui:Nat->Nat
 | 0=>2
 | m+1=>2+200*ui m
noncomputable def GR (G:List (Str×RV)) (σ:Nm->Option T):Prop:=∀x:Nm,G.lookup x.str=(σ x).map T.rv
theorem GR.put {G:List (Str×RV)} {σ:Nm->Option T} (h:GR G σ) (p:Nm) (t:T):GR (ay G p.str t.rv) (fL σ p t):=fun x=>by
 rw [bH];unfold fL
 split
 ·rfl
 ·exact h x
noncomputable def yJ:YL:=.cons (.setitem (.loc 7) (.loc 8) (.call 722 (.cons (.loc 8) (.cons (.call 741 (.cons (.loc 9) (.cons (.loc 1) (.cons (.loc 2) .nil)))) .nil)))) (.cons (.ite (.not (.call 734 (.cons (.loc 6) (.cons (.loc 8) .nil)))) (.cons (.expr (.meth .append (.loc 2) (.cons (.loc 8) .nil))) .nil) .nil) .nil)
section
variable {h:AObj} {N F:List (Str×RV)} {d:Int} {fns:jY} {i m D u:Nat}
noncomputable def me (h:AObj) (N F:List (Str×RV)) (d:Int) (i D u:Nat) (cf:Nm->TL->T) (tf:Nm->Prop) (t:T):Prop:=
 ∀⦃l0:List RV⦄ ⦃rest:ai⦄,rest[i]? = some (.list l0)->l0.length+t.sz*u<=16000000->
  ∃l' rest',KeptX [i] rest rest'/\rest'[i]? = some (.list (l0++l'))/\(l'=[]->t.tight tf)/\l'.length<=t.sz*u/\Go true (t.sz+D) 741 [t.rv,.obj 6,.obj (i+10)] (S h N d F rest) (.ok (t.with cf).rv (S h N d F rest'))
noncomputable abbrev gX (t0:RV) (i:Nat) (ps:List Nm) (b W:T) (g:Nat) (nm pt:Option RV):Lo:=[some t0,some (.obj 6),some (.obj (i+10)),some (.lst (ps.map aw)),some b.rv,some (.int (-1)),some W.rv,some (.obj (g+10)),nm,pt]
theorem n9 {cf:Nm->TL->T} {tf:Nm->Prop} {W b:T} {t0:RV} {ps0:List Nm} {g M:Nat} (hgi:g≠i) (hW:W.sz<=100) (hu:1<=u) (ps:List Nm) :
  ∀(l:TL),(∀t,t.sz<=l.sz->T.Fit (callable fns m) t->me h N F d i D u cf tf t)->l.Fit (callable fns m)->l.sz+D<=M->100<=M->∀(G:List (Str×RV)) (σ:Nm->Option T) (l0:List RV) (rest:ai),G.length+ps.length<=100->rest[i]? = some (.list l0)->rest[g]? = some (.dict G)->GR G σ->ps.length=l.rvs.length->l0.length+l.sz*u+ps.length<=16000000->
  ∃l' rest' G',KeptX [i,g] rest rest'/\rest'[i]? = some (.list (l0++l'))/\rest'[g]? = some (.dict G')/\GR G' (gives σ ps (l.with cf))/\(l'=[]->l.tight tf/\∀p∈ps,W.has p=true)/\l'.length<=l.sz*u+ps.length /\
   ∀n,M<=n->∀nm pt,∃nm' pt',fw (.many [8,9]) (fun γ s=>bV yJ (Kn true n) γ s) (pairs (ps.map aw) l.rvs) (gX t0 i ps0 b W g nm pt) (S h N d F rest)=some (.next (gX t0 i ps0 b W g nm' pt') (S h N d F rest')):=by
 induction ps with
 | nil=>
  intro l
  cases l with
  | nil=>exact fun _ _ _ _ G σ l0 rest _ hi hg hG _ _=>⟨[],rest,G,.refl,by rw [List.append_nil];exact hi,hg,hG,fun _=>⟨trivial,nofun⟩,Nat.zero_le _,fun n _ nm pt=>⟨nm,pt,rfl⟩⟩
  | cons=>exact fun _ _ _ _ _ _ _ _ _ _ _ _ hlen _=>hO hlen
 | cons p ps ih=>
  intro l
  cases l with
  | nil=>exact fun _ _ _ _ _ _ _ _ _ _ _ _ hlen _=>sS hlen
  | cons t l=>
   intro hT hl hM h100 G σ l0 rest hG1 hi hg hG hlen hc
   rw [TL.sz] at hM hc
   have hm:(t.sz+l.sz)*u=t.sz*u+l.sz*u:=Nat.add_mul _ _ _
   simp only [List.length_cons] at hG1 hc
   obtain ⟨l1,r1,k1,i1,t1,c1,e1⟩:=hT t (by rw [TL.sz];lia) hl.1 hi (by lia)
   have hg1:r1[g]? = some (.dict G):=by rw [k1.same g (bL hg) (by simpa using hgi)];exact hg
   have hi2:(r1.set g (.dict (ay G p.str ((t.with cf).kept p.kd).rv)))[i]? = some (.list (l0++l1)):=by rw [List.getElem?_set_ne hgi];exact i1
   have hg2:(r1.set g (.dict (ay G p.str ((t.with cf).kept p.kd).rv)))[g]? = some (.dict (ay G p.str ((t.with cf).kept p.kd).rv)):=List.getElem?_set_self (bL hg1)
   have s1:∀n,M<=n->ex (.setitem (.loc 7) (.loc 8) (.call 722 (.cons (.loc 8) (.cons (.call 741 (.cons (.loc 9) (.cons (.loc 1) (.cons (.loc 2) .nil)))) .nil)))) (Kn true n) (gX t0 i ps0 b W g (some (aw p)) (some t.rv)) (S h N d F rest)=some (.next (gX t0 i ps0 b W g (some (aw p)) (some t.rv)) (S h N d F (r1.set g (.dict (ay G p.str ((t.with cf).kept p.kd).rv))))):=fun n hn=>by
    have hz:dB (S h N d F r1) (.obj (g+10)) (.str p.str) ((t.with cf).kept p.kd).rv=some (S h N d F (r1.set g (.dict (ay G p.str ((t.with cf).kept p.kd).rv)))):=by
     exact ak rfl (ak (cy (st:=S h N d F r1) hg1) (if_pos (by lia)))
    exact bG (ag (ac rfl (ac (ag (ac rfl (ac rfl (ac rfl rfl))) (e1.at (by lia))) rfl)) ((pC p (t.with cf) _).at (by lia))) rfl rfl hz
   have hb:=lM p
   have tt:∀n,M<=n->∀st,cu (.not (.call 734 (.cons (.loc 6) (.cons (.loc 8) .nil)))) (Kn true n) (gX t0 i ps0 b W g (some (aw p)) (some t.rv)) st=some (.ok (!W.has p) st):=fun n hn st=>
    ci (kB (ag (ac rfl (ac rfl rfl)) ((hb st W).at (by lia))))
   have hs:(ay G p.str ((t.with cf).kept p.kd).rv).length+ps.length<=100:=by have:=cY (l:=G) (k:=p.str) (r:=((t.with cf).kept p.kd).rv);lia
   have hlen':ps.length=l.rvs.length:=by rw [TL.rvs,List.length_cons,List.length_cons] at hlen;lia
   have hT':∀t,t.sz<=l.sz->T.Fit (callable fns m) t->me h N F d i D u cf tf t:=fun t' ht'=>hT t' (by rw [TL.sz];lia)
   have kx:KeptX [i,g] rest (r1.set g (.dict (ay G p.str ((t.with cf).kept p.kd).rv))):=(k1.mono (by simp)).trans (.set (by simp))
   by_cases q:W.has p=true
   ·obtain ⟨l2,r2,G2,k2,i2,g2,gr2,t2,c2,e2⟩:=ih l hT' hl.2 (by lia) h100 (ay G p.str ((t.with cf).kept p.kd).rv) (fL σ p ((t.with cf).kept p.kd)) (l0++l1) _ hs hi2 hg2 (hG.put p _) hlen' (by rw [List.length_append];lia)
    refine ⟨l1++l2,r2,G2,kx.trans k2,by rw [<-List.append_assoc];exact i2,g2,gr2,fun hn=>?_,by rw [TL.sz,List.length_append,List.length_cons];lia,fun n hn nm pt=>?_⟩
    ·obtain ⟨a1,a2⟩:=List.append_eq_nil_iff.mp hn
     obtain ⟨b1,b2⟩:=t2 a2
     exact ⟨⟨t1 a1,b1⟩,fun x hx=>(List.mem_cons.mp hx).elim (fun e=>e▸q) (b2 x)⟩
    ·obtain ⟨nm',pt',e3⟩:=e2 n hn (some (aw p)) (some t.rv)
     exact ⟨nm',pt',fM rfl ⟨_,_,aa (s1 n hn) (aa (am (tt n hn _) (by rw [q];rfl) rfl) rfl),e3⟩⟩
   ·have hi3:=eL (l':=(l0++l1)++[aw p]) hi2
    have hg3:((r1.set g (.dict (ay G p.str ((t.with cf).kept p.kd).rv))).set i (.list ((l0++l1)++[aw p])))[g]? = some (.dict (ay G p.str ((t.with cf).kept p.kd).rv)):=by rw [List.getElem?_set_ne (Ne.symm hgi)];exact hg2
    obtain ⟨l2,r2,G2,k2,i2,g2,gr2,t2,c2,e2⟩:=ih l hT' hl.2 (by lia) h100 (ay G p.str ((t.with cf).kept p.kd).rv) (fL σ p ((t.with cf).kept p.kd)) ((l0++l1)++[aw p]) _ hs hi3 hg3 (hG.put p _) hlen' (by rw [List.length_append,List.length_append,List.length_singleton];lia)
    refine ⟨(l1++[aw p])++l2,r2,G2,(kx.trans (.set (by simp))).trans k2,by rw [i2];simp,g2,gr2,fun hn=>by simp at hn,by rw [TL.sz,List.length_append,List.length_append,List.length_singleton,List.length_cons];lia,fun n hn nm pt=>?_⟩
    obtain ⟨nm',pt',e3⟩:=e2 n hn (some (aw p)) (some t.rv)
    refine ⟨nm',pt',fM rfl ⟨_,_,aa (s1 n hn) (aa (aF (tt n hn _) (by simpa using q) (aa (cG (dZ rfl (gz hi2) rfl (th hi2 (by rw [List.length_append];lia)))) rfl)) rfl),e3⟩⟩
end
theorem wW:∀m,2<=ui m
 | 0=>Nat.le_refl _
 | m+1=>by rw [ui];lia
section
variable {h:AObj} {N F:List (Str×RV)} {d:Int} {fns:jY} {i:Nat}
theorem kF (hF:FR F fns) (hW:∀m w ps b,fns w=some (ps,b)->(b.with (aI fns m)).sz<=100) (m:Nat) (ih:∀m',m=m'+1->∀t:T,t.Fit (callable fns m')->me h N F d i (120*m') (ui m') (aI fns m') (fK fns m') t) (s:Nat) (t:T) (hs:t.sz<=s) (ht:t.Fit (callable fns m)):me h N F d i (120*m) (ui m) (aI fns m) (fK fns m) t:=by
 induction s generalizing t with
 | zero=>exact absurd (Nat.lt_of_lt_of_le t.sz_pos hs) (Nat.lt_irrefl _)
 | succ s ihs=>cases t with
  | lit v=>exact fun l0 rest hi hc=>⟨[],rest,.refl,by rw [List.append_nil];exact hi,fun _=>trivial,Nat.zero_le _,(Go.of (d:=0) (E:=sQ) rfl rfl fun n hn=>by cases v <;> exact ⟨_,rfl,rfl⟩).mono (Nat.le_trans (T.sz_pos _) (Nat.le_add_right _ _))⟩
  | name x=>exact fun l0 rest hi hc=>⟨[],rest,.refl,by rw [List.append_nil];exact hi,fun _=>trivial,Nat.zero_le _,Go.mono (d:=1) (Go.of (E:=sQ) rfl rfl fun n hn=>⟨_,rfl,rfl⟩) (Nat.le_trans (T.sz_pos (.name x)) (Nat.le_add_right _ _))⟩
  | two op a b=>
   intro l0 rest hi hc
   rw [T.sz] at hs hc
   have hm:(a.sz+b.sz+1)*ui m=a.sz*ui m+b.sz*ui m+ui m:=by rw [Nat.add_mul,Nat.add_mul,Nat.one_mul]
   obtain ⟨l1,r1,k1,i1,t1,c1,e1⟩:=ihs a (by lia) ht.1 hi (by lia)
   obtain ⟨l2,r2,k2,i2,t2,c2,e2⟩:=ihs b (by lia) ht.2 i1 (by rw [List.length_append];lia)
   refine ⟨l1++l2,r2,k1.trans k2,by rw [<-List.append_assoc];exact i2,fun hn=>?_,by rw [List.length_append,T.sz];lia,(Go.of (d:=a.sz+b.sz+120*m) (E:=sQ) rfl rfl fun n hn=>?_).mono (by rw [T.sz];lia)⟩
   ·obtain ⟨a1,a2⟩:=List.append_eq_nil_iff.mp hn
    exact ⟨t1 a1,t2 a2⟩
   ·exact ⟨_,ao (aF (b:=true) rfl rfl (ao (aK (aL (ac rfl (ac (aG rfl rfl rfl) (ac (ag (ac (aG rfl rfl rfl) rfl) (e1.at (by lia))) (ac (ag (ac (aG rfl rfl rfl) rfl) (e2.at (by lia))) rfl)))) (cn rfl))))),rfl⟩
  | fn w l=>cases m with
   | zero=>exact ht.1.elim
   | succ m=>
    intro l0 rest hi hc
    obtain ⟨ps,b,q1,q2,q3,q4,q5,q6⟩:=ht.1
    rw [T.sz] at hs hc
    have hu:ui (m+1)=2+200*ui m:=rfl
    have hm:(l.sz+1)*ui (m+1)=l.sz*ui (m+1)+ui (m+1):=Nat.succ_mul _ _
    have hb:b.sz*ui m<=20*ui m:=Nat.mul_le_mul_right _ q5
    have hm0:=wW m
    have hWs:=hW m w ps b q1
    obtain ⟨l1,r1,k1,i1,t1,c1,e1⟩:=ih m rfl b q6 hi (by lia)
    have hil:=bL i1
    have hi2:(r1++[AObj.dict []])[i]? = some (.list (l0++l1)):=by rw [List.getElem?_append_left hil];exact i1
    have hg2:(r1++[AObj.dict []])[r1.length]? = some (.dict []):=by simp
    obtain ⟨l2,r2,G2,k2,i2,g2,gr2,t2,c2,e2⟩:=n9 (h:=h) (N:=N) (F:=F) (d:=d) (i:=i) (m:=m+1) (D:=120*(m+1)) (u:=ui (m+1)) (cf:=aI fns (m+1)) (tf:=fK fns (m+1)) (W:=b.with (aI fns m)) (b:=b) (t0:=(T.fn w l).rv) (ps0:=ps) (g:=r1.length) (M:=l.sz+120*(m+1))
     (by lia) hWs (by lia) ps l (fun t hts htf=>ihs t (by lia) htf) ht.2 (by lia) (by lia) [] (fun _=>none) (l0++l1) (r1++[.dict []]) (by rw [List.length_nil];lia) hi2 hg2 (fun x=>rfl) q2 (by rw [List.length_append];lia)
    have kk:KeptX [i] rest r2:=k1.trans ⟨Nat.le_trans (by rw [List.length_append];lia) k2.len,fun j hj hne=>(k2.same j (by rw [List.length_append];lia) (by simp at hne ⊢;lia)).trans (List.getElem?_append_left hj)⟩
    have hput:=i9 (st:=S h N d F r2) (g:=r1.length+10) (G:=G2) g2 gr2 (b.with (aI fns m)) (by lia)
    refine ⟨l1++l2,r2,kk,by rw [<-List.append_assoc];exact i2,fun hn=>?_,by rw [List.length_append,T.sz];lia,(Go.of (d:=l.sz+120*(m+1)) (E:=sQ) rfl rfl fun n hn=>?_).mono (by rw [T.sz];lia)⟩
    ·obtain ⟨a1,a2⟩:=List.append_eq_nil_iff.mp hn
     obtain ⟨b1,b2⟩:=t2 a2
     refine ⟨fun ps' b' e=>?_,b1⟩
     rw [q1] at e
     cases e
     exact ⟨t1 a1,b2⟩
    ·obtain ⟨nm',pt',e3⟩:=e2 n (by lia) none none
     have eW:(T.fn w l).with (aI fns (m+1))=((b.with (aI fns m)).put (gives (fun _=>none) ps (l.with (aI fns (m+1))))).kept w.kd:=by rw [T.with,aI,q1]
     rw [eW]
     have s3:ex (.unpack [3,4,5] false (.idx (.loc 1) (.idx (.loc 0) (.val (.int 1))))) (Kn true n) [some (T.fn w l).rv,some (.obj 6),some (.obj (i+10)),none,none,none,none,none,none,none] (S h N d F rest)=some (.next [some (T.fn w l).rv,some (.obj 6),some (.obj (i+10)),some (.lst (ps.map aw)),some b.rv,some (.int (-1)),none,none,none,none] (S h N d F rest)):=
      bc (aG rfl (aG rfl rfl rfl) (show dA (S h N d F rest) (.obj 6) (.str w.str)=_ from hF w ps b q1)) rfl
     have s4:ex (.unpack [6,7] true (.tup (.cons (.call 741 (.cons (.loc 4) (.cons (.loc 1) (.cons (.loc 2) .nil)))) (.cons .dict0 .nil)))) (Kn true n) [some (T.fn w l).rv,some (.obj 6),some (.obj (i+10)),some (.lst (ps.map aw)),some b.rv,some (.int (-1)),none,none,none,none] (S h N d F rest)=some (.next (gX (T.fn w l).rv i ps b (b.with (aI fns m)) r1.length none none) (S h N d F (r1++[.dict []]))):=
      bc (aL (ac (ag rfl (e1.at (by lia))) (ac rfl rfl)) (cn rfl)) rfl
     exact ⟨_,aa (am (b:=false) rfl rfl rfl) (aa (am (b:=false) rfl rfl rfl) (aa s3 (aa s4 (aa (j8 rfl e3) (ao (aK (ag (ac (aG rfl rfl rfl) (ac (ag (ac rfl (ac rfl rfl)) (hput.at (by lia))) rfl)) ((pC w _ _).at (br hn rfl))))))))),rfl⟩
theorem vM (hF:FR F fns) (hW:∀m w ps b,fns w=some (ps,b)->(b.with (aI fns m)).sz<=100) (m s:Nat) (t:T) (hs:t.sz<=s) (ht:t.Fit (callable fns m)):me h N F d i (120*m) (ui m) (aI fns m) (fK fns m) t:=by
 induction m generalizing s t with
 | zero=>exact kF hF hW 0 (fun m' e=>hO e) s t hs ht
 | succ m ih=>exact kF hF hW (m+1) (fun m' e t ht=>by cases e;exact ih t.sz t (Nat.le_refl _) ht) s t hs ht
end
section
variable {K:cK} {γ γQ:Lo} {st s₁ s₂ s₃:ai} {e ob:XE} {b:YL} {C f:Addr} {k n:Nat} {r q:RV} {kk:Str} {H:Hdl} {rs:List RV} {x:om}
theorem fo (h:ev e K γ st=some (.ok r s₁)) (h2:ev ob K γ s₁=some (.ok q s₂)) (h3:j3 s₂ C k q r=some s₃):ex (.setattr C k ob e) K γ st=some (.next γ s₃):=
 (bS (av h (av h2 (bW h3))) rfl:dg (aq (ev e K γ st) fun r s₁=>aq (ev ob K γ s₁) fun q s₂=>(j3 s₂ C k q r).map fun s₃=>Out.ok () s₃) γ (fun _ s₁=>some (.next γ s₁))=_)
theorem wI (h:bV b K γ st=some (.ret r s₁)):ex (.tryx H b) K γ st=some (.ret r s₁):=(congrArg (ny H) h:ny H (bV b K γ st)=_)
theorem xS (h:bV b K γ st=some (.next γQ s₁)):ex (.tryx H b) K γ st=some (.next γQ s₁):=(congrArg (ny H) h:ny H (bV b K γ st)=_)
theorem nP (h:bV b K γ st=some (.exc kk γQ s₁)):ex (.tryx H b) K γ st=some (H.out kk γQ s₁):=(congrArg (ny H) h:ny H (bV b K γ st)=_)
theorem oG {bq:Bool} {d:Nat} (h:cP x (Kn bq n) γ st=some (.ok rs s₁)) (hd:d+1<=n) (h2:Go bq d f (.obj (s₁.length+1)::rs) ((s₁++[.attrs C []])++[.inst C (some s₁.length)]) (.ok .none s₂)):ev (.inst C f x) (Kn bq n) γ st=some (.ok (.obj (s₁.length+1)) s₂):=by
 cases n with
 | zero=>exact absurd hd (Nat.not_succ_le_zero _)
 | succ m=>
  have e:(Kn bq (m+1)).run bq m f (.obj (s₁.length+1)::rs) ((s₁++[.attrs C []])++[.inst C (some s₁.length)])=some (.ok .none s₂):=
   ((if_neg (Nat.ne_of_lt (Nat.lt_succ_self m)):(if m=m+1 then (codeOf f).bind _ else _)=runs m m bq f _ _)).trans (h2 m (Nat.le_of_succ_le_succ hd))
  exact ((if_pos (Nat.succ_pos m)).trans (av h (av e rfl)):(if 0<m+1 then aq (cP x (Kn bq (m+1)) γ st) (wL C ((Kn bq (m+1)).run bq m f)) else none)=_)
end
section
variable {h:AObj} {N F:List (Str×RV)} {d:Int} {rest:ai} {ρ:En} {fns:jY}
theorem jc {l:ai} (i:Nat):(rest++l)[rest.length+i]? = l[i]? :=by rw [List.getElem?_append_right (Nat.le_add_right _ _),Nat.add_sub_cancel_left]
theorem gG {l:ai} {i j k:Nat} {C:Addr} {vs:List RV} (h1:l[i]? = some (.inst C (some (rest.length+(j+10))))) (h2:l[j]? = some (.attrs C vs)) (hk:vs.length=k) (v:RV):j3 (S h N d F (rest++l)) C k (.obj (rest.length+(i+10))) v=some (S h N d F (rest++l.set j (.attrs C (vs++[v])))):=by
 have e1:(S h N d F (rest++l))[rest.length+(i+10)]? = some (.inst C (some (rest.length+(j+10)))):=by show (rest++l)[rest.length+i]? = _;rw [jc];exact h1
 have e2:(S h N d F (rest++l))[rest.length+(j+10)]? = some (.attrs C vs):=by show (rest++l)[rest.length+j]? = _;rw [jc];exact h2
 have e3:fieldsOf (S h N d F (rest++l)) C (.obj (rest.length+(i+10)))=some (rest.length+(j+10),vs):=sH e1 e2
 refine (ak e3 (bW ((if_neg (hk▸Nat.lt_irrefl _)).trans (if_pos hk.symm):xd k v vs=some (vs++[v])))).trans ?_
 show some (S h N d F ((rest++l).set (rest.length+j) (.attrs C (vs++[v]))))=_
 rw [List.set_append_right _ _ (Nat.le_add_right _ _),Nat.add_sub_cancel_left]
noncomputable def p8 (L:Nat):ai:=[.dict [],.attrs 685 (zT L),.inst 685 (some (L+11)),.attrs 180 [.lst [],.int 20,.int (-1)],.inst 180 (some (L+13)),.list []]
theorem ma:Good rest.length 0 (rest++p8 rest.length):=⟨jc 1,jc 2,[],jc 5,Nat.le_refl _⟩
theorem xB {c0 c1 c2:AObj}:Go true 1 177 [.obj (rest.length+14),.int 20] (S h N d F (rest++[c0,c1,c2,.attrs 180 [],.inst 180 (some (rest.length+13))])) (.ok .none (S h N d F (rest++[c0,c1,c2,.attrs 180 [.lst [],.int 20,.int (-1)],.inst 180 (some (rest.length+13))]))):=Go.of (E:=zJ) rfl rfl fun n hn=>
 ⟨_,aa (fo rfl rfl (gG (i:=4) (j:=3) rfl rfl (by rfl) _)) (aa (fo rfl rfl (gG (i:=4) (j:=3) rfl rfl (by rfl) _)) (aa (fo rfl rfl (gG (i:=4) (j:=3) rfl rfl (by rfl) _)) rfl)),rfl⟩
noncomputable abbrev dS (L:Nat) (vs:List RV) (tl:ai):ai:=.dict []::.attrs 685 vs::.inst 685 (some (L+11))::tl
noncomputable abbrev gI (L:Nat):Lo:=[some (.obj (L+12)),some (.obj 2),some .none,some (.obj (L+10))]
theorem jp {K:cK} {e:XE} {k:Nat} {vs:List RV} {tl tl':ai} {v:RV} (hk:vs.length=k) (he:ev e K (gI rest.length) (S h N d F (rest++dS rest.length vs tl))=some (.ok v (S h N d F (rest++dS rest.length vs tl')))) :
  ex (.setattr 685 k (.loc 0) e) K (gI rest.length) (S h N d F (rest++dS rest.length vs tl))=some (.next (gI rest.length) (S h N d F (rest++dS rest.length (vs++[v]) tl'))):=
 fo he rfl (gG (i:=2) (j:=1) rfl rfl hk v)
theorem uU:Go true 3 586 [.obj (rest.length+12),.obj 2,.none,.obj (rest.length+10)] (S h N d F (rest++dS rest.length [] [])) (.ok .none (S h N d F (rest++p8 rest.length))):=Go.of (E:=zx) rfl rfl fun n hn=>by
 have a5:ev (.inst 180 177 (.cons (.val (.int 20)) .nil)) (Kn true n) (gI rest.length) (S h N d F (rest++dS rest.length [.obj 2,.none,.obj (rest.length+10),.int 16,.int 6] [])) =
   some (.ok (.obj (rest.length+14)) (S h N d F (rest++dS rest.length [.obj 2,.none,.obj (rest.length+10),.int 16,.int 6] [.attrs 180 [.lst [],.int 20,.int (-1)],.inst 180 (some (rest.length+13))]))):=by
  have e:(S h N d F (rest++dS rest.length [.obj 2,.none,.obj (rest.length+10),.int 16,.int 6] [])).length=rest.length+13:=by
   show (rest++dS rest.length [.obj 2,.none,.obj (rest.length+10),.int 16,.int 6] []).length+10=_
   rw [List.length_append];rfl
  have:=oG (C:=180) (f:=177) (x:=.cons (.val (.int 20)) .nil) (γ:=gI rest.length) (st:=S h N d F (rest++dS rest.length [.obj 2,.none,.obj (rest.length+10),.int 16,.int 6] [])) (n:=n) (bq:=true) rfl hn
   (s₂:=S h N d F (rest++dS rest.length [.obj 2,.none,.obj (rest.length+10),.int 16,.int 6] [.attrs 180 [.lst [],.int 20,.int (-1)],.inst 180 (some (rest.length+13))]))
   (by
    rw [e]
    have z:S h N d F (rest++dS rest.length [.obj 2,.none,.obj (rest.length+10),.int 16,.int 6] [])++[.attrs 180 []]++[.inst 180 (some (rest.length+13))]=S h N d F (rest++dS rest.length [.obj 2,.none,.obj (rest.length+10),.int 16,.int 6] [.attrs 180 [],.inst 180 (some (rest.length+13))]):=by
     show S h N d F (rest++dS rest.length [.obj 2,.none,.obj (rest.length+10),.int 16,.int 6] []++[AObj.attrs 180 []]++[AObj.inst 180 (some (rest.length+13))])=_
     rw [List.append_assoc,List.append_assoc];rfl
    rw [z]
    exact xB)
  rw [e] at this
  exact this
 have a6:ev (.new .nil) (Kn true n) (gI rest.length) (S h N d F (rest++dS rest.length [.obj 2,.none,.obj (rest.length+10),.int 16,.int 6,.obj (rest.length+14)] [.attrs 180 [.lst [],.int 20,.int (-1)],.inst 180 (some (rest.length+13))])) =
   some (.ok (.obj (rest.length+15)) (S h N d F (rest++dS rest.length [.obj 2,.none,.obj (rest.length+10),.int 16,.int 6,.obj (rest.length+14)] [.attrs 180 [.lst [],.int 20,.int (-1)],.inst 180 (some (rest.length+13)),.list []]))):=by
  show some (Out.ok (RV.obj ((rest++dS rest.length [.obj 2,.none,.obj (rest.length+10),.int 16,.int 6,.obj (rest.length+14)] [.attrs 180 [.lst [],.int 20,.int (-1)],.inst 180 (some (rest.length+13))]).length+10)) (S h N d F ((rest++dS rest.length [.obj 2,.none,.obj (rest.length+10),.int 16,.int 6,.obj (rest.length+14)] [.attrs 180 [.lst [],.int 20,.int (-1)],.inst 180 (some (rest.length+13))])++[AObj.list []])))=_
  rw [List.append_assoc,List.length_append];rfl
 exact ⟨_,aa (jp rfl rfl) (aa (jp rfl rfl) (aa (jp rfl rfl) (aa (jp rfl rfl) (aa (jp rfl rfl) (aa (jp rfl a5) (aa (jp rfl a6) rfl)))))),rfl⟩
theorem ud {γ:Lo} {n:Nat} (h0:iv γ 0 (S h N d F rest)=some (.ok (.obj 2) (S h N d F rest))) (hn:4<=n):ev (.inst 685 586 (.cons (.loc 0) (.cons (.val .none) (.cons .dict0 .nil)))) (Kn true n) γ (S h N d F rest)=some (.ok (.obj (rest.length+12)) (S h N d F (rest++p8 rest.length))):=by
 have l:cP (.cons (.loc 0) (.cons (.val .none) (.cons .dict0 .nil))) (Kn true n) γ (S h N d F rest)=some (.ok [.obj 2,.none,.obj (rest.length+10)] (S h N d F (rest++[.dict []]))):=ac h0 (ac rfl (ac rfl rfl))
 have e:(S h N d F (rest++[.dict []])).length=rest.length+11:=by
  show (rest++[AObj.dict []]).length+10=_
  rw [List.length_append];rfl
 have:=oG (C:=685) (f:=586) (bq:=true) l hn (s₂:=S h N d F (rest++p8 rest.length)) (by
  rw [e]
  have z:S h N d F (rest++[.dict []])++[.attrs 685 []]++[.inst 685 (some (rest.length+11))]=S h N d F (rest++dS rest.length [] []):=by
   show S h N d F (rest++[AObj.dict []]++[AObj.attrs 685 []]++[AObj.inst 685 (some (rest.length+11))])=_
   rw [List.append_assoc,List.append_assoc];rfl
  rw [z]
  exact uU)
 rw [e] at this
 exact this
end
noncomputable def Ak (st:ai):LR->Out (List RV)
 | .ok vs=>.ok (vs.map V.rv) st
 | .error k=>.exc k st
noncomputable def jn:VR->RV
 | .ok v=>.tup [.bool true,v.rv]
 | .exc k=>refused k
section
variable {h:AObj} {N F:List (Str×RV)} {d:Int} {rest:ai} {ρ:En} {fns:jY} {L c k m:Nat}
theorem ka (hF:FR F fns) (hk:k+m<=3) (hρ:ρ.Ok):∀(l:TL) (c:Nat) (N:List (Str×RV)) (rest:ai),NR N ρ->Good L c rest->l.Fit (callable fns m)->c+l.sz*uc m<=16000000->l.sz<=1000->
  ∃N' rest',NR N' ρ/\Good L (c+l.sz*uc m) rest'/\Kept L rest rest'/\∀n,9+5*m<=n->∀a b,bw (.one 1) (fun γ s=>ev (.call 567 (.cons (.loc 1) (.cons (.loc 2) .nil))) (Kn true n) γ s) l.rvs [a,b,some (.obj (L+12))] (S h N k F rest)=some (Ak (S h N' k F rest') (l.ev (aC fns m ρ) ρ))
 | .nil,c,N,rest,hN,g,_,_,_=>⟨N,rest,hN,g.mono (by lia),.refl,fun n _ a b=>rfl⟩
 | .cons t l,c,N,rest,hN,g,hl,hc,hs=>by
  rw [TL.sz] at hc hs
  have hm:(t.sz+l.sz)*uc m=t.sz*uc m+l.sz*uc m:=Nat.add_mul _ _ _
  obtain ⟨N1,r1,hN1,g1,k1,e1⟩:=jM hF m hk hρ hN g hl.1 (by lia) (by lia) (h:=h) (k:=k)
  obtain ⟨N2,r2,hN2,g2,k2,e2⟩:=ka hF hk hρ l _ N1 r1 hN1 g1 hl.2 (by lia) (by lia)
  rw [TL.ev]
  cases q:t.ev (aC fns m ρ) ρ with
  | exc e=>
   rw [q] at e1
   exact ⟨N1,r1,hN1,g1.mono (by rw [TL.sz];lia),k1,fun n hn a b=>pB rfl (ag rfl (e1.at hn))⟩
  | ok v=>
   rw [q] at e1
   refine ⟨N2,r2,hN2,g2.mono (by rw [TL.sz];lia),k1.trans k2,fun n hn a b=>?_⟩
   have e3:=e2 n hn a (some t.rv)
   cases q2:l.ev (aC fns m ρ) ρ with
   | error e=>rw [q2] at e3;exact pv rfl (ag rfl (e1.at hn)) e3
   | ok vs=>rw [q2] at e3;exact dD rfl (ag rfl (e1.at hn)) e3
theorem jt {l r':ai} (k:Kept rest.length (rest++l) r'):KeptX [] rest r':=
 ⟨Nat.le_trans (by rw [List.length_append];lia) k.len,fun i hi _=>(k.same i (by rw [List.length_append];lia) (by lia)).trans (List.getElem?_append_left hi)⟩
theorem gN (hF:FR F fns) (hρ:ρ.Ok) {w:Nm} {l:TL} (ht:(T.fn w l).Fit (callable fns 2)) (hs:l.sz<=20) (hN:NR N ρ) :
  ∃N' rest',NR N' ρ/\KeptX [] rest rest'/\Go true 25 748 [.obj 2,(T.fn w l).rv] (S h N (0:Nat) F rest) (.ok (jn ((T.fn w l).ev (aC fns 2 ρ) ρ)) (S h N' (0:Nat) F rest')):=by
 have hu:uc 2=40201:=rfl
 obtain ⟨N1,r1,hN1,g1,k1,e1⟩:=ka (h:=h) (k:=0) (m:=2) hF (by lia) hρ l 0 N _ hN (ma (rest:=rest)) ht.2 (by rw [hu];lia) (by lia)
 have hl:=l.len_sz
 have s1:∀n,24<=n->ex (.asg 2 (.inst 685 586 (.cons (.loc 0) (.cons (.val .none) (.cons .dict0 .nil))))) (Kn true n) [some (.obj 2),some (T.fn w l).rv,none,none] (S h N (0:Nat) F rest)=some (.next [some (.obj 2),some (T.fn w l).rv,some (.obj (rest.length+12)),none] (S h N (0:Nat) F (rest++p8 rest.length))):=fun n hn=>
  aD (ud rfl (br hn rfl))
 have e2:∀n,24<=n->ev (.call 572 (.cons (.idx (.loc 1) (.val (.int 2))) (.cons (.loc 2) .nil))) (Kn true n) [some (.obj 2),some (T.fn w l).rv,some (.obj (rest.length+12)),none] (S h N (0:Nat) F (rest++p8 rest.length))=some (match l.ev (aC fns 2 ρ) ρ with
   | .ok vs=>.ok (.lst (vs.map V.rv)) (S h N1 (0:Nat) F r1)
   | .error e=>.exc e (S h N1 (0:Nat) F r1)):=fun n hn=>by
  refine ag (ac (aG rfl rfl rfl) (ac rfl rfl)) (Go.at (d:=23) (Go.of (d:=22) (E:=yQ) rfl rfl fun n hn=>?_) (br hn rfl))
  have:=e1 n (br hn rfl) none none
  cases q:l.ev (aC fns 2 ρ) ρ with
  | error e=>rw [q] at this;exact ⟨_,aH (eO (pW (l:=l.rvs) rfl (by lia) this)),rfl⟩
  | ok vs=>rw [q] at this;exact ⟨_,ao (aK (du (l:=l.rvs) rfl (by lia) this)),rfl⟩
 rw [T.ev]
 cases q:l.ev (aC fns 2 ρ) ρ with
 | error e=>
  rw [q] at e2
  exact ⟨N1,r1,hN1,jt k1,Go.of (E:=vD) rfl rfl fun n hn=>⟨_,aa (s1 n hn) (ao (nP (aH (jH (e2 n hn))))),rfl⟩⟩
 | ok vs=>
  rw [q] at e2
  have hj:((r1++[AObj.meth 593 (rest.length+12)])++[AObj.meth 633 (rest.length+12)])[r1.length]? = some (.meth 593 (rest.length+12)):=by simp
  have g2:=g1.snoc (l:=[AObj.meth 593 (rest.length+12)])
  obtain ⟨N3,r3,hN3,g3,k3,e3⟩:=pR (h:=h) (m:=1) (k:=0) hF (jM hF 1) (by lia) hρ (TL.ev_len l vs q▸ht.1) (TL.ev_ok (fun w vs=>jQ 2 ρ w vs) hρ l ht.2 vs q) hN1 (g2.snoc (l:=[AObj.meth 633 (rest.length+12)])) (by rw [hu];lia) r1.length hj (.obj ((r1++[AObj.meth 593 (rest.length+12)]).length+10))
  have e4:∀n,24<=n->ev (.call 274 (.cons (.loc 0) (.cons (.idx (.loc 1) (.val (.int 1))) (.cons (.loc 3) (.cons (.bound 593 685 (.loc 2)) (.cons (.bound 633 685 (.loc 2)) .nil)))))) (Kn true n) [some (.obj 2),some (T.fn w l).rv,some (.obj (rest.length+12)),some (.lst (vs.map V.rv))] (S h N1 (0:Nat) F r1)=some ((aC fns 2 ρ w vs).res.out (S h N3 (0:Nat) F r3)):=fun n hn=>
   ag (ac rfl (ac (aG rfl rfl rfl) (ac rfl (ac (iC rfl g1.fields) (ac (iC rfl g2.fields) rfl))))) (e3.at (br hn rfl))
  have kk:=jt (k1.trans ((Kept.snoc.trans Kept.snoc).trans k3))
  show ∃N' rest',NR N' ρ/\KeptX [] rest rest'/\Go true 25 748 [.obj 2,(T.fn w l).rv] (S h N (0:Nat) F rest) (.ok (jn (aC fns 2 ρ w vs)) (S h N' (0:Nat) F rest'))
  cases q2:aC fns 2 ρ w vs with
  | exc e=>
   rw [q2] at e4
   exact ⟨N3,r3,hN3,kk,Go.of (E:=vD) rfl rfl fun n hn=>⟨_,aa (s1 n hn) (ao (nP (aa (aD (e2 n hn)) (aH (eO (lR (iH rfl (cm (e4 n hn))))))))),rfl⟩⟩
  | ok v=>
   rw [q2] at e4
   exact ⟨N3,r3,hN3,kk,Go.of (E:=vD) rfl rfl fun n hn=>⟨_,aa (s1 n hn) (ao (wI (aa (aD (e2 n hn)) (ao (aK (aL (ac rfl (ac (e4 n hn) rfl)) (cn rfl))))))),rfl⟩⟩
end
structure oW (fns:jY) (ρ:En) (t:T):Prop where
 fit0:(t.with (aI fns 2)).Fit (callable fns 0)
 szw:(t.with (aI fns 2)).sz<=1000
 told:∀v,t.ev (aC fns 2 ρ) ρ=.ok v->(t.with (aI fns 2)).ev (aC fns 0 ρ) ρ=.ok v
 back:t.tight (fK fns 2)->∀v,(t.with (aI fns 2)).ev (aC fns 0 ρ) ρ=.ok v->∃u,t.ev (aC fns 2 ρ) ρ=.ok u
theorem o5 {K:cK} {γ:Lo} {st s₁:ai} {x:om} {i:Nat} {es:List (Str×RV)} (h:cP x K γ st=some (.ok [.obj i] s₁)) (h2:s₁[i]? = some (.dict es)) (hl:es.length<16777216):ev (.dcopy x) K γ st=some (.ok (.obj s₁.length) (s₁++[.dict es])):=(av h (ak rfl (ak rfl (ak (cy h2) (if_pos hl)))):aq (cP x K γ st) oo=_)
section
variable {h:AObj} {N F:List (Str×RV)} {d:Int} {rest:ai} {ρ:En} {fns:jY} {n:Nat}
theorem uD {N':List (Str×RV)} (hN:NR N ρ) (hN':NR N' ρ) {j:Nat} (hj:rest[j]? = some (.dict N')):dh .NotEq (S h N d F rest) (.obj 3) (.obj (j+10))=some false:=by
 have e:((dictAt (S h N d F rest) 3).bind fun l=>(dictAt (S h N d F rest) (j+10)).bind fun l'=>gq l l')=some true:=ak rfl (ak (cy (st:=S h N d F rest) hj) (hN.same hN'))
 exact congrArg (fun x=>(Option.or x ((listAt (S h N d F rest) 3).bind fun l=>(listAt (S h N d F rest) (j+10)).bind fun l'=>o0 l l')).map (!·)) e
theorem mB (hF:FR F fns) (hW:∀m w ps b,fns w=some (ps,b)->(b.with (aI fns m)).sz<=100) (hρ:ρ.Ok) {w:Nm} {l:TL} (ht:(T.fn w l).Fit (callable fns 2)) (hs:l.sz<=20) (hp:oW fns ρ (.fn w l)) (hN:NR N ρ) :
  ∃N' rest',NR N' ρ/\KeptX [] rest rest'/\Go true 270 755 [.obj 2,(T.fn w l).rv] (S h N (0:Nat) F rest) (.ok (.bool true) (S h N' (0:Nat) F rest')):=by
 have hz:(T.fn w l).sz=l.sz+1:=rfl
 have hu:ui 2=80402:=rfl
 have hi:((rest++[AObj.dict N])++[AObj.list []])[(rest++[AObj.dict N]).length]? = some (.list []):=by simp
 have hb:((rest++[AObj.dict N])++[AObj.list []])[rest.length]? = some (.dict N):=by rw [List.append_assoc];simp
 generalize hr0:(rest++[AObj.dict N])++[AObj.list []]=r0 at hi hb
 have k0:KeptX [] rest r0:=by rw [<-hr0,List.append_assoc];exact ⟨by rw [List.length_append];lia,fun i hi _=>List.getElem?_append_left hi⟩
 have hil:rest.length<(rest++[AObj.dict N]).length:=by rw [List.length_append,List.length_singleton];lia
 have s1:∀n,ex (.unpack [2,3] true (.tup (.cons (.dcopy (.cons (.attr 237 5 (.loc 0)) .nil)) (.cons (.new .nil) .nil)))) (Kn true n) [some (.obj 2),some (T.fn w l).rv,none,none,none,none,none,none] (S h N (0:Nat) F rest)=some (.next [some (.obj 2),some (T.fn w l).rv,some (.obj (rest.length+10)),some (.obj ((rest++[AObj.dict N]).length+10)),none,none,none,none] (S h N (0:Nat) F r0)):=by
  rw [<-hr0]
  exact fun n=>bc (aL (ac (o5 rfl rfl hN.short) (ac rfl rfl)) (cn rfl)) rfl
 generalize hI:(rest++[AObj.dict N]).length=I at hi hil s1
 obtain ⟨l',r1,k1,i1,t1,_,e1⟩:=vM (h:=h) (N:=N) (d:=(0:Nat)) (i:=I) hF hW 2 _ _ (Nat.le_refl _) ht hi (by rw [hu,hz,List.length_nil];lia)
 rw [List.nil_append] at i1
 obtain ⟨N2,r2,hN2,k2,e2⟩:=gN (h:=h) (rest:=r1) hF hρ ht hs hN
 obtain ⟨N3,r3,hN3,g3,k3,e3⟩:=jM (h:=h) hF 0 (k:=0) (by lia) hρ hN2 (ma (rest:=r2)) hp.fit0 (show 0+_*1<=16000000 by have:=hp.szw;lia) hp.szw
 have k3':=jt k3
 have kk:KeptX [] r1 r3:=k2.trans k3'
 have hb1:r1[rest.length]? = some (.dict N):=by rw [k1.same _ (bL hb) (by simp;lia)];exact hb
 have hb3:r3[rest.length]? = some (.dict N):=by rw [kk.same _ (bL hb1) (by simp)];exact hb1
 have hi3:r3[I]? = some (.list l'):=by rw [kk.same _ (bL i1) (by simp)];exact i1
 have k01:KeptX [] rest r3:=by
  refine KeptX.trans ⟨Nat.le_trans k0.len k1.len,fun i hi _=>(k1.same i (Nat.lt_of_lt_of_le hi k0.len) (by simp;lia)).trans (k0.same i hi (by simp))⟩ kk
 generalize hW2:(T.fn w l).with (aI fns 2)=W at e1 e3 hp
 have htold:=hp.told
 have hback:=hp.back
 rw [hW2] at htold hback
 generalize hE:(T.fn w l).ev (aC fns 2 ρ) ρ=E at e2 htold hback
 generalize hG:W.ev (aC fns 0 ρ) ρ=G at e3 htold hback
 suffices hfin:∃r4,KeptX [] r3 r4/\∀n,261<=n->∃so,bV e755.code (Kn true n) [some (.obj 2),some (T.fn w l).rv,none,none,none,none,none,none] (S h N (0:Nat) F rest)=some so/\so.fin=.ok (.bool true) (S h N3 (0:Nat) F r4) by
  obtain ⟨r4,k4,f⟩:=hfin
  exact ⟨N3,r4,hN3,k01.trans k4,(Go.of (E:=e755) rfl rfl f).mono (by lia)⟩
 have s2:∀n,261<=n->ex (.asg 4 (.call 741 (.cons (.loc 1) (.cons (.attr 237 8 (.loc 0)) (.cons (.loc 3) .nil))))) (Kn true n) [some (.obj 2),some (T.fn w l).rv,some (.obj (rest.length+10)),some (.obj (I+10)),none,none,none,none] (S h N (0:Nat) F r0)=some (.next [some (.obj 2),some (T.fn w l).rv,some (.obj (rest.length+10)),some (.obj (I+10)),some W.rv,none,none,none] (S h N (0:Nat) F r1)):=
  fun n hn=>aD (ag rfl (e1.at (by rw [hz];lia)))
 have one:∀n,261<=n->∀(bt:Bool) (vt:RV),jn E=.tup [.bool bt,vt]->ex (.unpack [5,6] false (.call 748 (.cons (.loc 0) (.cons (.loc 1) .nil)))) (Kn true n) [some (.obj 2),some (T.fn w l).rv,some (.obj (rest.length+10)),some (.obj (I+10)),some W.rv,none,none,none] (S h N (0:Nat) F r1)=some (.next [some (.obj 2),some (T.fn w l).rv,some (.obj (rest.length+10)),some (.obj (I+10)),some W.rv,some (.bool bt),some vt,none] (S h N2 (0:Nat) F r2)):=fun n hn bt vt e=>by
  rw [e] at e2
  exact bc (ag rfl (e2.at (br hn rfl))) rfl
 have two:∀n,261<=n->∀(bt:Bool) (vt:RV),ex (.tryx (.set 7) (.cons (.asg 7 (.tup (.cons (.val (.bool true)) (.cons (.call 567 (.cons (.loc 4) (.cons (.inst 685 586 (.cons (.loc 0) (.cons (.val .none) (.cons .dict0 .nil)))) .nil))) .nil)))) .nil)) (Kn true n) [some (.obj 2),some (T.fn w l).rv,some (.obj (rest.length+10)),some (.obj (I+10)),some W.rv,some (.bool bt),some vt,none] (S h N2 (0:Nat) F r2) =
   some (.next [some (.obj 2),some (T.fn w l).rv,some (.obj (rest.length+10)),some (.obj (I+10)),some W.rv,some (.bool bt),some vt,some (jn G)] (S h N3 (0:Nat) F r3)):=fun n hn bt vt=>by
  have ec:ev (.call 567 (.cons (.loc 4) (.cons (.inst 685 586 (.cons (.loc 0) (.cons (.val .none) (.cons .dict0 .nil)))) .nil))) (Kn true n) [some (.obj 2),some (T.fn w l).rv,some (.obj (rest.length+10)),some (.obj (I+10)),some W.rv,some (.bool bt),some vt,none] (S h N2 (0:Nat) F r2)=some (G.res.out (S h N3 (0:Nat) F r3)):=
   ag (ac rfl (ac (ud rfl (br hn rfl)) rfl)) (e3.at (br hn rfl))
  cases G with
  | exc k=>exact nP (aH (jH (lR (iH rfl (cm ec)))))
  | ok v=>exact xS (aa (aD (aL (ac rfl (ac ec rfl)) (cn rfl))) rfl)
 have c1:∀(n:Nat) (γ:Lo),iv γ 0 (S h N3 (0:Nat) F r3)=some (.ok (.obj 2) (S h N3 (0:Nat) F r3))->iv γ 2 (S h N3 (0:Nat) F r3)=some (.ok (.obj (rest.length+10)) (S h N3 (0:Nat) F r3))->ev (.cmp .NotEq (.attr 237 5 (.loc 0)) (.loc 2)) (Kn true n) γ (S h N3 (0:Nat) F r3)=some (.ok (.bool false) (S h N3 (0:Nat) F r3)):=fun n γ h0 h2=>
  bZ (dw h0 rfl rfl) h2 (uD hN3 hN hb3)
 cases E with
 | ok v=>
  have hg:=htold v rfl
  subst hg
  have c2:dh .NotEq (S h N3 (0:Nat) F r3) (.tup [.bool true,v.rv]) (.tup [.bool true,v.rv])=some false:=by
   exact congrArg (fun x=>((Option.bind x fun a=>some (a&&true)).map fun b=>true&&b).map (!·)) (oh v)
  exact ⟨r3,.refl,fun n hn=>⟨_,aa (s1 n) (aa (s2 n hn) (aa (one n hn true v.rv rfl) (aa (two n hn true v.rv) (aa (am (ci (et (c1 n _ rfl rfl) rfl (dU (b:=true) rfl rfl (bZ rfl rfl c2)))) rfl rfl) (ao (aK (j7 (b:=true) rfl rfl))))))),rfl⟩⟩
 | exc k=>
  have t5:∀(n:Nat) (fd:RV),cu (.or (.cmp .NotEq (.attr 237 5 (.loc 0)) (.loc 2)) (.and (.loc 5) (.cmp .NotEq (.loc 7) (.tup (.cons (.val (.bool true)) (.cons (.loc 6) .nil)))))) (Kn true n) [some (.obj 2),some (T.fn w l).rv,some (.obj (rest.length+10)),some (.obj (I+10)),some W.rv,some (.bool false),some (.str k),some fd] (S h N3 (0:Nat) F r3)=some (.ok false (S h N3 (0:Nat) F r3)):=fun n fd=>
   ci (et (c1 n _ rfl rfl) rfl (jK (b:=false) rfl rfl))
  cases G with
  | exc k'=>exact ⟨r3,.refl,fun n hn=>⟨_,aa (s1 n) (aa (s2 n hn) (aa (one n hn false (.str k) rfl) (aa (two n hn false (.str k)) (aa (am (t5 n _) rfl rfl) (ao (aK (et (b:=false) rfl rfl (j7 (b:=true) (kB (b:=false) (aG rfl rfl rfl)) rfl)))))))),rfl⟩⟩
  | ok v=>
   have hl':l'≠[]:=fun e=>by obtain ⟨u,q⟩:=hback (t1 e) v rfl;exact nomatch q
   have hi4:(r3++[AObj.list []])[I]? = some (.list l'):=by rw [List.getElem?_append_left (bL hi3)];exact hi3
   have hi5:(r3++[AObj.list []])[r3.length]? = some (.list []):=by simp
   have c3:dh .NotEq (S h N3 (0:Nat) F (r3++[.list []])) (.obj (I+10)) (.obj (r3.length+10))=some true:=by
    show (ue (S h N3 (0:Nat) F (r3++[.list []])) (I+10) (r3.length+10)).map (!·)=_
    have q1:(S h N3 (0:Nat) F (r3++[AObj.list []]))[I+10]? = some (.list l'):=hi4
    have q2:(S h N3 (0:Nat) F (r3++[AObj.list []]))[r3.length+10]? = some (.list []):=hi5
    have d1:dictAt (S h N3 (0:Nat) F (r3++[AObj.list []])) (I+10)=none:=congrArg (Option.bind · AObj.asDict) q1
    have e:((listAt (S h N3 (0:Nat) F (r3++[AObj.list []])) (I+10)).bind fun l=>(listAt (S h N3 (0:Nat) F (r3++[AObj.list []])) (r3.length+10)).bind fun l'=>o0 l l')=some false:=ak (dP q1) (ak (dP q2) (if_neg fun q=>hl' (List.length_eq_zero_iff.mp q)))
    unfold ue
    rw [d1,e]
    rfl
   exact ⟨r3++[.list []],⟨by rw [List.length_append];lia,fun i hi _=>List.getElem?_append_left hi⟩,fun n hn=>⟨_,aa (s1 n) (aa (s2 n hn) (aa (one n hn false (.str k) rfl) (aa (two n hn false (.str k)) (aa (am (t5 n _) rfl rfl) (ao (aK (et (b:=false) rfl rfl (et (b:=false) (kB (b:=true) (aG rfl rfl rfl)) rfl (bZ rfl rfl c3))))))))),rfl⟩⟩
end
noncomputable def Nm.ren:Nm->Nm
 | .y=>.r
 | .r=>.r
 | .b=>.r
 | _=>.q
noncomputable def bX (old:Nm) (x:Nm):Nm:=if x.str=old.str then old.ren else x
noncomputable def c9 (old:Nm):Nm->Option T:=fun x=>if x.str=old.str then some (.name old.ren) else none
noncomputable def fD (fns:jY) (w:Nm) (ps:List Nm) (b:T) (old:Nm):jY:=fun v=>if v.str=w.str then some (ps.map (bX old),b.put (c9 old)) else fns v
theorem uF {K:cK} {γ:Lo} {st s₁ s₂:ai} {ke ve:XE} {x:Str} {b:RV} (h1:ev ke K γ (st++[.dict []])=some (.ok (.str x) s₁)) (h2:ev ve K γ s₁=some (.ok b s₂)) (h3:s₂[st.length]? = some (.dict [])):ev (.dict1 ke ve) K γ st=some (.ok (.obj st.length) (s₂.set st.length (.dict [(x,b)]))):=
 (av h1 (av h2 (ak rfl (ak (cy h3) (if_pos rfl)))):ow (ev ke K γ) (ev ve K γ) st=_)
theorem addQ:binI .Add (.str "Q") (.str "%")=some (aw .r):=by
 show (if Str.length "Q"+Str.length "%"<=16777216 then some (RV.str (("Q":Str)++("%":Str))) else none)=_
 rw [if_pos (by decide +kernel),show ("Q":Str)++("%":Str)=Nm.r.str by decide +kernel]
theorem yO:binI .Add (.str "Q") (.str "")=some (aw .q):=by
 show (if Str.length "Q"+Str.length ""<=16777216 then some (RV.str (("Q":Str)++("":Str))) else none)=_
 rw [if_pos (by decide +kernel),show ("Q":Str)++("":Str)=Nm.q.str by decide +kernel]
theorem vF (old:Nm) (st:ai):∃r,dA st (aw old) (.int (-1))=some r/\dh .Eq st r (.str "%")=some (match old with | .y=>true | .r=>true | .b=>true | _=>false):=by
 cases old <;> exact ⟨_,rfl,rfl⟩
theorem ss (x:Nm):∀ps:List Nm,wi x.str (ps.map aw)=some (ps.any fun p=>p.str==x.str)
 | []=>rfl
 | p::ps=>by
  rw [List.map_cons,List.any_cons]
  show (wi x.str (ps.map aw)).map _=_
  rw [ss x ps];rfl
section
variable {h:AObj} {N F:List (Str×RV)} {rest:ai} {ρ:En} {fns:jY} {n:Nat}
theorem u5 (hF:FR F fns) (w:Nm) (ps:List Nm) (b:T) (old:Nm):FR (ay F w.str (.tup [.lst ((ps.map (bX old)).map aw),(b.put (c9 old)).rv,.int (-1)])) (fD fns w ps b old):=fun v qs c e=>by
 rw [bH]
 unfold fD at e
 split at e
 ·rename_i q
  cases e
  exact if_pos q
 ·rename_i q
  rw [if_neg q]
  exact hF v qs c e
theorem pK {old:Nm} {K:cK}:∀(ps:List Nm) (a b:Option RV) (st:ai),bw (.one 1) (fun γ s=>ev (.ite (.cmp .Eq (.loc 1) (.loc 2)) (.loc 3) (.loc 1)) K γ s) (ps.map aw) [a,b,some (aw old),some (aw old.ren)] st=some (.ok ((ps.map (bX old)).map aw) st)
 | [],_,_,_=>rfl
 | p::ps,a,b,st=>by
  have t:cu (.cmp .Eq (.loc 1) (.loc 2)) K [a,some (aw p),some (aw old),some (aw old.ren)] st=some (.ok (p.str==old.str) st):=rfl
  refine dD rfl (x:=aw (bX old p)) ?_ (pK ps a _ st)
  unfold bX
  by_cases q:p.str=old.str
  ·rw [if_pos q];exact aS t (by simpa using q) rfl
  ·rw [if_neg q];exact bK t (by simpa using q) rfl
theorem vK (E:VR) (st:ai):dh .Eq st (jn E) (jn E)=some true:=by
 cases E with
 | ok v=>exact congrArg (fun x=>(Option.bind x fun a=>some (a&&true)).map fun b=>true&&b) (oh v)
 | exc k=>show some (true&&((k==k)&&true))=_;rw [beq_self_eq_true];rfl
theorem vj {N':List (Str×RV)} {d:Int} (hN:NR N ρ) (hN':NR N' ρ) {j:Nat} (hj:rest[j]? = some (.dict N')):dh .Eq (S h N d F rest) (.obj 3) (.obj (j+10))=some true:=by
 have e:((dictAt (S h N d F rest) 3).bind fun l=>(dictAt (S h N d F rest) (j+10)).bind fun l'=>gq l l')=some true:=ak rfl (ak (cy (st:=S h N d F rest) hj) (hN.same hN'))
 exact congrArg (fun x=>(Option.or x ((listAt (S h N d F rest) 3).bind fun l=>(listAt (S h N d F rest) (j+10)).bind fun l'=>o0 l l'))) e
noncomputable abbrev gR (call:RV) (w:Nm) (which:Nat) (l:Lo):Lo:=some (.obj 2)::some call::some (aw w)::some (.int which)::l
theorem je (hF:FR F fns) (hFl:F.length<16777215) (hρ:ρ.Ok) {w v:Nm} {l:TL} {ps psA:List Nm} {b bA:T} {old:Nm} {which:Nat} (hw:fns w=some (ps,b)) (hA:fns .a=some (psA,bA)) (ho:ps[which%ps.length]? = some old) (hp:ps.length<3) (hbs:b.sz<=20) (hAs:bA.sz<=20)
  (ht:(T.fn v l).Fit (callable fns 2)) (ht':(T.fn v l).Fit (callable (fD fns w ps b old) 2)) (hs:l.sz<=20)
  (hren:(w.str==Nm.b.str&&(!(psA.any fun p=>p.str==old.str)&&bA.has old))=false->(T.fn v l).ev (aC (fD fns w ps b old) 2 ρ) ρ=(T.fn v l).ev (aC fns 2 ρ) ρ) (hN:NR N ρ) :
  ∃st,Go true 60 760 [.obj 2,(T.fn v l).rv,aw w,.int which] (S h N (0:Nat) F rest) (.ok (.bool true) st):=by
 have p0:0<ps.length:=by
  cases ps with
  | nil=>exact cH ho
  | cons=>exact Nat.succ_pos _
 have e8:dA (S h N (0:Nat) F rest) (.obj 6) (.str w.str)=some (.tup [.lst (ps.map aw),b.rv,.int (-1)]):=hF w ps b hw
 have eA:dA (S h N (0:Nat) F rest) (.obj 6) (.str Nm.a.str)=some (.tup [.lst (psA.map aw),bA.rv,.int (-1)]):=hF .a psA bA hA
 have s1:∀n,ex (.unpack [4,5,6] false (.idx (.attr 237 8 (.loc 0)) (.loc 2))) (Kn true n) (gR (T.fn v l).rv w which [none,none,none,none,none,none,none,none,none,none,none]) (S h N (0:Nat) F rest)=some (.next (gR (T.fn v l).rv w which [some (.lst (ps.map aw)),some b.rv,some (.int (-1)),none,none,none,none,none,none,none,none]) (S h N (0:Nat) F rest)):=fun n=>
  bc (aG rfl rfl e8) rfl
 have i2:dA (S h N (0:Nat) F rest) (.lst (ps.map aw)) (.int ((which%ps.length:Nat):Int))=some (aw old):=by
  have:=Nat.mod_lt which p0
  have e:(ps.map aw)[((which%ps.length:Nat):Int).toNat]? = some (aw old):=by rw [Int.toNat_natCast,List.getElem?_map,ho];rfl
  generalize which%ps.length=k at this e ⊢
  unfold dA
  refine ak rfl ?_
  unfold tX
  rw [if_pos ⟨by lia,by lia⟩,e]
 have s2:∀n,ex (.asg 7 (.idx (.loc 4) (.bin .Mod (.loc 3) (.prim .len (.cons (.loc 4) .nil))))) (Kn true n) (gR (T.fn v l).rv w which [some (.lst (ps.map aw)),some b.rv,some (.int (-1)),none,none,none,none,none,none,none,none]) (S h N (0:Nat) F rest)=some (.next (gR (T.fn v l).rv w which [some (.lst (ps.map aw)),some b.rv,some (.int (-1)),some (aw old),none,none,none,none,none,none,none]) (S h N (0:Nat) F rest)):=fun n=>by
  have hl:callB .len (S h N (0:Nat) F rest) [.lst (ps.map aw)]=some (.int (ps.length:Nat)):=by
   rw [iE (by rw [List.length_map];lia),List.length_map]
  exact aD (aG rfl (aJ rfl (bJ rfl hl) (fm p0)) i2)
 have s3:∀n,ex (.asg 8 (.bin .Add (.val (.str "Q")) (.ite (.cmp .Eq (.idx (.loc 7) (.neg (.val (.int 1)))) (.val (.str "%"))) (.val (.str "%")) (.val (.str ""))))) (Kn true n) (gR (T.fn v l).rv w which [some (.lst (ps.map aw)),some b.rv,some (.int (-1)),some (aw old),none,none,none,none,none,none,none]) (S h N (0:Nat) F rest)=some (.next (gR (T.fn v l).rv w which [some (.lst (ps.map aw)),some b.rv,some (.int (-1)),some (aw old),some (aw old.ren),none,none,none,none,none,none]) (S h N (0:Nat) F rest)):=fun n=>by
  obtain ⟨r,q1,q2⟩:=vF old (S h N (0:Nat) F rest)
  have t:=ci (K:=Kn true n) (γ:=gR (T.fn v l).rv w which [some (.lst (ps.map aw)),some b.rv,some (.int (-1)),some (aw old),none,none,none,none,none,none,none]) (bZ (op:=.Eq) (e:=.idx (.loc 7) (.neg (.val (.int 1)))) (e':=.val (.str "%")) (aG rfl rfl q1) rfl q2)
  cases old with
  | y=>exact aD (aJ rfl (aS t rfl rfl) addQ)
  | r=>exact aD (aJ rfl (aS t rfl rfl) addQ)
  | b=>exact aD (aJ rfl (aS t rfl rfl) addQ)
  | _=>exact aD (aJ rfl (bK t rfl rfl) yO)
 have s4:∀n,ex (.unpack [9,10,11] true (.tup (.cons (.idx (.idx (.attr 237 8 (.loc 0)) (.val (.str "FNA"))) (.val (.int 0))) (.cons (.idx (.idx (.attr 237 8 (.loc 0)) (.val (.str "FNA"))) (.val (.int 1))) (.cons (.idx (.attr 237 8 (.loc 0)) (.loc 2)) .nil))))) (Kn true n) (gR (T.fn v l).rv w which [some (.lst (ps.map aw)),some b.rv,some (.int (-1)),some (aw old),some (aw old.ren),none,none,none,none,none,none]) (S h N (0:Nat) F rest)=some (.next (gR (T.fn v l).rv w which [some (.lst (ps.map aw)),some b.rv,some (.int (-1)),some (aw old),some (aw old.ren),some (.lst (psA.map aw)),some bA.rv,some (.tup [.lst (ps.map aw),b.rv,.int (-1)]),none,none,none]) (S h N (0:Nat) F rest)):=fun n=>
  bc (aL (ac (aG (aG rfl rfl eA) rfl rfl) (ac (aG (aG rfl rfl eA) rfl rfl) (ac (aG rfl rfl e8) rfl))) (cn rfl)) rfl
 have t5:∀n,59<=n->cu (.and (.cmp .Eq (.loc 2) (.val (.str "FNB%"))) (.and (.cmp .NotIn (.loc 7) (.loc 9)) (.call 734 (.cons (.loc 10) (.cons (.loc 7) .nil))))) (Kn true n) (gR (T.fn v l).rv w which [some (.lst (ps.map aw)),some b.rv,some (.int (-1)),some (aw old),some (aw old.ren),some (.lst (psA.map aw)),some bA.rv,some (.tup [.lst (ps.map aw),b.rv,.int (-1)]),none,none,none]) (S h N (0:Nat) F rest)=some (.ok (w.str==Nm.b.str&&(!(psA.any fun p=>p.str==old.str)&&bA.has old)) (S h N (0:Nat) F rest)):=fun n hn=>by
  have g:=(lM old (S h N (0:Nat) F rest) bA).at (n:=n) (by lia)
  have c1:ev (.cmp .Eq (.loc 2) (.val (.str "FNB%"))) (Kn true n) (gR (T.fn v l).rv w which [some (.lst (ps.map aw)),some b.rv,some (.int (-1)),some (aw old),some (aw old.ren),some (.lst (psA.map aw)),some bA.rv,some (.tup [.lst (ps.map aw),b.rv,.int (-1)]),none,none,none]) (S h N (0:Nat) F rest)=some (.ok (.bool (w.str==Nm.b.str)) (S h N (0:Nat) F rest)):=rfl
  have c2:ev (.cmp .NotIn (.loc 7) (.loc 9)) (Kn true n) (gR (T.fn v l).rv w which [some (.lst (ps.map aw)),some b.rv,some (.int (-1)),some (aw old),some (aw old.ren),some (.lst (psA.map aw)),some bA.rv,some (.tup [.lst (ps.map aw),b.rv,.int (-1)]),none,none,none]) (S h N (0:Nat) F rest)=some (.ok (.bool (!(psA.any fun p=>p.str==old.str))) (S h N (0:Nat) F rest)):=
   bZ rfl rfl (by show (wi old.str (psA.map aw)).map _=_;rw [ss];rfl)
  generalize (w.str==Nm.b.str)=x at c1 ⊢
  generalize (!(psA.any fun p=>p.str==old.str))=y at c2 ⊢
  cases x with
  | false=>exact ci (jK c1 rfl)
  | true=>
   cases y with
   | false=>exact ci (dU c1 rfl (jK c2 rfl))
   | true=>exact ci (dU c1 rfl (dU c2 rfl (ag (ac rfl (ac rfl rfl)) g)))
 cases hx:(w.str==Nm.b.str&&(!(psA.any fun p=>p.str==old.str)&&bA.has old)) with
 | true=>
  rw [hx] at t5
  exact ⟨_,Go.of (E:=xQ) rfl rfl fun n hn=>⟨_,aa (s1 n) (aa (s2 n) (aa (s3 n) (aa (s4 n) (ao (aF (t5 n hn) rfl (ao rfl)))))),rfl⟩⟩
 | false=>
  rw [hx] at t5
  have hq:=hren hx
  obtain ⟨N1,r1,hN1,k1,e1⟩:=gN (h:=h) (rest:=rest) hF hρ ht hs hN
  generalize hr2:r1++[AObj.dict N1]=r2
  have hb2:r2[r1.length]? = some (.dict N1):=by rw [<-hr2];simp
  have hg:((r2++[AObj.dict []]).set r2.length (.dict [(old.str,(T.name old.ren).rv)]))[r2.length]? = some (.dict [(old.str,(T.name old.ren).rv)]):=List.getElem?_set_self (by rw [List.length_append,List.length_singleton];lia)
  have hb3:((r2++[AObj.dict []]).set r2.length (.dict [(old.str,(T.name old.ren).rv)]))[r1.length]? = some (.dict N1):=by
   have:=bL hb2
   rw [List.getElem?_set_ne (by lia),List.getElem?_append_left this];exact hb2
  generalize hr3:(r2++[AObj.dict []]).set r2.length (.dict [(old.str,(T.name old.ren).rv)])=r3 at hg hb3
  have hG:∀x:Nm,([(old.str,(T.name old.ren).rv)]:List (Str×RV)).lookup x.str=(c9 old x).map T.rv:=fun x=>by
   unfold c9
   rw [List.lookup_cons]
   by_cases q:x.str=old.str
   ·rw [if_pos q,q];simp
   ·rw [if_neg q,show (x.str==old.str)=false from by simpa using q];rfl
  obtain ⟨N4,r4,hN4,k4,e4⟩:=gN (h:=h) (rest:=r3) (u5 hF w ps b old) hρ ht' hs hN1
  rw [hq] at e4
  generalize hF':ay F w.str (.tup [.lst ((ps.map (bX old)).map aw),(b.put (c9 old)).rv,.int (-1)])=F' at e4
  have hb4:r4[r1.length]? = some (.dict N1):=by rw [k4.same _ (bL hb3) (by simp)];exact hb3
  have hFl':F'.length<16777216:=by rw [<-hF'];have:=cY (l:=F) (k:=w.str) (r:=.tup [.lst ((ps.map (bX old)).map aw),(b.put (c9 old)).rv,.int (-1)]);lia
  generalize hE:jn ((T.fn v l).ev (aC fns 2 ρ) ρ)=E at e1 e4
  have eE:∀st,dh .Eq st E E=some true:=fun st=>by rw [<-hE];exact vK _ st
  refine ⟨S h N4 (0:Nat) (ay F' w.str (.tup [.lst (ps.map aw),b.rv,.int (-1)])) r4,Go.of (E:=xQ) rfl rfl fun n hn=>?_⟩
  have s6:ex (.unpack [12,13] true (.tup (.cons (.call 748 (.cons (.loc 0) (.cons (.loc 1) .nil))) (.cons (.dcopy (.cons (.attr 237 5 (.loc 0)) .nil)) .nil)))) (Kn true n) (gR (T.fn v l).rv w which [some (.lst (ps.map aw)),some b.rv,some (.int (-1)),some (aw old),some (aw old.ren),some (.lst (psA.map aw)),some bA.rv,some (.tup [.lst (ps.map aw),b.rv,.int (-1)]),none,none,none]) (S h N (0:Nat) F rest) =
    some (.next (gR (T.fn v l).rv w which [some (.lst (ps.map aw)),some b.rv,some (.int (-1)),some (aw old),some (aw old.ren),some (.lst (psA.map aw)),some bA.rv,some (.tup [.lst (ps.map aw),b.rv,.int (-1)]),some E,some (.obj (r1.length+10)),none]) (S h N1 (0:Nat) F r2)):=by
   rw [<-hr2]
   exact bc (aL (ac (ag rfl (e1.at (br hn rfl))) (ac (o5 rfl rfl hN1.short) rfl)) (cn rfl)) rfl
  have hput:=i9 (st:=S h N1 (0:Nat) F r3) (g:=r2.length+10) hg hG b (by lia)
  have d7:ev (.dict1 (.loc 7) (.tup (.cons (.val (.str "name")) (.cons (.loc 8) .nil)))) (Kn true n) (gR (T.fn v l).rv w which [some (.lst (ps.map aw)),some b.rv,some (.int (-1)),some (aw old),some (aw old.ren),some (.lst (psA.map aw)),some bA.rv,some (.tup [.lst (ps.map aw),b.rv,.int (-1)]),some E,some (.obj (r1.length+10)),none]) (S h N1 (0:Nat) F r2)=some (.ok (.obj (r2.length+10)) (S h N1 (0:Nat) F r3)):=by
   rw [<-hr3]
   have e:(r2++[AObj.dict []])[r2.length]? = some (.dict []):=by simp
   exact uF (K:=Kn true n) (ke:=.loc 7) (ve:=.tup (.cons (.val (.str "name")) (.cons (.loc 8) .nil))) (γ:=gR (T.fn v l).rv w which [some (.lst (ps.map aw)),some b.rv,some (.int (-1)),some (aw old),some (aw old.ren),some (.lst (psA.map aw)),some bA.rv,some (.tup [.lst (ps.map aw),b.rv,.int (-1)]),some E,some (.obj (r1.length+10)),none]) (st:=S h N1 (0:Nat) F r2) (s₁:=S h N1 (0:Nat) F (r2++[AObj.dict []])) (s₂:=S h N1 (0:Nat) F (r2++[AObj.dict []])) (x:=old.str) (b:=(T.name old.ren).rv) rfl rfl e
  have z7:dB (S h N1 (0:Nat) F r3) (.obj 6) (.str w.str) (.tup [.lst ((ps.map (bX old)).map aw),(b.put (c9 old)).rv,.int (-1)])=some (S h N1 (0:Nat) F' r3):=by rw [<-hF'];exact if_pos (by lia)
  have s7:ex (.setitem (.attr 237 8 (.loc 0)) (.loc 2) (.tup (.cons (.comp (.one 1) .one (.cons (.loc 4) .nil) (.ite (.cmp .Eq (.loc 1) (.loc 2)) (.loc 3) (.loc 1)) [".0","name"] [7,8]) (.cons (.call 727 (.cons (.loc 5) (.cons (.dict1 (.loc 7) (.tup (.cons (.val (.str "name")) (.cons (.loc 8) .nil)))) .nil))) (.cons (.loc 6) .nil))))) (Kn true n) (gR (T.fn v l).rv w which [some (.lst (ps.map aw)),some b.rv,some (.int (-1)),some (aw old),some (aw old.ren),some (.lst (psA.map aw)),some bA.rv,some (.tup [.lst (ps.map aw),b.rv,.int (-1)]),some E,some (.obj (r1.length+10)),none]) (S h N1 (0:Nat) F r2) =
    some (.next (gR (T.fn v l).rv w which [some (.lst (ps.map aw)),some b.rv,some (.int (-1)),some (aw old),some (aw old.ren),some (.lst (psA.map aw)),some bA.rv,some (.tup [.lst (ps.map aw),b.rv,.int (-1)]),some E,some (.obj (r1.length+10)),none]) (S h N1 (0:Nat) F' r3)):=
   bG (aL (ac (du (l:=ps.map aw) rfl (by rw [List.length_map];lia) (pK ps none none _)) (ac (ag (ac rfl (ac d7 rfl)) (hput.at (by lia))) (ac rfl rfl))) (cn rfl)) rfl rfl z7
  have z9:dB (S h N4 (0:Nat) F' r4) (.obj 6) (.str w.str) (.tup [.lst (ps.map aw),b.rv,.int (-1)])=some (S h N4 (0:Nat) (ay F' w.str (.tup [.lst (ps.map aw),b.rv,.int (-1)])) r4):=if_pos (by omega)
  exact ⟨_,aa (s1 n) (aa (s2 n) (aa (s3 n) (aa (s4 n) (aa (am (t5 n hn) rfl rfl) (aa s6 (aa s7 (aa (aD (ag rfl (e4.at (br hn rfl)))) (aa (bG rfl rfl rfl z9) (ao (aK (dU (b:=true) (bZ rfl rfl (eE _)) rfl (bZ rfl rfl (vj hN4 hN1 hb4))))))))))))),rfl⟩
end
noncomputable def w6 (c e:Int):Prop:=(c=0/\e=0)\/(c.natAbs%10≠0/\aX c.natAbs<=6 /\ -99<=e+aX c.natAbs-1/\e+aX c.natAbs-1<=99)
theorem mV {m:Nat} (k:Nat) (h:0<m):aX (m*10^k)=aX m+k:=by
 refine uB (by have:=gB m;lia) ?_ ?_
 ·rw [Nat.pow_add];exact Nat.mul_lt_mul_of_pos_right (iJ m) (Nat.pow_pos (by decide))
 ·rcases lj m with q | q
  ·by_cases hk:k=0
   ·exact .inl (by lia)
   ·refine .inr ?_
    rw [q,Nat.add_sub_cancel_left]
    exact Nat.le_mul_of_pos_left _ h
  ·refine .inr ?_
   rw [Nat.sub_add_comm (gB m),Nat.pow_add]
   exact Nat.mul_le_mul_right _ q
theorem lf {s:Nat} (h:s%10≠0):∀(j f:Nat) (e:Int),j<=f->bj f (s*10^j) e=(s,e+j)
 | 0,0,e,_=>by rw [bj];simp
 | 0,f+1,e,_=>by rw [bj,Nat.pow_zero,Nat.mul_one,if_neg h];simp
 | j+1,0,e,hf=>by lia
 | j+1,f+1,e,hf=>by
  have e1:s*10^(j+1)=s*10^j*10:=by rw [Nat.pow_succ,Nat.mul_assoc]
  rw [bj,e1,if_pos (Nat.mul_mod_left _ _),Nat.mul_div_cancel _ (by decide),lf h j f _ (by lia)]
  congr 1;lia
theorem lc:∀(f s:Nat) (e:Int),0<s->s<=f->(bj f s e).1%10≠0
 | 0,s,e,h1,h2=>by lia
 | f+1,s,e,h1,h2=>by
  rw [bj]
  by_cases q:s%10=0
  ·rw [if_pos q];exact lc f _ _ (by lia) (by lia)
  ·rw [if_neg q];exact q
theorem qS {s:Nat} (j:Nat) (e:Int) (h:s%10≠0):strip (s*10^j) e=(s,e+j):=by
 unfold strip
 refine lf h j _ e ?_
 have h1:=n8 j
 have h2:10^j<=s*10^j:=Nat.le_mul_of_pos_left _ (by lia)
 lia
theorem jE {b:Bool} {s:Nat} {e c x:Int} (hs:s<=10^6) (h:em b s e=.ok (.d c x)):w6 c x:=by
 unfold em at h
 split at h
 ·cases h;exact .inl ⟨rfl,rfl⟩
 ·rename_i h0
  have h1:=lc s s e (by lia) (Nat.le_refl _)
  have h2:=jB s s e
  unfold lE at h
  unfold strip at h
  generalize bj s s e=p at h h1 h2
  obtain ⟨u,y⟩:=p
  dsimp only at h h1 h2
  split at h
  ·cases h
  ·split at h
   ·cases h;exact .inl ⟨rfl,rfl⟩
   ·have hf:aX u<=6:=gk (by decide) (by lia)
    have ha:((if b=true then -(u:Int) else u)).natAbs=u:=by cases b <;> simp
    cases h
    rename_i q1 q2
    refine .inr ?_
    rw [ha]
    exact ⟨h1,hf,by lia,by lia⟩
theorem q0 {a b c e:Int} (h:bY a b=.ok (.d c e)):w6 c e:=by
 unfold bY at h
 have hf:=iJ a.natAbs
 split at h
 ·rename_i q
  obtain ⟨p,hp⟩:∃p:Nat,(aX a.natAbs:Int)-6=p:=Int.eq_ofNat_of_zero_le (by lia)
  rw [hp] at h
  refine jE (ig ?_ (by lia)) h
  rw [show p+6=aX a.natAbs from by lia];exact hf
 ·refine jE (Nat.le_of_lt (Nat.lt_of_lt_of_le hf (bu (by lia)))) h
theorem nG {m p:Nat} (h:(p:Int)<=aX (m*10^p)+1):roundN (m*10^p) p=m:=by
 have hp:0<10^p:=Nat.pow_pos (by decide)
 unfold roundN
 by_cases q:(p:Int)<=0
 ·rw [if_pos q,show p=0 by lia];simp
 ·rw [if_neg q,if_neg (by lia),Int.toNat_natCast,Nat.mul_mod_left,Nat.mul_div_cancel _ hp,if_neg (by lia)]
theorem mD {b:Bool} {s j:Nat} {e:Int} (h:s%10≠0) (h1 : -99<=e+j+aX s-1) (h2:e+j+aX s-1<=99):em b (s*10^j) e=.ok (.d (if b then -(s:Int) else s) (e+j)):=by
 have hp:0<10^j:=Nat.pow_pos (by decide)
 have:s*10^j≠0:=Nat.mul_ne_zero (by lia) (by lia)
 unfold em lE
 rw [if_neg this,qS j e h]
 dsimp only
 rw [if_neg (by lia),if_neg (by lia)]
theorem kP {c e:Int} (h:w6 c e) (k:Nat):bY (c*((10^k:Nat):Int)) (e-k)=.ok (.d c e):=by
 rcases h with ⟨rfl,rfl⟩ | ⟨h1,h2,h3,h4⟩
 ·rw [Int.zero_mul];rfl
 ·have hp:0<10^k:=Nat.pow_pos (by decide)
  have ha:(c*((10^k:Nat):Int)).natAbs=c.natAbs*10^k:=by rw [Int.natAbs_mul,Int.natAbs_natCast]
  have hc:decide (c*((10^k:Nat):Int)<0)=decide (c<0):=by
   have hq:(0:Int)<((10^k:Nat):Int):=by lia
   by_cases q:c<0
   ·rw [decide_eq_true q,decide_eq_true (Int.mul_neg_of_neg_of_pos q hq)]
   ·rw [decide_eq_false q,decide_eq_false (Int.not_lt.mpr (Int.mul_nonneg (by lia) (by lia)))]
  have hs:(if decide (c<0)=true then -((c.natAbs:Nat):Int) else (c.natAbs:Nat))=c:=by
   by_cases q:c<0
   ·rw [if_pos (by simpa using q)];omega
   ·rw [if_neg (by simpa using q)];lia
  have hf:=mV k (m:=c.natAbs) (by lia)
  unfold bY
  rw [ha,hc,hf]
  split
  ·rename_i q
   obtain ⟨p,hp⟩:∃p:Nat,((aX c.natAbs+k:Nat):Int)-6=p:=Int.eq_ofNat_of_zero_le (by lia)
   obtain ⟨j,rfl⟩:∃j,k=j+p:=⟨k-p,(Nat.sub_add_cancel (by lia)).symm⟩
   rw [hp]
   have e1:c.natAbs*10^(j+p)=c.natAbs*10^j*10^p:=by rw [Nat.pow_add,Nat.mul_assoc]
   rw [e1,nG (by rw [<-e1,hf];lia),mD h1 (by lia) (by lia),hs]
   congr 2;lia
  ·rw [mD h1 (by lia) (by lia),hs]
   congr 2;lia
theorem add_zero {a b c e:Int} (h:bY a b=.ok (.d c e)):ll c e 0 0=.ok (.d c e):=by
 have hn:=q0 h
 unfold ll dY
 by_cases q:0<e
 ·rw [if_pos q,Int.zero_mul,Int.add_zero]
  obtain ⟨k,rfl⟩:∃k:Nat,e=k:=⟨e.toNat,by lia⟩
  have:=kP hn k
  rw [show ((k:Int)-0).toNat=k by lia]
  rwa [show (k:Int)-k=0 by lia] at this
 ·rw [if_neg q,Int.zero_mul,Int.add_zero]
  have:=kP hn 0
  rw [show (e-e).toNat=0 by lia]
  rwa [show e-((0:Nat):Int)=e by lia] at this
theorem vA (m:Int):iT m 1=.ok (.i m):=by
 unfold iT
 rw [if_neg (by decide),show (1:Int).natAbs=1 from rfl,Nat.div_one]
 by_cases q:m<0
 ·rw [if_neg (by simp [q])];congr 2;omega
 ·rw [if_pos (by simp [q])];congr 2;lia
theorem vG (x:Str):x++("":Str)=x:=by
 obtain ⟨a⟩:=x
 show (⟨a ++ #[]⟩:Str)=_
 rw [Array.append_empty]
theorem VR.bind_congr {x:VR} {f g:V->VR} (h:∀v,x=.ok v->f v=g v):x.bind f=x.bind g:=by
 cases x with
 | ok v=>exact h v rfl
 | exc k=>rfl
theorem rh (u:V):l9 .add u (.s "")=dp .text u:=by
 cases u with
 | s x=>
  show kC (.s (x++("":Str)))=kC (.s x)
  rw [vG]
 | _=>rfl
theorem qg (u:V):l9 .cut u (.i 1)=dp .whole u:=by
 have go:(cb u).bind (fun x=>(cb (.i 1)).bind fun y=>xu x y)=cb u:=by
  refine Eq.trans (VR.bind_congr (g:=.ok) fun v hv=>?_) (by cases cb u <;> rfl)
  obtain ⟨m,rfl,hm⟩:=dF hv
  rw [show cb (.i 1)=.ok (.i 1) from rfl]
  show (iT m 1).bind (fun q=>match q with | .i q=>bv q | _=>.exc "")=_
  rw [vA]
  show bv m=_
  unfold bv
  exact if_pos (by unfold cZ;obtain ⟨h1,h2⟩:=hm;simp [h1,h2])
 cases u with
 | s x=>rfl
 | i n=>exact go
 | d c e=>exact go
theorem vT (u:V):l9 .add u (.d 0 0)=dp .decimal u:=by
 have go:(bk u).bind (fun x=>(bk (.d 0 0)).bind fun y=>vH .add x y)=bk u:=by
  refine Eq.trans (VR.bind_congr (g:=.ok) fun v hv=>?_) (by cases bk u <;> rfl)
  obtain ⟨c,e,rfl,_⟩:=cD hv
  show ll c e 0 0=_
  cases u with
  | i n=>exact add_zero hv
  | d c e=>exact add_zero hv
  | s x=>exact nomatch hv
 cases u with
 | s x=>rfl
 | i n=>exact go
 | d c e=>exact go
theorem iy {call:Nm->List V->VR} {ρ:En} (k:Kd) (t:T):(t.kept k).ev call ρ=(t.ev call ρ).bind (dp k):=by
 cases k with
 | text=>
  show (T.two .add t (.lit (.s ""))).ev call ρ=_
  rw [T.ev,T.ev]
  exact VR.bind_congr fun u _=>rh u
 | whole=>
  show (T.two .cut t (.lit (.i 1))).ev call ρ=_
  rw [T.ev,T.ev]
  exact VR.bind_congr fun u _=>qg u
 | decimal=>
  show (T.two .add t (.lit (.d 0 0))).ev call ρ=_
  rw [T.ev,T.ev]
  exact VR.bind_congr fun u _=>vT u
mutual
noncomputable def T.Names (P:Nm->Prop):T->Prop
 | .lit _=>True
 | .name x=>P x
 | .two _ a b=>a.Names P/\b.Names P
 | .fn _ l=>l.Names P
noncomputable def TL.Names (P:Nm->Prop):TL->Prop
 | .nil=>True
 | .cons t l=>t.Names P/\l.Names P
end
mutual
theorem T.Names.mono {P Q:Nm->Prop} (h:∀x,P x->Q x):∀{t:T},t.Names P->t.Names Q
 | .lit _,_=>trivial
 | .name x,p=>h x p
 | .two _ _ _,p=>⟨T.Names.mono h p.1,T.Names.mono h p.2⟩
 | .fn _ _,p=>TL.Names.mono h p
theorem TL.Names.mono {P Q:Nm->Prop} (h:∀x,P x->Q x):∀{l:TL},l.Names P->l.Names Q
 | .nil,_=>trivial
 | .cons _ _,p=>⟨T.Names.mono h p.1,TL.Names.mono h p.2⟩
end
mutual
theorem T.names_all {P:Nm->Prop} (h:∀x,P x):∀t:T,t.Names P
 | .lit _=>trivial
 | .name x=>h x
 | .two _ a b=>⟨T.names_all h a,T.names_all h b⟩
 | .fn _ l=>TL.names_all h l
theorem TL.names_all {P:Nm->Prop} (h:∀x,P x):∀l:TL,l.Names P
 | .nil=>trivial
 | .cons t l=>⟨T.names_all h t,TL.names_all h l⟩
end
noncomputable abbrev bT:Nm->Nat->Prop:=fun _ _=>False
theorem gK:∀{t:T},t.Fit bT->t.Names fun x=>t.has x=true
 | .lit _,_=>trivial
 | .name x,_=>beq_self_eq_true x.str
 | .two _ a b,h=>⟨(gK h.1).mono fun x q=>(by rw [T.has,q];rfl),(gK h.2).mono fun x q=>(by rw [T.has,q,Bool.or_true])⟩
 | .fn _ _,h=>h.1.elim
section
variable {c1 c2:Nm->List V->VR} {ρ1 ρ2:En} {cf:Nm->Nat->Prop} {σ:Nm->Option T}
mutual
theorem fV (hc:∀w vs,cf w vs.length->c1 w vs=c2 w vs):∀t:T,t.Fit cf->(t.Names fun x=>((σ x).getD (.name x)).ev c1 ρ1=.ok (val ρ2 x))->(t.put σ).ev c1 ρ1=t.ev c2 ρ2
 | .lit v,_,_=>rfl
 | .name x,_,h=>h
 | .two op a b,f,h=>by
  show (T.two op (a.put σ) (b.put σ)).ev c1 ρ1=_
  rw [T.ev,T.ev,fV hc a f.1 h.1,fV hc b f.2 h.2]
 | .fn w l,f,h=>by
  show (T.fn w (l.put σ)).ev c1 ρ1=_
  rw [T.ev,T.ev,pg hc l f.2 h]
  cases q:l.ev c2 ρ2 with
  | error k=>rfl
  | ok vs=>exact hc w vs (TL.ev_len l vs q▸f.1)
theorem pg (hc:∀w vs,cf w vs.length->c1 w vs=c2 w vs):∀l:TL,l.Fit cf->(l.Names fun x=>((σ x).getD (.name x)).ev c1 ρ1=.ok (val ρ2 x))->(l.put σ).ev c1 ρ1=l.ev c2 ρ2
 | .nil,_,_=>rfl
 | .cons t l,f,h=>by
  show (TL.cons (t.put σ) (l.put σ)).ev c1 ρ1=_
  rw [TL.ev,TL.ev,fV hc t f.1 h.1,pg hc l f.2 h.2]
end
mutual
theorem dJ:∀t:T,t.put (fun _=>none)=t
 | .lit _=>rfl
 | .name _=>rfl
 | .two op a b=>by rw [T.put,dJ a,dJ b]
 | .fn w l=>by rw [T.put,dK l]
theorem dK:∀l:TL,l.put (fun _=>none)=l
 | .nil=>rfl
 | .cons t l=>by rw [TL.put,dJ t,dK l]
end
theorem gx (hc:∀w vs,cf w vs.length->c1 w vs=c2 w vs) (t:T) (f:t.Fit cf) (h:t.Names fun x=>val ρ1 x=val ρ2 x):t.ev c1 ρ1=t.ev c2 ρ2:=by
 have:=fV (σ:=fun _=>none) (ρ1:=ρ1) (ρ2:=ρ2) hc t f (h.mono fun x q=>(by show (T.name x).ev c1 ρ1=_;rw [T.ev,q]))
 rwa [dJ] at this
theorem iN:∀{t:T} {v:V} {x:Nm},t.Fit bT->(t.put σ).ev c1 ρ1=.ok v->t.has x=true->∃u,((σ x).getD (.name x)).ev c1 ρ1=.ok u
 | .lit _,_,_,_,_,h=>aN h
 | .name y,v,x,_,e,h=>by
  have:=Nm.inj (beq_iff_eq.mp h)
  subst this
  exact ⟨v,e⟩
 | .two op a b,v,x,f,e,h=>by
  replace e:(T.two op (a.put σ) (b.put σ)).ev c1 ρ1=.ok v:=e
  rw [T.ev] at e
  obtain ⟨u,e1,e2⟩:=VR.bind_inv e
  obtain ⟨w,e3,_⟩:=VR.bind_inv e2
  rcases Bool.or_eq_true .. |>.mp h with h | h
  ·exact iN f.1 e1 h
  ·exact iN f.2 e3 h
 | .fn _ _,_,_,f,_,_=>f.1.elim
end
theorem ie {x:Nm}:∀{ps:List Nm} {l:TL} {σ:Nm->Option T},x∉ps->gives σ ps l x=σ x
 | [],_,_,_=>rfl
 | _::_,.nil,_,_=>rfl
 | p::ps,.cons t l,σ,h=>by
  rw [List.mem_cons,not_or] at h
  show gives (fL σ p (t.kept p.kd)) ps l x=_
  rw [ie h.2]
  exact if_neg fun e=>h.1 (Nm.inj e)
section
variable {c1:Nm->List V->VR} {ρ:En}
theorem iQ:∀{ps:List Nm} {l:TL} {σ:Nm->Option T} {ρ0:En} {vs us:List V},(∀x,((σ x).getD (.name x)).ev c1 ρ=.ok (val ρ0 x))->l.ev c1 ρ=.ok vs->bN ps vs=.ok us->∀x,((gives σ ps l x).getD (.name x)).ev c1 ρ=.ok (val (puts ρ0 ps us) x)
 | [],_,_,_,_,_,h,_,e=>by cases e;exact h
 | p::ps,.nil,_,_,vs,us,h,e1,e2=>by rw [TL.ev] at e1;cases e1;cases e2;exact h
 | p::ps,.cons t l,σ,ρ0,vs,us,h,e1,e2=>by
  rw [TL.ev] at e1
  obtain ⟨v,vs',a1,a2,rfl⟩:=bI e1
  rw [bN] at e2
  obtain ⟨u,us',b1,b2,rfl⟩:=bI e2
  refine iQ (σ:=fL σ p (t.kept p.kd)) (ρ0:=ρ0.put p (some u)) (fun x=>?_) a2 b2
  unfold fL
  by_cases q:x.str=p.str
  ·have:=Nm.inj q
   subst this
   rw [if_pos rfl]
   show (t.kept x.kd).ev c1 ρ=_
   rw [iy,a1]
   show dp x.kd v=_
   rw [b1]
   unfold val En.put
   rw [if_pos rfl];rfl
  ·rw [if_neg q,h x]
   unfold val En.put
   rw [if_neg q]
theorem jR:∀{ps:List Nm} {l:TL} {σ:Nm->Option T},ps.Nodup->ps.length=l.rvs.length->(∀p∈ps,∃v,((gives σ ps l p).getD (.name p)).ev c1 ρ=.ok v)->∃vs us,l.ev c1 ρ=.ok vs/\bN ps vs=.ok us
 | [],.nil,_,_,_,_=>⟨[],[],rfl,rfl⟩
 | [],.cons _ _,_,_,h,_=>hO h
 | _::_,.nil,_,_,h,_=>sS h
 | p::ps,.cons t l,σ,hn,hl,h=>by
  rw [List.nodup_cons] at hn
  obtain ⟨vs,us,e1,e2⟩:=jR (σ:=fL σ p (t.kept p.kd)) hn.2 (by rw [TL.rvs,List.length_cons,List.length_cons] at hl;lia) fun q m=>h q (.tail _ m)
  obtain ⟨v,e3⟩:=h p (.head _)
  replace e3:((gives (fL σ p (t.kept p.kd)) ps l p).getD (.name p)).ev c1 ρ=.ok v:=e3
  rw [ie hn.1,show fL σ p (t.kept p.kd) p=some (t.kept p.kd) from if_pos rfl] at e3
  replace e3:(t.kept p.kd).ev c1 ρ=.ok v:=e3
  rw [iy] at e3
  obtain ⟨u,a1,a2⟩:=VR.bind_inv e3
  exact ⟨u::vs,v::us,by rw [TL.ev,a1,e1];rfl,by rw [bN,a2,e2];rfl⟩
end
section
variable {fns:jY}
theorem jh {cf:Nm->Nat->Prop} {k:Kd} {t:T} (h:t.Fit cf):(t.kept k).Fit cf:=by
 cases k with
 | text=>exact ⟨h,Nat.zero_le _⟩
 | whole=>exact ⟨h,by constructor <;> decide⟩
 | decimal=>exact ⟨h,by refine ⟨?_,?_,?_⟩ <;> decide⟩
theorem nu {σ:Nm->Option T}:∀l:TL,(l.put σ).rvs.length=l.rvs.length
 | .nil=>rfl
 | .cons t l=>by
  show ((t.put σ).rv::(l.put σ).rvs).length=(t.rv::l.rvs).length
  rw [List.length_cons,List.length_cons,nu l]
mutual
theorem dj {c0 cf:Nm->Nat->Prop} {σ:Nm->Option T} (hc:∀w k,c0 w k->cf w k) (hσ:∀x t,σ x=some t->t.Fit cf):∀{t:T},t.Fit c0->(t.put σ).Fit cf
 | .lit _,h=>h
 | .name x,_=>by
  show ((σ x).getD (.name x)).Fit cf
  cases q:σ x with
  | none=>trivial
  | some t=>exact hσ x t q
 | .two _ a b,h=>⟨dj hc hσ h.1,dj hc hσ h.2⟩
 | .fn w l,h=>⟨hc _ _ (by rw [nu];exact h.1),eM hc hσ h.2⟩
theorem eM {c0 cf:Nm->Nat->Prop} {σ:Nm->Option T} (hc:∀w k,c0 w k->cf w k) (hσ:∀x t,σ x=some t->t.Fit cf):∀{l:TL},l.Fit c0->(l.put σ).Fit cf
 | .nil,_=>trivial
 | .cons _ _,h=>⟨dj hc hσ h.1,eM hc hσ h.2⟩
end
mutual
theorem jd {σ:Nm->Option T} {K:Nat} (h1:1<=K) (hσ:∀x t,σ x=some t->t.sz<=K):∀t:T,(t.put σ).sz<=t.sz*K
 | .lit _=>by show 1<=1*K;lia
 | .name x=>by
  show ((σ x).getD (.name x)).sz<=1*K
  cases q:σ x with
  | none=>show 1<=1*K;lia
  | some t=>have:=hσ x t q;show t.sz<=1*K;lia
 | .two _ a b=>by
  have ha:=jd h1 hσ a
  have hb:=jd h1 hσ b
  show (a.put σ).sz+(b.put σ).sz+1<=(a.sz+b.sz+1)*K
  rw [Nat.add_mul,Nat.add_mul];lia
 | .fn _ l=>by
  have:=pT h1 hσ l
  show (l.put σ).sz+1<=(l.sz+1)*K
  rw [Nat.add_mul];lia
theorem pT {σ:Nm->Option T} {K:Nat} (h1:1<=K) (hσ:∀x t,σ x=some t->t.sz<=K):∀l:TL,(l.put σ).sz<=l.sz*K
 | .nil=>Nat.zero_le _
 | .cons t l=>by
  have ha:=jd h1 hσ t
  have hb:=pT h1 hσ l
  show (t.put σ).sz+(l.put σ).sz<=(t.sz+l.sz)*K
  rw [Nat.add_mul];lia
end
theorem hJ {cf:Nm->Nat->Prop}:∀{ps:List Nm} {l:TL} {σ:Nm->Option T},(∀x t,σ x=some t->t.Fit cf)->l.Fit cf->∀x t,gives σ ps l x=some t->t.Fit cf
 | [],_,_,h,_=>h
 | _::_,.nil,_,h,_=>h
 | p::ps,.cons t l,σ,h,hl=>hJ (σ:=fL σ p (t.kept p.kd)) (fun x u e=>by
   unfold fL at e
   split at e
   ·cases e;exact jh hl.1
   ·exact h x u e) hl.2
theorem dG {cT:Nm->TL->T}:∀l:TL,(l.with cT).rvs.length=l.rvs.length
 | .nil=>rfl
 | .cons t l=>by
  show ((t.with cT).rv::(l.with cT).rvs).length=(t.rv::l.rvs).length
  rw [List.length_cons,List.length_cons,dG l]
mutual
theorem dQ {cf:Nm->Nat->Prop} {cT:Nm->TL->T} (hc:∀w l,cf w l.rvs.length->l.Fit bT->(cT w l).Fit bT):∀t:T,t.Fit cf->(t.with cT).Fit bT
 | .lit v,h=>h
 | .name x,_=>trivial
 | .two op a b,h=>⟨dQ hc a h.1,dQ hc b h.2⟩
 | .fn w l,h=>hc w (l.with cT) (by rw [dG];exact h.1) (fI hc l h.2)
theorem fI {cf:Nm->Nat->Prop} {cT:Nm->TL->T} (hc:∀w l,cf w l.rvs.length->l.Fit bT->(cT w l).Fit bT):∀l:TL,l.Fit cf->(l.with cT).Fit bT
 | .nil,_=>trivial
 | .cons t l,h=>⟨dQ hc t h.1,fI hc l h.2⟩
end
theorem eK:∀(m:Nat) (t:T),t.Fit (callable fns m)->(t.with (aI fns m)).Fit bT
 | 0,t,h=>dQ (fun _ _ q _=>q.elim) t h
 | m+1,t,h=>dQ (fun w l q hl=>by
   obtain ⟨ps,b,e1,e2,e3,e4,e5,e6⟩:=q
   rw [aI,e1]
   exact jh (dj (c0:=bT) (fun _ _ q=>q.elim) (hJ (fun _ _ e=>by exact cH e) hl) (eK m b e6))) t h
noncomputable abbrev kZ:Nm->List V->VR:=fun _ _=>.exc ""
structure Told (ct:Nm->List V->VR) (cT:Nm->TL->T) (tf:Nm->Prop) (ρ:En) (t:T):Prop where
 told:∀v,t.ev ct ρ=.ok v->(t.with cT).ev kZ ρ=.ok v
 back:t.tight tf->∀v,(t.with cT).ev kZ ρ=.ok v->t.ev ct ρ=.ok v
mutual
theorem gu {ct:Nm->List V->VR} {cT:Nm->TL->T} {tf:Nm->Prop} {cf:Nm->Nat->Prop} {ρ:En}
  (h1:∀w l vs v,cf w l.rvs.length->l.Fit bT->l.ev kZ ρ=.ok vs->ct w vs=.ok v->(cT w l).ev kZ ρ=.ok v)
  (h2:∀w l v,cf w l.rvs.length->l.Fit bT->tf w->(cT w l).ev kZ ρ=.ok v->∃vs,l.ev kZ ρ=.ok vs/\ct w vs=.ok v)
  (h3:∀w l,cf w l.rvs.length->l.Fit bT->(cT w l).Fit bT):∀t:T,t.Fit cf->Told ct cT tf ρ t
 | .lit v,_=>⟨fun _ h=>h,fun _ _ h=>h⟩
 | .name x,_=>⟨fun _ h=>h,fun _ _ h=>h⟩
 | .two op a b,f=>by
  have ha:=gu h1 h2 h3 a f.1
  have hb:=gu h1 h2 h3 b f.2
  refine ⟨fun v h=>?_,fun tt v h=>?_⟩
  ·rw [T.ev] at h
   obtain ⟨x,e1,e2⟩:=VR.bind_inv h
   obtain ⟨y,e3,e4⟩:=VR.bind_inv e2
   show (T.two op (a.with cT) (b.with cT)).ev kZ ρ=_
   rw [T.ev,ha.told x e1,hb.told y e3]
   exact e4
  ·replace h:(T.two op (a.with cT) (b.with cT)).ev kZ ρ=.ok v:=h
   rw [T.ev] at h
   obtain ⟨x,e1,e2⟩:=VR.bind_inv h
   obtain ⟨y,e3,e4⟩:=VR.bind_inv e2
   rw [T.ev,ha.back tt.1 x e1]
   show VR.bind (b.ev ct ρ) _=_
   rw [hb.back tt.2 y e3];exact e4
 | .fn w l,f=>by
  have hl:=my h1 h2 h3 l f.2
  have fl:=fI h3 l f.2
  have len:=dG (cT:=cT) l
  refine ⟨fun v h=>?_,fun tt v h=>?_⟩
  ·rw [T.ev] at h
   obtain ⟨vs,e1,e2⟩:=kR h
   exact h1 w (l.with cT) vs v (by rw [len];exact f.1) fl (hl.1 vs e1) e2
  ·obtain ⟨vs,e1,e2⟩:=h2 w (l.with cT) v (by rw [len];exact f.1) fl tt.1 h
   rw [T.ev,hl.2 tt.2 vs e1]
   exact e2
theorem my {ct:Nm->List V->VR} {cT:Nm->TL->T} {tf:Nm->Prop} {cf:Nm->Nat->Prop} {ρ:En}
  (h1:∀w l vs v,cf w l.rvs.length->l.Fit bT->l.ev kZ ρ=.ok vs->ct w vs=.ok v->(cT w l).ev kZ ρ=.ok v)
  (h2:∀w l v,cf w l.rvs.length->l.Fit bT->tf w->(cT w l).ev kZ ρ=.ok v->∃vs,l.ev kZ ρ=.ok vs/\ct w vs=.ok v)
  (h3:∀w l,cf w l.rvs.length->l.Fit bT->(cT w l).Fit bT):∀l:TL,l.Fit cf->(∀vs,l.ev ct ρ=.ok vs->(l.with cT).ev kZ ρ=.ok vs)/\(l.tight tf->∀vs,(l.with cT).ev kZ ρ=.ok vs->l.ev ct ρ=.ok vs)
 | .nil,_=>⟨fun _ h=>h,fun _ _ h=>h⟩
 | .cons t l,f=>by
  have ht:=gu h1 h2 h3 t f.1
  have hl:=my h1 h2 h3 l f.2
  refine ⟨fun vs h=>?_,fun tt vs h=>?_⟩
  ·rw [TL.ev] at h
   obtain ⟨x,xs,e1,e2,rfl⟩:=bI h
   show (TL.cons (t.with cT) (l.with cT)).ev kZ ρ=_
   rw [TL.ev,ht.told x e1,hl.1 xs e2];rfl
  ·replace h:(TL.cons (t.with cT) (l.with cT)).ev kZ ρ=.ok vs:=h
   rw [TL.ev] at h
   obtain ⟨x,xs,e1,e2,rfl⟩:=bI h
   rw [TL.ev,ht.back tt.1 x e1,hl.2 tt.2 xs e2];rfl
end
theorem lV (hnd:∀w ps b,fns w=some (ps,b)->ps.Nodup):∀(m:Nat) (ρ:En) (t:T),t.Fit (callable fns m)->Told (aC fns m ρ) (aI fns m) (fK fns m) ρ t
 | 0,ρ,t,h=>gu (fun _ _ _ _ q=>q.elim) (fun _ _ _ q=>q.elim) (fun _ _ q=>q.elim) t h
 | m+1,ρ,t,h=>by
  refine gu (cf:=callable fns (m+1)) (fun w l vs v q hl e e2=>?_) (fun w l v q hl tt e=>?_) (fun w l q hl=>?_) t h
  ·obtain ⟨ps,b,e1,e2',e3,e4,e5,e6⟩:=q
   rw [aC,e1] at e2
   dsimp only at e2
   obtain ⟨us,a1,a2⟩:=kR e2
   obtain ⟨u,a3,a4⟩:=VR.bind_inv a2
   have ih:=(lV hnd m (puts ρ ps us) b e6).told u a3
   rw [aI,e1]
   show (T.kept w.kd _).ev kZ ρ=_
   rw [iy,fV (cf:=bT) (ρ2:=puts ρ ps us) (c2:=kZ) (fun _ _ q=>q.elim) _ (eK m b e6) (T.names_all (iQ (ρ0:=ρ) (fun x=>rfl) e a1) _),ih]
   exact a4
  ·obtain ⟨ps,b,e1,e2',e3,e4,e5,e6⟩:=q
   rw [aI,e1] at e
   replace e:(T.kept w.kd ((b.with (aI fns m)).put (gives (fun _=>none) ps l))).ev kZ ρ=.ok v:=e
   rw [iy] at e
   obtain ⟨u,a1,a2⟩:=VR.bind_inv e
   have ff:=eK m b e6
   obtain ⟨t1,t2⟩:=tt ps b e1
   obtain ⟨vs,us,b1,b2⟩:=jR (hnd w ps b e1) e2' fun p hp=>iN ff a1 (t2 p hp)
   rw [fV (cf:=bT) (ρ2:=puts ρ ps us) (c2:=kZ) (fun _ _ q=>q.elim) _ ff (T.names_all (iQ (ρ0:=ρ) (fun x=>rfl) b1 b2) _)] at a1
   refine ⟨vs,b1,?_⟩
   rw [aC,e1]
   dsimp only
   rw [b2]
   show VR.bind _ _=_
   rw [(lV hnd m (puts ρ ps us) b e6).back t1 u a1]
   exact a2
  ·obtain ⟨ps,b,e1,e2',e3,e4,e5,e6⟩:=q
   rw [aI,e1]
   exact jh (dj (c0:=bT) (fun _ _ q=>q.elim) (hJ (fun _ _ e=>by exact cH e) hl) (eK m b e6))
end
noncomputable def NQ (x:Nm):Prop:=x≠.q/\x≠.r
theorem NQ.ren {x y:Nm} (h:NQ x):x≠y.ren:=by
 cases y <;> first | exact h.1 | exact h.2
mutual
theorem eZ {P Q:Nm->Prop}:∀{t:T},t.Names P->t.Names Q->t.Names fun x=>P x/\Q x
 | .lit _,_,_=>trivial
 | .name x,p,q=>⟨p,q⟩
 | .two _ _ _,p,q=>⟨eZ p.1 q.1,eZ p.2 q.2⟩
 | .fn _ _,p,q=>iR p q
theorem iR {P Q:Nm->Prop}:∀{l:TL},l.Names P->l.Names Q->l.Names fun x=>P x/\Q x
 | .nil,_,_=>trivial
 | .cons _ _,p,q=>⟨eZ p.1 q.1,iR p.2 q.2⟩
end
section
variable {fns:jY} {w old:Nm} {ps psA:List Nm} {b bA:T}
theorem fF (hk:old.ren.kd=old.kd):∀(ps:List Nm) (vs:List V),bN (ps.map (bX old)) vs=bN ps vs
 | [],_=>rfl
 | _::_,[]=>rfl
 | p::ps,v::vs=>by
  have:(bX old p).kd=p.kd:=by
   unfold bX
   split
   ·rename_i q;rw [hk,Nm.inj q]
   ·rfl
  rw [List.map_cons,bN,bN,this,fF hk ps vs]
structure Rel (old:Nm) (ρ1 ρ2:En):Prop where
 same:∀x,NQ x->x≠old->ρ1 x=ρ2 x
theorem gU:∀(ps:List Nm) (us:List V) (ρ1 ρ2:En),us.length=ps.length->(∀p∈ps,NQ p)->(∀x,NQ x->x≠old->ρ1 x=ρ2 x)->(old∈ps\/ρ1 old.ren=ρ2 old)->
  (∀x,NQ x->x≠old->puts ρ1 (ps.map (bX old)) us x=puts ρ2 ps us x)/\puts ρ1 (ps.map (bX old)) us old.ren=puts ρ2 ps us old
 | [],_,_,_,_,_,h,h2=>⟨h,h2.elim nofun id⟩
 | _::_,[],_,_,hl,_,_,_=>hO hl
 | p::ps,u::us,ρ1,ρ2,hl,hp,h,h2=>by
  refine gU ps us (ρ1.put (bX old p) (some u)) (ρ2.put p (some u)) (by simpa using hl) (fun x m=>hp x (.tail _ m)) (fun x hx hne=>?_) ?_
  ·unfold En.put bX
   by_cases q:p.str=old.str
   ·rw [if_pos q,if_neg fun e=>hx.ren (Nm.inj e),if_neg fun e=>hne (Nm.inj (e.trans q))]
    exact h x hx hne
   ·rw [if_neg q]
    by_cases q2:x.str=p.str
    ·rw [if_pos q2,if_pos q2]
    ·rw [if_neg q2,if_neg q2];exact h x hx hne
  ·by_cases q:p.str=old.str
   ·refine .inr ?_
    unfold En.put bX
    rw [if_pos q,if_pos rfl,if_pos q.symm]
   ·refine h2.imp (fun m=>?_) fun e=>?_
    ·rcases List.mem_cons.mp m with e | m
     ·exact absurd (congrArg Nm.str e).symm q
     ·exact m
    ·unfold En.put bX
     rw [if_neg q,if_neg fun e=>(hp p (.head _)).ren (Nm.inj e.symm),if_neg fun e=>q e.symm]
     exact e
theorem jv {x:Nm}:∀(ps:List Nm) (us:List V) (ρ1 ρ2:En),us.length=ps.length->(x∈ps\/ρ1 x=ρ2 x)->puts ρ1 ps us x=puts ρ2 ps us x
 | [],_,_,_,_,h=>h.elim nofun id
 | _::_,[],_,_,hl,_=>hO hl
 | p::ps,u::us,ρ1,ρ2,hl,h=>by
  refine jv ps us _ _ (by simpa using hl) ?_
  by_cases q:x.str=p.str
  ·exact .inr (by unfold En.put;rw [if_pos q,if_pos q])
  ·refine h.imp (fun m=>?_) fun e=>by unfold En.put;rw [if_neg q,if_neg q,e]
   rcases List.mem_cons.mp m with e | m
   ·exact absurd (congrArg Nm.str e) q
   ·exact m
theorem mn {c1 c2:Nm->List V->VR} {cf:Nm->Nat->Prop} (hk:old.ren.kd=old.kd) {ρ1 ρ2:En} (hc:∀v vs,cf v vs.length->c1 v vs=c2 v vs) (hf:b.Fit cf) (hn:b.Names NQ) (h1:∀x,NQ x->x≠old->ρ1 x=ρ2 x) (h2:ρ1 old.ren=ρ2 old):(b.put (c9 old)).ev c1 ρ1=b.ev c2 ρ2:=
 fV hc b hf (hn.mono fun x hx=>by
  unfold c9
  by_cases q:x.str=old.str
  ·rw [if_pos q,Nm.inj q]
   show VR.ok (val ρ1 old.ren)=_
   unfold val
   rw [h2,hk]
  ·rw [if_neg q]
   show VR.ok (val ρ1 x)=_
   unfold val
   rw [h1 x hx fun e=>q (congrArg Nm.str e)])
theorem lZ (hw:fns w=some (ps,b)) (hx:∀m ρ vs,vs.length=ps.length->b.Fit (callable fns m)->aC (fD fns w ps b old) (m+1) ρ w vs=aC fns (m+1) ρ w vs):∀m ρ v vs,callable fns m v vs.length->aC (fD fns w ps b old) m ρ v vs=aC fns m ρ v vs
 | 0,_,_,_,h=>h.elim
 | m+1,ρ,v,vs,⟨qs,c,e1,e2,e3,e4,e5,e6⟩=>by
  by_cases q:v.str=w.str
  ·have:=Nm.inj q
   subst this
   rw [hw] at e1
   cases e1
   exact hx m ρ vs e2.symm e6
  ·rw [aC,aC,show fD fns w ps b old v=fns v from if_neg q,e1]
   dsimp only
   cases bN qs vs with
   | error k=>rfl
   | ok us=>
    show VR.bind _ _=VR.bind _ _
    rw [gx (cf:=callable fns m) (fun v' vs' h=>lZ hw hx m _ v' vs' h) c e6 (T.names_all (fun _=>rfl) _)]
theorem ua (hk:old.ren.kd=old.kd) (ho:old∈ps) (hp:∀p∈ps,NQ p) (hw:fns w=some (ps,b)) (hb:b.Fit bT) (hn:b.Names NQ) (m:Nat) (ρ:En) (vs:List V) (hl:vs.length=ps.length):aC (fD fns w ps b old) (m+1) ρ w vs=aC fns (m+1) ρ w vs:=by
 rw [aC,aC,show fD fns w ps b old w=some (ps.map (bX old),b.put (c9 old)) from if_pos rfl,hw]
 dsimp only
 rw [fF hk]
 cases q:bN ps vs with
 | error k=>rfl
 | ok us=>
  obtain ⟨h1,h2⟩:=gU ps us ρ ρ (hZ hl.symm q) hp (fun _ _ _=>rfl) (.inl ho)
  show VR.bind _ _=VR.bind _ _
  rw [mn (cf:=bT) (c2:=aC fns m (puts ρ ps us)) hk (fun _ _ q=>q.elim) hb hn h1 h2]
theorem ub (hk:old.ren.kd=old.kd) (ho:old∈ps) (hp:∀p∈ps,NQ p) (hw:fns w=some (ps,b)) (hwa:w≠.a) (hA:fns .a=some (psA,bA)) (hbA:bA.Fit bT) (hnA:bA.Names NQ) (hb:b.Fit fun v k=>v=.a/\k=psA.length) (hn:b.Names NQ) (hs:bA.has old=true->old∈psA)
  (m:Nat) (ρ:En) (vs:List V) (hl:vs.length=ps.length):aC (fD fns w ps b old) (m+1) ρ w vs=aC fns (m+1) ρ w vs:=by
 rw [aC,aC,show fD fns w ps b old w=some (ps.map (bX old),b.put (c9 old)) from if_pos rfl,hw]
 dsimp only
 rw [fF hk]
 cases q:bN ps vs with
 | error k=>rfl
 | ok us=>
  obtain ⟨h1,h2⟩:=gU ps us ρ ρ (hZ hl.symm q) hp (fun _ _ _=>rfl) (.inl ho)
  show VR.bind _ _=VR.bind _ _
  rw [mn (c2:=aC fns m (puts ρ ps us)) hk (fun v ws hv=>?_) hb hn h1 h2]
  obtain ⟨rfl,hlen⟩:=hv
  cases m with
  | zero=>rfl
  | succ m=>
   rw [aC,aC,show fD fns w ps b old .a=fns .a from if_neg fun e=>hwa (Nm.inj e.symm),hA]
   dsimp only
   cases q2:bN psA ws with
   | error k=>rfl
   | ok xs=>
    show VR.bind _ _=VR.bind _ _
    rw [gx (cf:=bT) (ρ2:=puts (puts ρ ps us) psA xs) (c2:=aC fns m (puts (puts ρ ps us) psA xs)) (fun _ _ q=>q.elim) bA hbA ((eZ (gK hbA) hnA).mono fun x hx=>?_)]
    unfold val
    rw [jv psA xs _ _ (hZ hlen.symm q2)]
    by_cases z:x=old
    ·exact .inl (by rw [z] at hx ⊢;exact hs hx.1)
    ·exact .inr (h1 x hx.2 z)
theorem eU (hw:fns w=some (ps,b)):∀m v k,callable fns m v k->callable (fD fns w ps b old) m v k
 | 0,_,_,h=>h
 | m+1,v,k,⟨qs,c,e1,e2,e3,e4,e5,e6⟩=>by
  by_cases q:v.str=w.str
  ·have:=(Nm.inj q).symm
   subst this
   rw [hw] at e1
   cases e1
   refine ⟨ps.map (bX old),b.put (c9 old),if_pos rfl,by rw [List.length_map];exact e2,e3,e4,?_,dj (eU hw m) (fun x t e=>?_) e6⟩
   ·have:=jd (σ:=c9 old) (K:=1) (Nat.le_refl _) (fun x t e=>by unfold c9 at e;split at e <;> cases e;exact Nat.le_refl _) b
    lia
   ·unfold c9 at e;split at e <;> cases e;trivial
  ·exact ⟨qs,c,(if_neg q).trans e1,e2,e3,e4,e5,by
    have:=dj (σ:=fun _=>none) (eU hw m) (fun x t e=>by cases e) e6
    rwa [dJ] at this⟩
end
noncomputable def il:List RV:=[.int 15,.int 207,.int 50,.int 3,.int 0,.int 2,.int 2,.int 0,.int 2,.int 0,.int 1,.int 1,.int 0,.int 0,.int 2,.int 2,.int 1,.int 0,.int 3,.int 24,.int 3,.int 4,.int 40,.int 1,.int 0,.int 2,.int 1,.int 1]
noncomputable def Pt (sc:List RV) (p:Nat):AObj:=.list [.lst sc,.int p]
noncomputable def jG (l:List RV):Prop:=∀i,i<l.length->∃k:Int,l[i]? = some (.int k)
theorem oE:jG il:=fun i h=>by
 have h:i<28:=h
 have go:∀l:List RV,(∀r∈l,∃k:Int,r=.int k)->∀i,i<l.length->∃k:Int,l[i]? = some (.int k):=fun l hl i hi=>by
  obtain ⟨k,e⟩:=hl l[i] (List.getElem_mem hi)
  exact ⟨k,by rw [List.getElem?_eq_getElem hi,e]⟩
 refine go il (fun r m=>?_) i h
 unfold il at m
 simp only [List.mem_cons,List.not_mem_nil,or_false] at m
 rcases m with rfl | rfl | rfl | rfl | rfl | rfl | rfl | rfl | rfl | rfl | rfl | rfl | rfl | rfl | rfl | rfl | rfl | rfl | rfl | rfl | rfl | rfl | rfl | rfl | rfl | rfl | rfl | rfl <;> exact ⟨_,rfl⟩
section
variable {sc:List RV} {p:Nat} {N F:List (Str×RV)} {d:Int} {rest:ai}
theorem pI {st:ai} {l:List RV} {p:Nat} {r:RV} (h:l[p]? = some r) (hp:p<2^62):dA st (.lst l) (.int p)=some r:=by
 unfold dA
 refine ak rfl ?_
 unfold tX
 rw [if_pos ⟨by lia,by lia⟩,Int.toNat_natCast,h]
theorem bb (hs:jG sc) (hl:sc.length<1000) (hp:p<1000) {many:Nat} (hm:0<many):∃v:Nat,v<many/\Go true 1 696 [.obj 0,.int many] (S (Pt sc p) N d F rest) (.ok (.int v) (S (Pt sc (p+1)) N d F rest)):=by
 obtain ⟨k,hk⟩:∃k:Int,(if p<sc.length then sc[p]? else il[p%28]?)=some (.int k):=by
  by_cases q:p<sc.length
  ·rw [if_pos q];exact hs p q
  ·rw [if_neg q];exact oE _ (Nat.mod_lt _ (by decide))
 have h0:(0:Int)<many:=by lia
 have f0:=Int.fmod_nonneg_of_pos k h0
 have f1:=Int.fmod_lt_of_pos k h0
 refine ⟨(k.fmod many).toNat,by omega,Go.of (E:=yI) rfl rfl fun n hn=>?_⟩
 have hv:(((k.fmod many).toNat:Nat):Int)=k.fmod many:=by omega
 rw [hv]
 have s2:ex (.setitem (.loc 0) (.val (.int 1)) (.bin .Add (.loc 3) (.val (.int 1)))) (Kn true n) [some (.obj 0),some (.int many),some (.lst il),some (.int p)] (S (Pt sc p) N d F rest)=some (.next [some (.obj 0),some (.int many),some (.lst il),some (.int p)] (S (Pt sc (p+1)) N d F rest)):=
  bG rfl rfl rfl rfl
 have lb:callB .len (S (Pt sc (p+1)) N d F rest) [.lst sc]=some (.int sc.length):=gm (by lia)
 have t:cu (.cmp .Lt (.loc 3) (.prim .len (.cons (.idx (.loc 0) (.val (.int 0))) .nil))) (Kn true n) [some (.obj 0),some (.int many),some (.lst il),some (.int p)] (S (Pt sc (p+1)) N d F rest)=some (.ok (decide ((p:Int)<sc.length)) (S (Pt sc (p+1)) N d F rest)):=
  ci (bZ rfl (bJ (ac (aG rfl rfl rfl) rfl) lb) rfl)
 have bm:binI .Mod (.int k) (.int many)=some (.int (k.fmod many)):=if_pos (by lia)
 have a:ev (.ite (.cmp .Lt (.loc 3) (.prim .len (.cons (.idx (.loc 0) (.val (.int 0))) .nil))) (.idx (.idx (.loc 0) (.val (.int 0))) (.loc 3)) (.idx (.loc 2) (.bin .Mod (.loc 3) (.prim .len (.cons (.loc 2) .nil))))) (Kn true n) [some (.obj 0),some (.int many),some (.lst il),some (.int p)] (S (Pt sc (p+1)) N d F rest)=some (.ok (.int k) (S (Pt sc (p+1)) N d F rest)):=by
  by_cases q:p<sc.length
  ·rw [if_pos q] at hk
   exact aS t (by rw [decide_eq_true_iff];lia) (aG (aG rfl rfl rfl) rfl (pI hk (by lia)))
  ·rw [if_neg q] at hk
   exact bK t (by rw [decide_eq_false_iff_not];lia) (aG rfl (aJ rfl rfl (fm (u:=28) (by decide))) (pI hk (by have:=Nat.mod_lt p (show 0<28 by decide);lia)))
 exact ⟨_,aa rfl (aa rfl (aa s2 (ao (aK (aJ a rfl bm))))),rfl⟩
noncomputable def Leaf (t:T):Prop:=(∃x,t=.name x/\(x=.x\/x=.y\/x=.z))\/∃v,t=.lit v/\v.Ok
theorem iK (hs:jG sc) (hl:sc.length<1000) (hp:p+2<1000):∃t p',Leaf t/\p'<=p+2/\Go true 2 703 [.obj 0] (S (Pt sc p) N d F rest) (.ok t.rv (S (Pt sc p') N d F rest)):=by
 obtain ⟨w,hw,e1⟩:=bb (p:=p) (N:=N) (d:=d) (F:=F) (rest:=rest) hs hl (by lia) (many:=5) (by decide)
 obtain ⟨v3,h3,e3⟩:=bb (p:=p+1) (N:=N) (d:=d) (F:=F) (rest:=rest) hs hl (by lia) (many:=300) (by decide)
 obtain ⟨v9,h9,e9⟩:=bb (p:=p+1) (N:=N) (d:=d) (F:=F) (rest:=rest) hs hl (by lia) (many:=90) (by decide)
 have s2:∀n,1<=n->ex (.asg 2 (.call 696 (.cons (.loc 0) (.cons (.val (.int 5)) .nil)))) (Kn true n) [some (.obj 0),some (.lst [.str "X",.str "Y%",.str "Z"]),none] (S (Pt sc p) N d F rest)=some (.next [some (.obj 0),some (.lst [.str "X",.str "Y%",.str "Z"]),some (.int w)] (S (Pt sc (p+1)) N d F rest)):=fun n hn=>aD (ag rfl (e1.at hn))
 match w,hw,s2 with
 | 0,_,s2=>exact ⟨.name .x,p+1,.inl ⟨.x,rfl,.inl rfl⟩,by lia,Go.of (E:=qa) rfl rfl fun n hn=>⟨_,aa rfl (aa (s2 n hn) (ao (aF (b:=true) rfl rfl (ao rfl)))),rfl⟩⟩
 | 1,_,s2=>exact ⟨.name .y,p+1,.inl ⟨.y,rfl,.inr (.inl rfl)⟩,by lia,Go.of (E:=qa) rfl rfl fun n hn=>⟨_,aa rfl (aa (s2 n hn) (ao (aF (b:=true) rfl rfl (ao rfl)))),rfl⟩⟩
 | 2,_,s2=>exact ⟨.name .z,p+1,.inl ⟨.z,rfl,.inr (.inr rfl)⟩,by lia,Go.of (E:=qa) rfl rfl fun n hn=>⟨_,aa rfl (aa (s2 n hn) (ao (aF (b:=true) rfl rfl (ao rfl)))),rfl⟩⟩
 | 3,_,s2=>exact ⟨.lit (.i v3),p+2,.inr ⟨.i v3,rfl,by lia,by lia⟩,by lia,Go.of (E:=qa) rfl rfl fun n hn=>⟨_,aa rfl (aa (s2 n hn) (aa (am (b:=false) rfl rfl rfl) (ao (aK (aS (b:=true) rfl rfl (aL (ac rfl (ac (ag rfl (e3.at hn)) rfl)) (cn rfl))))))),rfl⟩⟩
 | 4,_,s2=>exact ⟨.lit (.d v9 (-1)),p+2,.inr ⟨.d v9 (-1),rfl,by omega,by lia,by lia⟩,by lia,Go.of (E:=qa) rfl rfl fun n hn=>⟨_,aa rfl (aa (s2 n hn) (aa (am (b:=false) rfl rfl rfl) (ao (aK (bK (b:=false) rfl rfl (aL (ac rfl (ac (aL (ac (ag rfl (e9.at hn)) (ac rfl rfl)) (cn rfl)) rfl)) (cn rfl))))))),rfl⟩⟩
theorem nQ (hs:jG sc) (hl:sc.length<1000) (hp:p+3<1000) (t0:T):∃s t p',Leaf t/\p'<=p+3/\Go true 3 710 [.obj 0,t0.rv] (S (Pt sc p) N d F rest) (.ok (T.two s t0 t).rv (S (Pt sc p') N d F rest)):=by
 obtain ⟨w,hw,e1⟩:=bb (p:=p) (N:=N) (d:=d) (F:=F) (rest:=rest) hs hl (by lia) (many:=4) (by decide)
 obtain ⟨t,p',ht,hp',e2⟩:=iK (p:=p+1) (N:=N) (d:=d) (F:=F) (rest:=rest) hs hl (by omega)
 obtain ⟨s,hi⟩:∃s:Op,dA (S (Pt sc (p+1)) N d F rest) (.lst [.str "+",.str "-",.str "*",.str "/"]) (.int w)=some (.str s.str):=by
  match w,hw with
  | 0,_=>exact ⟨.add,rfl⟩
  | 1,_=>exact ⟨.sub,rfl⟩
  | 2,_=>exact ⟨.mul,rfl⟩
  | 3,_=>exact ⟨.div,rfl⟩
 exact ⟨s,t,p',ht,by lia,Go.of (E:=yP) rfl rfl fun n hn=>⟨_,aa rfl (aa (aD (aG rfl (ag rfl (e1.at (br hn rfl))) hi)) (ao (aK (aL (ac rfl (ac rfl (ac rfl (ac (ag rfl (e2.at hn)) rfl)))) (cn rfl))))),rfl⟩⟩
theorem rS {m:Option (Out (List RV))} {r:RV} {l:List RV} {st:ai} (h:m=some (.ok [r] st)) (h2:iZ r=some l):sT true .range m=some (.ok l st):=by
 rw [h];show (iZ r).map _=_;rw [h2];rfl
mutual
noncomputable def TL.All (P:T->Prop):TL->Prop
 | .nil=>True
 | .cons t l=>P t/\l.All P
end
noncomputable def Arg (own:Nat) (t:T):Prop:=Leaf t\/(∃s a b,t=.two s a b/\Leaf a/\Leaf b)\/∃l,t=.fn .a l/\l.All Leaf/\l.rvs.length=own/\0<own
theorem kY (hs:jG sc) (hl:sc.length<1000):∀(rs:List RV) (p:Nat),p+2*rs.length<1000->∃l p',TL.All Leaf l/\l.rvs.length=rs.length/\p'<=p+2*rs.length/\∀n,2<=n->∀a b,bw (.one 1) (fun γ s=>ev (.call 703 (.cons (.loc 2) .nil)) (Kn true n) γ s) rs [a,b,some (.obj 0)] (S (Pt sc p) N d F rest)=some (.ok l.rvs (S (Pt sc p') N d F rest))
 | [],p,_=>⟨.nil,p,trivial,rfl,by lia,fun _ _ _ _=>rfl⟩
 | r::rs,p,h=>by
  rw [List.length_cons] at h
  obtain ⟨t,p1,ht,h1,e1⟩:=iK (p:=p) (N:=N) (d:=d) (F:=F) (rest:=rest) hs hl (by lia)
  obtain ⟨l,p2,hl2,h2,h3,e2⟩:=kY hs hl rs p1 (by lia)
  exact ⟨.cons t l,p2,⟨ht,hl2⟩,by rw [TL.rvs,List.length_cons,h2,List.length_cons],by rw [List.length_cons];lia,fun n hn a b=>dD rfl (ag rfl (e1.at hn)) (e2 n hn a (some r))⟩
theorem xH (hs:jG sc) (hl:sc.length<1000) {own:Nat} (ho:own<=2) (hp:p+10<1000):∃t p',Arg own t/\p'<=p+10/\Go true 4 715 [.obj 0,.int own] (S (Pt sc p) N d F rest) (.ok t.rv (S (Pt sc p') N d F rest)):=by
 obtain ⟨w,hw,e1⟩:=bb (p:=p) (N:=N) (d:=d) (F:=F) (rest:=rest) hs hl (by lia) (many:=3) (by decide)
 obtain ⟨t1,p1,ht1,hp1,e2⟩:=iK (p:=p+1) (N:=N) (d:=d) (F:=F) (rest:=rest) hs hl (by lia)
 obtain ⟨s,t2',p2,ht2,hp2,e3⟩:=nQ (p:=p1) (N:=N) (d:=d) (F:=F) (rest:=rest) hs hl (by lia) t1
 have s1:∀n,3<=n->ex (.asg 2 (.call 696 (.cons (.loc 0) (.cons (.val (.int 3)) .nil)))) (Kn true n) [some (.obj 0),some (.int own),none,none] (S (Pt sc p) N d F rest)=some (.next [some (.obj 0),some (.int own),some (.int w),none] (S (Pt sc (p+1)) N d F rest)):=fun n hn=>aD (ag rfl (e1.at (br hn rfl)))
 have t:∀n,cu (.and (.cmp .Eq (.loc 2) (.val (.int 2))) (.cmp .Gt (.loc 1) (.val (.int 0)))) (Kn true n) [some (.obj 0),some (.int own),some (.int w),none] (S (Pt sc (p+1)) N d F rest)=some (.ok (((w:Int)==2)&&decide ((own:Int)>0)) (S (Pt sc (p+1)) N d F rest)):=fun n=>by
  cases q:((w:Int)==2) with
  | false=>exact ci (jK (b:=(w:Int)==2) rfl q)
  | true=>exact ci (dU (b:=(w:Int)==2) rfl q rfl)
 have s3:∀n,3<=n->ex (.asg 3 (.call 703 (.cons (.loc 0) .nil))) (Kn true n) [some (.obj 0),some (.int own),some (.int w),none] (S (Pt sc (p+1)) N d F rest)=some (.next [some (.obj 0),some (.int own),some (.int w),some t1.rv] (S (Pt sc p1) N d F rest)):=fun n hn=>aD (ag rfl (e2.at (br hn rfl)))
 cases q:(((w:Int)==2)&&decide ((own:Int)>0)) with
 | true=>
  rw [q] at t
  rw [Bool.and_eq_true,decide_eq_true_iff] at q
  obtain ⟨l,p3,hl3,h3,h4,e4⟩:=kY (N:=N) (d:=d) (F:=F) (rest:=rest) hs hl ((List.range own).map fun (i:Nat)=>RV.int (i:Int)) (p+1) (by rw [List.length_map,List.length_range];lia)
  rw [List.length_map,List.length_range] at h3 h4
  have it:∀n,sT (Kn true n).q .range (cP (.cons (.loc 1) .nil) (Kn true n) [some (.obj 0),some (.int own),some (.int w),none] (S (Pt sc (p+1)) N d F rest))=some (.ok ((List.range own).map fun (i:Nat)=>RV.int (i:Int)) (S (Pt sc (p+1)) N d F rest)):=fun n=>by
   have e:iZ (.int own)=some ((List.range own).map fun (i:Nat)=>RV.int (i:Int)):=by
    refine ak rfl ?_
    rw [if_pos ⟨by lia,by lia⟩,Int.toNat_natCast]
   exact rS rfl e
  exact ⟨.fn .a l,p3,.inr (.inr ⟨l,rfl,hl3,h3,by lia⟩),by lia,Go.of (E:=ut) rfl rfl fun n hn=>⟨_,aa (s1 n hn) (ao (aF (t n) rfl (ao (aK (aL (ac rfl (ac rfl (ac (du (it n) (by rw [List.length_map,List.length_range];lia) (e4 n (br hn rfl) none none)) rfl))) (cn rfl)))))),rfl⟩⟩
 | false=>
  rw [q] at t
  have t2:∀n,cu (.cmp .Eq (.loc 2) (.val (.int 0))) (Kn true n) [some (.obj 0),some (.int own),some (.int w),some t1.rv] (S (Pt sc p1) N d F rest)=some (.ok ((w:Int)==0) (S (Pt sc p1) N d F rest)):=fun n=>rfl
  cases q2:((w:Int)==0) with
  | true=>
   rw [q2] at t2
   exact ⟨.two s t1 t2',p2,.inr (.inl ⟨s,t1,t2',rfl,ht1,ht2⟩),by lia,Go.of (E:=ut) rfl rfl fun n hn=>⟨_,aa (s1 n hn) (aa (am (t n) rfl rfl) (aa (s3 n hn) (ao (aK (aS (t2 n) rfl (ag rfl (e3.at hn))))))),rfl⟩⟩
  | false=>
   rw [q2] at t2
   exact ⟨t1,p1,.inl ht1,by lia,Go.of (E:=ut) rfl rfl fun n hn=>⟨_,aa (s1 n hn) (aa (am (t n) rfl rfl) (aa (s3 n hn) (ao (aK (bK (t2 n) rfl rfl))))),rfl⟩⟩
end
theorem eg {cf:Nm->Nat->Prop} {t:T} (h:t.Fit bT):t.Fit cf:=by
 have:=dj (σ:=fun _=>none) (c0:=bT) (cf:=cf) (fun _ _ q=>q.elim) (fun _ _ e=>by exact cH e) h
 rwa [dJ] at this
theorem iP {cf:Nm->Nat->Prop} {l:TL} (h:l.Fit bT):l.Fit cf:=by
 have:=eM (σ:=fun _=>none) (c0:=bT) (cf:=cf) (fun _ _ q=>q.elim) (fun _ _ e=>by exact cH e) h
 rwa [dK] at this
structure Flat (k:Nat) (t:T):Prop where
 fit:t.Fit bT
 sz:t.sz<=k
 nq:t.Names NQ
theorem Leaf.flat {t:T} (h:Leaf t):Flat 1 t:=by
 rcases h with ⟨x,rfl,hx⟩ | ⟨v,rfl,hv⟩
 ·refine ⟨trivial,Nat.le_refl _,?_⟩
  rcases hx with rfl | rfl | rfl <;> exact ⟨nofun,nofun⟩
 ·exact ⟨hv,Nat.le_refl _,trivial⟩
theorem Flat.mono {k k':Nat} {t:T} (h:Flat k t) (hk:k<=k'):Flat k' t:=⟨h.fit,Nat.le_trans h.sz hk,h.nq⟩
theorem Flat.two {i j:Nat} {s:Op} {a b:T} (ha:Flat i a) (hb:Flat j b):Flat (i+j+1) (.two s a b):=
 ⟨⟨ha.fit,hb.fit⟩,Nat.succ_le_succ (Nat.add_le_add ha.sz hb.sz),⟨ha.nq,hb.nq⟩⟩
theorem Arg.flat {t:T} (h:Arg 0 t):Flat 3 t:=by
 rcases h with h | ⟨s,a,b,rfl,ha,hb⟩ | ⟨l,_,_,_,h⟩
 ·exact h.flat.mono (by decide)
 ·exact ha.flat.two hb.flat
 ·exact absurd h (by decide)
theorem TL.All.mono {P Q:T->Prop} (h:∀t,P t->Q t):∀{l:TL},l.All P->l.All Q
 | .nil,_=>trivial
 | .cons _ _,a=>⟨h _ a.1,TL.All.mono h a.2⟩
theorem iD {cf:Nm->Nat->Prop}:∀{l:TL},l.All (T.Fit cf)->l.Fit cf
 | .nil,_=>trivial
 | .cons _ _,a=>⟨a.1,iD a.2⟩
theorem kI {P:Nm->Prop}:∀{l:TL},l.All (T.Names P)->l.Names P
 | .nil,_=>trivial
 | .cons _ _,a=>⟨a.1,kI a.2⟩
theorem jy {k:Nat}:∀{l:TL},l.All (fun t=>t.sz<=k)->l.sz<=l.rvs.length*k
 | .nil,_=>Nat.zero_le _
 | .cons t l,a=>by
  have h1:=a.1
  have h2:=jy a.2
  show t.sz+l.sz<=(l.rvs.length+1)*k
  rw [Nat.add_mul];lia
mutual
theorem bh {cT:Nm->TL->T}:∀{t:T},t.Fit bT->t.with cT=t
 | .lit _,_=>rfl
 | .name _,_=>rfl
 | .two op a b,h=>by rw [T.with,bh h.1,bh h.2]
 | .fn _ _,h=>h.1.elim
end
theorem eY {cT:Nm->TL->T} {P Q:T->Prop} (h:∀t,P t->Q (t.with cT)):∀{l:TL},l.All P->(l.with cT).All Q
 | .nil,_=>trivial
 | .cons _ _,a=>⟨h _ a.1,eY h a.2⟩
theorem mI {K:Nat}:∀{ps:List Nm} {l:TL} {σ:Nm->Option T},(∀x t,σ x=some t->t.sz<=K+2)->l.All (fun t=>t.sz<=K)->∀x t,gives σ ps l x=some t->t.sz<=K+2
 | [],_,_,h,_=>h
 | _::_,.nil,_,h,_=>h
 | p::ps,.cons t l,σ,h,hl=>mI (σ:=fL σ p (t.kept p.kd)) (fun x u e=>by
   unfold fL at e
   split at e
   ·cases e
    have:=hl.1
    cases p.kd <;> (show t.sz+1+1<=K+2;lia)
   ·exact h x u e) hl.2
theorem uV (k:Kd) (t:T):(t.kept k).sz=t.sz+2:=by cases k <;> rfl
theorem jz {fns:jY} {m B K:Nat} {w:Nm} {ps:List Nm} {b:T} {l:TL} (e:fns w=some (ps,b)) (hb:(b.with (aI fns m)).sz<=B) (hl:l.All fun t=>t.sz<=K):(aI fns (m+1) w l).sz<=B*(K+2)+2:=by
 rw [aI,e]
 show (T.kept w.kd _).sz<=_
 rw [uV]
 have:=jd (σ:=gives (fun _=>none) ps l) (K:=K+2) (by lia) (mI (fun _ _ e=>by exact cH e) hl) (b.with (aI fns m))
 have h2:=Nat.mul_le_mul_right (K+2) hb
 lia
structure Made (psA psB:List Nm) (bA bC tB:T) (sB:Op) (args0 args1:TL):Prop where
 hpA:psA=[.x]\/psA=[.y]\/psA=[.x,.y]
 hpB:psB=[.y]\/psB=[.z]\/psB=[.z,.x]
 hA:Flat 3 bA
 hC:Flat 3 bC
 hT:Leaf tB
 all0:args0.All (Arg 0)
 len0:args0.rvs.length=psA.length
 all1:args1.All (Arg psA.length)
 len1:args1.rvs.length=psB.length
noncomputable def aY (psA psB:List Nm) (bA bC tB:T) (sB:Op) (args0:TL):jY
 | .a=>some (psA,bA)
 | .b=>some (psB,.two sB (.fn .a args0) tB)
 | .c=>some ([.t],bC)
 | _=>none
section
variable {psA psB:List Nm} {bA bC tB:T} {sB:Op} {args0 args1:TL} (M:Made psA psB bA bC tB sB args0 args1)
include M
theorem Made.lenA:psA.Nodup/\0<psA.length/\psA.length<3/\∀p∈psA,NQ p/\p.ren.kd=p.kd:=by
 rcases M.hpA with h | h | h <;> subst h <;> refine ⟨by simp,by decide,by decide,?_⟩ <;> intro p hp <;> simp only [List.mem_cons,List.not_mem_nil,or_false] at hp
 ·subst hp;exact ⟨⟨nofun,nofun⟩,rfl⟩
 ·subst hp;exact ⟨⟨nofun,nofun⟩,rfl⟩
 ·rcases hp with rfl | rfl <;> exact ⟨⟨nofun,nofun⟩,rfl⟩
theorem Made.lenB:psB.Nodup/\0<psB.length/\psB.length<3/\∀p∈psB,NQ p/\p.ren.kd=p.kd:=by
 rcases M.hpB with h | h | h <;> subst h <;> refine ⟨by simp,by decide,by decide,?_⟩ <;> intro p hp <;> simp only [List.mem_cons,List.not_mem_nil,or_false] at hp
 ·subst hp;exact ⟨⟨nofun,nofun⟩,rfl⟩
 ·subst hp;exact ⟨⟨nofun,nofun⟩,rfl⟩
 ·rcases hp with rfl | rfl <;> exact ⟨⟨nofun,nofun⟩,rfl⟩
theorem Made.callA (m:Nat):callable (aY psA psB bA bC tB sB args0) (m+1) .a psA.length:=
 ⟨psA,bA,rfl,rfl,M.lenA.2.1,M.lenA.2.2.1,Nat.le_trans M.hA.sz (by decide),eg M.hA.fit⟩
theorem Made.callC (m:Nat):callable (aY psA psB bA bC tB sB args0) (m+1) .c 1:=
 ⟨[.t],bC,rfl,rfl,by decide,by decide,Nat.le_trans M.hC.sz (by decide),eg M.hC.fit⟩
theorem Made.fit0:args0.Fit bT:=iD (M.all0.mono fun _ h=>h.flat.fit)
theorem Made.sz0:args0.sz<=6:=by
 have h1:=jy (M.all0.mono fun _ h=>h.flat.sz)
 have h2:=M.lenA.2.2.1
 rw [M.len0] at h1
 lia
theorem Made.callB (m:Nat):callable (aY psA psB bA bC tB sB args0) (m+2) .b psB.length:=by
 refine ⟨psB,_,rfl,rfl,M.lenB.2.1,M.lenB.2.2.1,?_,⟨⟨?_,iP M.fit0⟩,eg M.hT.flat.fit⟩⟩
 ·have h1:=M.sz0
  have h2:=M.hT.flat.sz
  show args0.sz+1+tB.sz+1<=20
  lia
 ·rw [M.len0];exact M.callA m
theorem Made.arg1 {t:T} (h:Arg psA.length t):t.Fit (callable (aY psA psB bA bC tB sB args0) 2)/\t.sz<=3:=by
 rcases h with h | ⟨s,a,b,rfl,ha,hb⟩ | ⟨l,rfl,hl,hlen,_⟩
 ·exact ⟨eg h.flat.fit,Nat.le_trans h.flat.sz (by decide)⟩
 ·exact ⟨eg (ha.flat.two hb.flat).fit,(ha.flat.two hb.flat).sz⟩
 ·refine ⟨⟨by rw [hlen];exact M.callA 1,iP (iD (hl.mono fun _ h=>h.flat.fit))⟩,?_⟩
  have h1:=jy (hl.mono fun _ h=>h.flat.sz)
  have h2:=M.lenA.2.2.1
  show l.sz+1<=3
  lia
theorem Made.call_fit:(T.fn .b args1).Fit (callable (aY psA psB bA bC tB sB args0) 2)/\args1.sz<=20:=by
 refine ⟨⟨by rw [M.len1];exact M.callB 0,iD (M.all1.mono fun _ h=>(M.arg1 h).1)⟩,?_⟩
 have h1:=jy (M.all1.mono fun _ h=>(M.arg1 h).2)
 have h2:=M.lenB.2.2.1
 rw [M.len1] at h1
 lia
theorem Made.withA {K:Nat} (m:Nat) {l:TL} (hl:l.All fun t=>t.sz<=K) (h2:l.rvs.length<=2):(aI (aY psA psB bA bC tB sB args0) m .a l).sz<=3*(K+2)+2:=by
 cases m with
 | zero=>
  have:=jy hl
  have h3:=Nat.mul_le_mul_right K h2
  show l.sz+1<=_
  lia
 | succ m=>exact jz (ps:=psA) (b:=bA) rfl (by rw [bh M.hA.fit];exact M.hA.sz) hl
theorem Made.hW (m:Nat) (w:Nm) (ps:List Nm) (b:T) (e:aY psA psB bA bC tB sB args0 w=some (ps,b)):(b.with (aI (aY psA psB bA bC tB sB args0) m)).sz<=20:=by
 cases w <;> cases e
 ·rw [bh M.hA.fit];exact Nat.le_trans M.hA.sz (by decide)
 ·have h1:=M.withA (K:=3) m (l:=args0.with (aI (aY psA psB bA bC tB sB args0) m)) (eY (fun t h=>by rw [bh h.flat.fit];exact h.flat.sz) M.all0) (by rw [dG,M.len0];have:=M.lenA.2.2.1;lia)
  have h2:=M.hT.flat
  show (aI _ m .a (args0.with _)).sz+(tB.with _).sz+1<=20
  rw [bh h2.fit]
  have:=h2.sz
  lia
 ·rw [bh M.hC.fit];exact Nat.le_trans M.hC.sz (by decide)
theorem Made.nodup (w:Nm) (ps:List Nm) (b:T) (e:aY psA psB bA bC tB sB args0 w=some (ps,b)):ps.Nodup:=by
 cases w <;> cases e
 ·exact M.lenA.1
 ·exact M.lenB.1
 ·simp
theorem Made.put {ρ:En} {t:T} (h:t.Fit (callable (aY psA psB bA bC tB sB args0) 2)) (hs:(t.with (aI (aY psA psB bA bC tB sB args0) 2)).sz<=1000):oW (aY psA psB bA bC tB sB args0) ρ t:=by
 have:=lV M.nodup 2 ρ t h
 exact ⟨eK 2 t h,hs,this.told,fun tt v e=>⟨v,this.back tt v e⟩⟩
theorem Made.put_call {ρ:En}:oW (aY psA psB bA bC tB sB args0) ρ (.fn .b args1):=by
 refine M.put M.call_fit.1 ?_
 have h1:(args1.with (aI (aY psA psB bA bC tB sB args0) 2)).All fun t=>t.sz<=11:=eY (fun t h=>by
  rcases h with h | ⟨s,a,b,rfl,ha,hb⟩ | ⟨l,rfl,hl,hlen,_⟩
  ·rw [bh h.flat.fit];exact Nat.le_trans h.flat.sz (by decide)
  ·have:=ha.flat.two hb.flat (s:=s)
   rw [bh this.fit];exact Nat.le_trans this.sz (by decide)
  ·exact M.withA (K:=1) 2 (eY (fun t h=>by rw [bh h.flat.fit];exact h.flat.sz) hl) (by rw [dG,hlen];have:=M.lenA.2.2.1;lia)) M.all1
 have:=jz (fns:=aY psA psB bA bC tB sB args0) (m:=1) (w:=.b) rfl (M.hW 1 .b _ _ rfl) h1
 show (aI _ 2 .b _).sz<=1000
 exact Nat.le_trans this (by decide)
theorem Made.put_told {ρ:En} {t:T} (ht:Flat 3 t):(T.fn .c (.cons t .nil)).Fit (callable (aY psA psB bA bC tB sB args0) 2)/\oW (aY psA psB bA bC tB sB args0) ρ (.fn .c (.cons t .nil)):=by
 have hf:(T.fn .c (.cons t .nil)).Fit (callable (aY psA psB bA bC tB sB args0) 2):=⟨M.callC 1,eg ht.fit,trivial⟩
 refine ⟨hf,M.put hf ?_⟩
 have:=jz (fns:=aY psA psB bA bC tB sB args0) (m:=1) (w:=.c) (l:=TL.cons (t.with (aI (aY psA psB bA bC tB sB args0) 2)) .nil) (K:=3) rfl (M.hW 1 .c _ _ rfl) ⟨by rw [bh ht.fit];exact ht.sz,trivial⟩
 show (aI _ 2 .c _).sz<=1000
 exact Nat.le_trans this (by decide)
theorem Made.renA {old:Nm} (ho:old∈psA) (ρ:En):(T.fn .b args1).ev (aC (fD (aY psA psB bA bC tB sB args0) .a psA bA old) 2 ρ) ρ=(T.fn .b args1).ev (aC (aY psA psB bA bC tB sB args0) 2 ρ) ρ:=
 gx (fun v vs h=>lZ rfl (fun m ρ vs hl _=>ua (M.lenA.2.2.2 old ho).2 ho (fun p hp=>(M.lenA.2.2.2 p hp).1) rfl M.hA.fit M.hA.nq m ρ vs hl) 2 ρ v vs h) _ M.call_fit.1 (T.names_all (fun _=>rfl) _)
theorem Made.renB {old:Nm} (ho:old∈psB) (hs:bA.has old=true->old∈psA) (ρ:En):(T.fn .b args1).ev (aC (fD (aY psA psB bA bC tB sB args0) .b psB (.two sB (.fn .a args0) tB) old) 2 ρ) ρ=(T.fn .b args1).ev (aC (aY psA psB bA bC tB sB args0) 2 ρ) ρ:=by
 refine gx (fun v vs h=>lZ (fns:=aY psA psB bA bC tB sB args0) (w:=.b) (ps:=psB) (b:=.two sB (.fn .a args0) tB) rfl (fun m ρ vs hl _=>ub (w:=.b) (fns:=aY psA psB bA bC tB sB args0) (ps:=psB) (b:=.two sB (.fn .a args0) tB) (psA:=psA) (bA:=bA) (M.lenB.2.2.2 old ho).2 ho (fun p hp=>(M.lenB.2.2.2 p hp).1) rfl nofun rfl M.hA.fit M.hA.nq ⟨⟨⟨rfl,M.len0⟩,iP M.fit0⟩,eg M.hT.flat.fit⟩ ⟨kI (M.all0.mono fun _ h=>h.flat.nq),M.hT.flat.nq⟩ hs m ρ vs hl) 2 ρ v vs h) _ M.call_fit.1 (T.names_all (fun _=>rfl) _)
end
theorem jD:∀(f s:Nat) (e:Int),0<s->s<=f->(bj f s e).2+aX (bj f s e).1=e+aX s
 | 0,s,e,h1,h2=>by lia
 | f+1,s,e,h1,h2=>by
  rw [bj]
  by_cases q:s%10=0
  ·rw [if_pos q,jD f _ _ (by lia) (by lia)]
   have:=mV (m:=s/10) 1 (by lia)
   rw [Nat.pow_one,Nat.div_mul_cancel (Nat.dvd_of_mod_eq_zero q)] at this
   rw [this];lia
  ·rw [if_neg q]
theorem nM {c e:Int} (hc:c.natAbs<10^6) (he:e<=50):∃u,bY c e=.ok u:=by
 have hf:=gk (k:=6) (by decide) hc
 unfold bY
 rw [if_neg (by lia)]
 unfold em
 split
 ·exact ⟨_,rfl⟩
 ·rename_i h0
  have:=jD c.natAbs c.natAbs e (by lia) (Nat.le_refl _)
  unfold lE strip
  rw [if_neg (by lia)]
  split <;> exact ⟨_,rfl⟩
section
variable {h:AObj} {N F:List (Str×RV)} {d:Int} {rest:ai} {ρ:En}
theorem ou (hN:NR N ρ) (x:Nm) {v u:V} (hv:v.Ok) (hu:dp x.kd v=.ok u):Go true 6 262 [.obj 2,aw x,v.rv] (S h N d F rest) (.ok .none (S h (ay N x.str u.rv) d F rest)):=Go.of (E:=yR) rfl rfl fun n hn=>by
 have e:=(gS hv x.kd).at (n:=n) (st:=S h N d F rest) hn
 rw [hu] at e
 exact ⟨_,aa (bG (ag (ac rfl (ac (ag rfl ((iF x).at (br hn rfl))) (ac rfl (ac rfl rfl)))) e) rfl rfl (oB hN x.str u.rv)) rfl,rfl⟩
theorem px {x:Nm} (hx:x.kd=.decimal) (hN:NR N ρ) (hρ:ρ.Ok) {c e:Int} (hc:c.natAbs<10^6) (he:e<=50) (he2 : -400<=e):∃N' ρ',NR N' ρ'/\ρ'.Ok/\Go true 6 262 [.obj 2,aw x,dec c e] (S h N d F rest) (.ok .none (S h N' d F rest)):=by
 obtain ⟨u,hu⟩:=nM hc he
 have ok:u.Ok:=by have:=c8 (c:=c) (e:=e);rw [hu] at this;exact this
 have hs:dp x.kd (.d c e)=.ok u:=by rw [hx];exact hu
 exact ⟨_,_,hN.put x u,hρ.put ok,ou hN x (v:=.d c e) ⟨by lia,he2,by lia⟩ hs⟩
theorem tH {P:AObj}:Go true 1 234 [.obj 2,.int 16,.int 6] [P,.attrs 237 [],.inst 237 (some 1)] (.ok .none (S P [] ((0:Nat):Int) [] [])):=fun n hn=>by
 cases n with
 | zero=>exact absurd hn (Nat.not_succ_le_zero _)
 | succ m=>
 rw [m8 (show codeOf 234=some (e234,[.int 2000,.int 20,.int 2000]) from rfl),mQ,if_pos (show ([RV.obj 2,.int 16,.int 6]++[RV.int 2000,.int 20,.int 2000]).length=e234.params.length from rfl)]
 kernel_rfl
end
section
variable {sc:List RV} {p:Nat} {N F:List (Str×RV)} {d:Int} {rest:ai}
theorem lP (hs:jG sc) (hl:sc.length<1000) {own:Nat} (ho:own<=2) {x:om} {tl:Lo} (hx:∀n a b p,cP x (Kn true n) (a::b::tl) (S (Pt sc p) N d F rest)=some (.ok [.obj 0,.int own] (S (Pt sc p) N d F rest))):∀(rs:List RV) (p:Nat),p+10*rs.length<900->∃l p',TL.All (Arg own) l/\l.rvs.length=rs.length/\p'<=p+10*rs.length/\∀n,4<=n->∀a b,bw (.one 1) (fun γ s=>ev (.call 715 x) (Kn true n) γ s) rs (a::b::tl) (S (Pt sc p) N d F rest)=some (.ok l.rvs (S (Pt sc p') N d F rest))
 | [],p,_=>⟨.nil,p,trivial,rfl,by lia,fun _ _ _ _=>rfl⟩
 | r::rs,p,h=>by
  rw [List.length_cons] at h
  obtain ⟨t,p1,ht,h1,e1⟩:=xH (p:=p) (N:=N) (d:=d) (F:=F) (rest:=rest) hs hl ho (by lia)
  obtain ⟨l,p2,hl2,h2,h3,e2⟩:=lP hs hl ho hx rs p1 (by lia)
  exact ⟨.cons t l,p2,⟨ht,hl2⟩,by rw [TL.rvs,List.length_cons,h2,List.length_cons],by rw [List.length_cons];lia,fun n hn a b=>dD rfl (ag (hx n a _ p) (e1.at hn)) (e2 n hn a (some r))⟩
theorem mul_str {x:Str} {v:Nat} (hx:x.length<=2) (hv:v<1000):binI .Mult (.str x) (.int v)=some (.str (Txt.mul x v)):=by
 unfold binI wZ
 exact ak rfl (if_pos ⟨hx,by lia,by lia⟩)
theorem pc {x:Str} {v:Nat} (hx:x.length<=2) (hv:v<=100):(Txt.mul x v).length<=255:=Nat.le_trans (PyProof.Rows.len_mul_leN (L:=2) (N:=100) hx (by lia)) (by decide)
end
noncomputable abbrev dW (sc:List RV) (p:Nat) (N F:List (Str×RV)):ai:=S (Pt sc p) N ((0:Nat):Int) F []
noncomputable abbrev gL (scr:RV) (a b c d e f g:Option RV):Lo:=[some scr,some (.obj 0),some (.obj 2),a,b,c,d,e,f,g]
theorem xP:NR [] fun _=>none:=⟨List.nodup_nil,nofun,fun _=>rfl⟩
section
variable {sc:List RV}
theorem qe (hs:jG sc) (hl:sc.length<1000) {l:List RV} (hsc:im (.lst l) (.int 40)=some (.lst sc)):∃N ρ,NR N ρ/\ρ.Ok/\∀n,20<=n->∀o,bV (rf) (Kn true n) (gL (.lst l) none none none none none none none) (dW sc 4 N [])=o->
  bV e765.code (Kn true n) [some (.lst l),none,none,none,none,none,none,none,none,none] []=o:=by
 obtain ⟨v1,w1,e1⟩:=bb (p:=0) (N:=[]) (d:=((0:Nat):Int)) (F:=[]) (rest:=[]) hs hl (by lia) (many:=200) (by decide)
 obtain ⟨N1,ρ1,n1,o1,f1⟩:=px (x:=.x) (h:=Pt sc 1) (d:=((0:Nat):Int)) (F:=[]) (rest:=[]) rfl xP nofun (c:=(v1:Int)-100) (e:= -1) (by omega) (by lia) (by lia)
 obtain ⟨v2,w2,e2⟩:=bb (p:=1) (N:=N1) (d:=((0:Nat):Int)) (F:=[]) (rest:=[]) hs hl (by lia) (many:=400) (by decide)
 have yk:(V.i ((v2:Int)-200)).Ok:=⟨by lia,by lia⟩
 have f2:=ou (h:=Pt sc 2) (d:=((0:Nat):Int)) (F:=[]) (rest:=[]) n1 .y (v:=.i ((v2:Int)-200)) (u:=.i ((v2:Int)-200)) yk (show jV _=_ by unfold jV cZ;rw [if_pos];rw [Bool.and_eq_true,decide_eq_true_iff,decide_eq_true_iff];lia)
 have n2:=n1.put .y (.i ((v2:Int)-200))
 have o2:=o1.put (x:=.y) yk
 obtain ⟨v3,w3,e3⟩:=bb (p:=2) (N:=ay N1 Nm.y.str (V.i ((v2:Int)-200)).rv) (d:=((0:Nat):Int)) (F:=[]) (rest:=[]) hs hl (by lia) (many:=100) (by decide)
 obtain ⟨N3,ρ3,n3,o3,f3⟩:=px (x:=.z) (h:=Pt sc 3) (d:=((0:Nat):Int)) (F:=[]) (rest:=[]) rfl n2 o2 (c:=(v3:Int)) (e:= -2) (by omega) (by lia) (by lia)
 obtain ⟨v4,w4,e4⟩:=bb (p:=3) (N:=N3) (d:=((0:Nat):Int)) (F:=[]) (rest:=[]) hs hl (by lia) (many:=70) (by decide)
 have ab:Str.length "ab"<=2:=by decide +kernel
 have ul:(Txt.mul "ab" (v4:Int)).length<=255:=pc ab (by lia)
 have f4:=ou (h:=Pt sc 4) (d:=((0:Nat):Int)) (F:=[]) (rest:=[]) n3 .u (v:=.s (Txt.mul "ab" (v4:Int))) (u:=.s (Txt.mul "ab" (v4:Int))) ul (show (if (Txt.mul "ab" (v4:Int)).length>255 then VR.exc "LS" else .ok (.s _))=_ from if_neg (by lia))
 refine ⟨_,_,n3.put .u (.s (Txt.mul "ab" (v4:Int))),o3.put ul,fun n hn o e=>?_⟩
 have s0:ex (.unpack [1,2] false (.tup (.cons (.new (.cons (.take (.loc 0) (.val (.int 40))) (.cons (.val (.int 0)) .nil))) (.cons (.inst 237 234 (.cons (.val (.int 16)) (.cons (.val (.int 6)) .nil))) .nil)))) (Kn true n) [some (.lst l),none,none,none,none,none,none,none,none,none] []=some (.next (gL (.lst l) none none none none none none none) (dW sc 0 [] [])):=by
  have a:ev (.new (.cons (.take (.loc 0) (.val (.int 40))) (.cons (.val (.int 0)) .nil))) (Kn true n) [some (.lst l),none,none,none,none,none,none,none,none,none] []=some (.ok (.obj 0) [Pt sc 0]):=by
   have:cP (.cons (.take (.loc 0) (.val (.int 40))) (.cons (.val (.int 0)) .nil)) (Kn true n) [some (.lst l),none,none,none,none,none,none,none,none,none] []=some (.ok [.lst sc,.int 0] []):=ac (sM rfl rfl hsc) (ac rfl rfl)
   exact (av this (if_pos (show 2<=100 by decide)):aq (cP _ _ _ _) (fun (l:List RV) s₁=>if l.length<=100 then some (Out.ok (RV.obj s₁.length) (s₁++[AObj.list l])) else none)=_)
  have b:=oG (C:=237) (f:=234) (x:=.cons (.val (.int 16)) (.cons (.val (.int 6)) .nil)) (γ:=[some (.lst l),none,none,none,none,none,none,none,none,none]) (st:=[Pt sc 0]) (n:=n) (bq:=true) (rs:=[.int 16,.int 6]) (s₁:=[Pt sc 0]) rfl (d:=1) (br hn rfl) tH
  exact bc (aL (ac a (ac b rfl)) (cn rfl)) rfl
 have ar1:∀(v:Nat) (N:List (Str×RV)),ev (.bin .Sub (.val (.int 0)) (.val (.int 1))) (Kn true n) (gL (.lst l) none none none none none none none) (dW sc v N [])=some (.ok (.int (-1)) (dW sc v N [])):=fun _ _=>rfl
 have s1:ex (.expr (.call 262 (.cons (.loc 2) (.cons (.val (.str "X")) (.cons (.tup (.cons (.bin .Sub (.call 696 (.cons (.loc 1) (.cons (.val (.int 200)) .nil))) (.val (.int 100))) (.cons (.bin .Sub (.val (.int 0)) (.val (.int 1))) .nil))) .nil))))) (Kn true n) (gL (.lst l) none none none none none none none) (dW sc 0 [] [])=some (.next (gL (.lst l) none none none none none none none) (dW sc 1 N1 [])):=
  cG (ag (ac rfl (ac rfl (ac (aL (ac (aJ (ag rfl (e1.at (br hn rfl))) rfl rfl) (ac rfl rfl)) (cn rfl)) rfl))) (f1.at (br hn rfl)))
 have s2:ex (.expr (.call 262 (.cons (.loc 2) (.cons (.val (.str "Y%")) (.cons (.bin .Sub (.call 696 (.cons (.loc 1) (.cons (.val (.int 400)) .nil))) (.val (.int 200))) .nil))))) (Kn true n) (gL (.lst l) none none none none none none none) (dW sc 1 N1 [])=some (.next (gL (.lst l) none none none none none none none) (dW sc 2 (ay N1 Nm.y.str (V.i ((v2:Int)-200)).rv) [])):=
  cG (ag (ac rfl (ac rfl (ac (aJ (ag rfl (e2.at (br hn rfl))) rfl rfl) rfl))) (f2.at (br hn rfl)))
 have s3:ex (.expr (.call 262 (.cons (.loc 2) (.cons (.val (.str "Z")) (.cons (.tup (.cons (.call 696 (.cons (.loc 1) (.cons (.val (.int 100)) .nil))) (.cons (.bin .Sub (.val (.int 0)) (.val (.int 2))) .nil))) .nil))))) (Kn true n) (gL (.lst l) none none none none none none none) (dW sc 2 (ay N1 Nm.y.str (V.i ((v2:Int)-200)).rv) [])=some (.next (gL (.lst l) none none none none none none none) (dW sc 3 N3 [])):=
  cG (ag (ac rfl (ac rfl (ac (aL (ac (ag rfl (e3.at (br hn rfl))) (ac rfl rfl)) (cn rfl)) rfl))) (f3.at (br hn rfl)))
 have s4:ex (.expr (.call 262 (.cons (.loc 2) (.cons (.val (.str "U$")) (.cons (.bin .Mult (.val (.str "ab")) (.call 696 (.cons (.loc 1) (.cons (.val (.int 70)) .nil)))) .nil))))) (Kn true n) (gL (.lst l) none none none none none none none) (dW sc 3 N3 [])=some (.next (gL (.lst l) none none none none none none none) (dW sc 4 (ay N3 Nm.u.str (V.s (Txt.mul "ab" (v4:Int))).rv) [])):=
  cG (ag (ac rfl (ac rfl (ac (aJ rfl (ag rfl (e4.at (br hn rfl))) (mul_str ab (by lia))) rfl))) (f4.at (br hn rfl)))
 exact aa s0 (aa s1 (aa s2 (aa s3 (aa s4 e))))
end
theorem lr {h:AObj} {N F:List (Str×RV)} {d:Int} {rest:ai} (hl:F.length<100) (k:Str) (r:RV):dB (S h N d F rest) (.obj 6) (.str k) r=some (S h N d (ay F k r) rest):=if_pos (by lia)
theorem xW {K:cK} {γ:Lo} {st s₁:ai} {x:om} {rs:List RV} (h:cP x K γ st=some (.ok rs s₁)) (hl:rs.length<=100):ev (.lst x) K γ st=some (.ok (.lst rs) s₁):=(av h (if_pos hl):aq (cP x K γ st) (fun l s₁=>if l.length<=100 then some (Out.ok (RV.lst l) s₁) else none)=_)
noncomputable abbrev VF (ps:List Nm) (b:T):RV:=.tup [.lst (ps.map aw),b.rv,.int (-1)]
noncomputable def F1 (psA:List Nm) (bA:T):List (Str×RV):=ay [] Nm.a.str (VF psA bA)
noncomputable def F2 (psA psB:List Nm) (bA bB:T):List (Str×RV):=ay (F1 psA bA) Nm.b.str (VF psB bB)
noncomputable def F3 (psA psB:List Nm) (bA bB bC:T):List (Str×RV):=ay (F2 psA psB bA bB) Nm.c.str (VF [.t] bC)
theorem Bb {psA psB:List Nm} {bA bC tB:T} {sB:Op} {args0:TL}:FR (F3 psA psB bA (.two sB (.fn .a args0) tB) bC) (aY psA psB bA bC tB sB args0):=fun w ps b e=>by
 unfold F3 F2 F1
 rw [bH,bH,bH]
 cases w <;> cases e
 ·rfl
 ·rfl
 ·rfl
theorem zM {psA psB:List Nm} {bA bB bC:T}:(F1 psA bA).length<=1/\(F2 psA psB bA bB).length<=2/\(F3 psA psB bA bB bC).length<=3:=by
 have h1:(F1 psA bA).length<=1:=cY
 have h2:(F2 psA psB bA bB).length<=2:=Nat.le_trans cY (by lia)
 exact ⟨h1,h2,Nat.le_trans cY (by lia)⟩
section
variable {sc:List RV}
theorem uf (hs:jG sc) (hl:sc.length<1000) {l:List RV} (N:List (Str×RV)):∃psA psB bA bC tB sB args0 args1 tt p,Made psA psB bA bC tB sB args0 args1/\Flat 3 tt/\p<=100/\∀n,20<=n->∀o,
  bV sE (Kn true n) (gL (.lst l) (some (.lst (psA.map aw))) (some (.lst (psB.map aw))) (some (T.fn .a args0).rv) (some (T.fn .b args1).rv) (some (T.name .t).rv) (some (T.name .u).rv) (some (T.fn .c (.cons tt .nil)).rv)) (dW sc p N (F3 psA psB bA (.two sB (.fn .a args0) tB) bC))=o->
  bV rf (Kn true n) (gL (.lst l) none none none none none none none) (dW sc 4 N [])=o:=by
 obtain ⟨v5,w5,e5⟩:=bb (p:=4) (N:=N) (d:=((0:Nat):Int)) (F:=[]) (rest:=[]) hs hl (by lia) (many:=3) (by decide)
 obtain ⟨psA,hA,i5⟩:∃psA:List Nm,(psA=[.x]\/psA=[.y]\/psA=[.x,.y])/\dA (dW sc 5 N []) (.lst [.lst [.str "X"],.lst [.str "Y%"],.lst [.str "X",.str "Y%"]]) (.int v5)=some (.lst (psA.map aw)):=by
  match v5,w5 with
  | 0,_=>exact ⟨[.x],.inl rfl,rfl⟩
  | 1,_=>exact ⟨[.y],.inr (.inl rfl),rfl⟩
  | 2,_=>exact ⟨[.x,.y],.inr (.inr rfl),rfl⟩
 have lA:psA.length<=2:=by rcases hA with rfl | rfl | rfl <;> decide
 obtain ⟨t1,p1,ht1,hp1,e6⟩:=iK (p:=5) (N:=N) (d:=((0:Nat):Int)) (F:=[]) (rest:=[]) hs hl (by lia)
 obtain ⟨sA,t2,p2,ht2,hp2,e7⟩:=nQ (p:=p1) (N:=N) (d:=((0:Nat):Int)) (F:=[]) (rest:=[]) hs hl (by lia) t1
 obtain ⟨v8,w8,e8⟩:=bb (p:=p2) (N:=N) (d:=((0:Nat):Int)) (F:=F1 psA (.two sA t1 t2)) (rest:=[]) hs hl (by lia) (many:=3) (by decide)
 obtain ⟨psB,hB,i8⟩:∃psB:List Nm,(psB=[.y]\/psB=[.z]\/psB=[.z,.x])/\dA (dW sc (p2+1) N (F1 psA (.two sA t1 t2))) (.lst [.lst [.str "Y%"],.lst [.str "Z"],.lst [.str "Z",.str "X"]]) (.int v8)=some (.lst (psB.map aw)):=by
  match v8,w8 with
  | 0,_=>exact ⟨[.y],.inl rfl,rfl⟩
  | 1,_=>exact ⟨[.z],.inr (.inl rfl),rfl⟩
  | 2,_=>exact ⟨[.z,.x],.inr (.inr rfl),rfl⟩
 have lB:psB.length<=2:=by rcases hB with rfl | rfl | rfl <;> decide
 obtain ⟨args0,p3,all0,len0,hp3,e9⟩:=lP (N:=N) (d:=((0:Nat):Int)) (F:=F1 psA (.two sA t1 t2)) (rest:=[]) hs hl (own:=0) (br lB rfl) (x:=.cons (.loc 2) (.cons (.val (.int 0)) .nil)) (tl:=[some (.obj 0)]) (fun _ _ _ _=>rfl) (psA.map aw) (p2+1) (by rw [List.length_map];lia)
 rw [List.length_map] at len0 hp3
 obtain ⟨sB,tB,p4,hTB,hp4,e10⟩:=nQ (p:=p3) (N:=N) (d:=((0:Nat):Int)) (F:=F1 psA (.two sA t1 t2)) (rest:=[]) hs hl (by lia) (.fn .a args0)
 obtain ⟨args1,p5,all1,len1,hp5,e11⟩:=lP (N:=N) (d:=((0:Nat):Int)) (F:=F2 psA psB (.two sA t1 t2) (.two sB (.fn .a args0) tB)) (rest:=[]) hs hl (own:=psA.length) lA (x:=.cons (.loc 2) (.cons (.prim .len (.cons (.loc 3) .nil)) .nil)) (tl:=[some (.obj 0),some (.lst (psA.map aw))]) (fun n a b p=>by
  have:callB .len (S (Pt sc p) N ((0:Nat):Int) (F2 psA psB (.two sA t1 t2) (.two sB (.fn .a args0) tB)) []) [.lst (psA.map aw)]=some (.int psA.length):=by rw [iE (by rw [List.length_map];lia),List.length_map]
  exact ac rfl (ac (bJ rfl this) rfl)) (psB.map aw) p4 (by rw [List.length_map];lia)
 rw [List.length_map] at len1 hp5
 obtain ⟨v12,w12,e12⟩:=bb (p:=p5) (N:=N) (d:=((0:Nat):Int)) (F:=F2 psA psB (.two sA t1 t2) (.two sB (.fn .a args0) tB)) (rest:=[]) hs hl (by lia) (many:=4) (by decide)
 obtain ⟨c1,hc1,i12⟩:∃c1:T,Flat 1 c1/\dA (dW sc (p5+1) N (F2 psA psB (.two sA t1 t2) (.two sB (.fn .a args0) tB))) (.lst [(T.name .t).rv,(T.name .u).rv,.tup [.str "text",.str "x"],.tup [.str "whole",.int 1]]) (.int v12)=some c1.rv:=by
  match v12,w12 with
  | 0,_=>exact ⟨.name .t,⟨trivial,Nat.le_refl _,nofun,nofun⟩,rfl⟩
  | 1,_=>exact ⟨.name .u,⟨trivial,Nat.le_refl _,nofun,nofun⟩,rfl⟩
  | 2,_=>exact ⟨.lit (.s "x"),⟨show Str.length "x"<=255 by decide +kernel,Nat.le_refl _,trivial⟩,rfl⟩
  | 3,_=>exact ⟨.lit (.i 1),⟨⟨by decide,by decide⟩,Nat.le_refl _,trivial⟩,rfl⟩
 obtain ⟨v13,w13,e13⟩:=bb (p:=p5+1) (N:=N) (d:=((0:Nat):Int)) (F:=F2 psA psB (.two sA t1 t2) (.two sB (.fn .a args0) tB)) (rest:=[]) hs hl (by lia) (many:=2) (by decide)
 obtain ⟨c2,hc2,i13⟩:∃c2:T,Flat 1 c2/\dA (dW sc (p5+1+1) N (F2 psA psB (.two sA t1 t2) (.two sB (.fn .a args0) tB))) (.lst [(T.name .t).rv,(T.name .u).rv]) (.int v13)=some c2.rv:=by
  match v13,w13 with
  | 0,_=>exact ⟨.name .t,⟨trivial,Nat.le_refl _,nofun,nofun⟩,rfl⟩
  | 1,_=>exact ⟨.name .u,⟨trivial,Nat.le_refl _,nofun,nofun⟩,rfl⟩
 obtain ⟨v14,w14,e14⟩:=bb (p:=p5+1+1) (N:=N) (d:=((0:Nat):Int)) (F:=F3 psA psB (.two sA t1 t2) (.two sB (.fn .a args0) tB) (.two .add c1 c2)) (rest:=[]) hs hl (by lia) (many:=100) (by decide)
 have cc:Str.length "c"<=2:=by decide +kernel
 have hu:Flat 1 (T.name .u):=⟨trivial,Nat.le_refl _,nofun,nofun⟩
 have hv:Flat 1 (T.lit (.s (Txt.mul "c" (v14:Int)))):=⟨pc cc (by lia),Nat.le_refl _,trivial⟩
 obtain ⟨q1,q2,q3⟩:=zM (psA:=psA) (psB:=psB) (bA:=.two sA t1 t2) (bB:=.two sB (.fn .a args0) tB) (bC:=.two .add c1 c2)
 refine ⟨psA,psB,.two sA t1 t2,.two .add c1 c2,tB,sB,args0,args1,.two .add (.name .u) (.lit (.s (Txt.mul "c" (v14:Int)))),p5+1+1+1,⟨hA,hB,ht1.flat.two ht2.flat,hc1.two hc2,hTB,all0,len0,all1,len1⟩,hu.two hv,by lia,fun n hn o e=>?_⟩
 have s5:ex (.asg 3 (.idx (.lst (.cons (.lst (.cons (.val (.str "X")) .nil)) (.cons (.lst (.cons (.val (.str "Y%")) .nil)) (.cons (.lst (.cons (.val (.str "X")) (.cons (.val (.str "Y%")) .nil))) .nil)))) (.call 696 (.cons (.loc 1) (.cons (.val (.int 3)) .nil))))) (Kn true n) (gL (.lst l) none none none none none none none) (dW sc 4 N [])=some (.next (gL (.lst l) (some (.lst (psA.map aw))) none none none none none none) (dW sc 5 N [])):=
  aD (aG rfl (ag rfl (e5.at (br hn rfl))) i5)
 have s6:ex (.setitem (.attr 237 8 (.loc 2)) (.val (.str "FNA")) (.tup (.cons (.loc 3) (.cons (.call 710 (.cons (.loc 1) (.cons (.call 703 (.cons (.loc 1) .nil)) .nil))) (.cons (.bin .Sub (.val (.int 0)) (.val (.int 1))) .nil))))) (Kn true n) (gL (.lst l) (some (.lst (psA.map aw))) none none none none none none) (dW sc 5 N [])=some (.next (gL (.lst l) (some (.lst (psA.map aw))) none none none none none none) (dW sc p2 N (F1 psA (.two sA t1 t2)))):=
  bG (aL (ac rfl (ac (ag (ac rfl (ac (ag rfl (e6.at (br hn rfl))) rfl)) (e7.at (br hn rfl))) (ac rfl rfl))) (cn rfl)) rfl rfl (lr (by decide) _ _)
 have s7:ex (.asg 4 (.idx (.lst (.cons (.lst (.cons (.val (.str "Y%")) .nil)) (.cons (.lst (.cons (.val (.str "Z")) .nil)) (.cons (.lst (.cons (.val (.str "Z")) (.cons (.val (.str "X")) .nil))) .nil)))) (.call 696 (.cons (.loc 1) (.cons (.val (.int 3)) .nil))))) (Kn true n) (gL (.lst l) (some (.lst (psA.map aw))) none none none none none none) (dW sc p2 N (F1 psA (.two sA t1 t2)))=some (.next (gL (.lst l) (some (.lst (psA.map aw))) (some (.lst (psB.map aw))) none none none none none) (dW sc (p2+1) N (F1 psA (.two sA t1 t2)))):=
  aD (aG rfl (ag rfl (e8.at (br hn rfl))) i8)
 have s8:ex (.asg 5 (.tup (.cons (.val (.str "fn")) (.cons (.val (.str "FNA")) (.cons (.comp (.one 1) .one (.cons (.loc 3) .nil) (.call 715 (.cons (.loc 2) (.cons (.val (.int 0)) .nil))) [".0","name"] [1]) .nil))))) (Kn true n) (gL (.lst l) (some (.lst (psA.map aw))) (some (.lst (psB.map aw))) none none none none none) (dW sc (p2+1) N (F1 psA (.two sA t1 t2)))=some (.next (gL (.lst l) (some (.lst (psA.map aw))) (some (.lst (psB.map aw))) (some (T.fn .a args0).rv) none none none none) (dW sc p3 N (F1 psA (.two sA t1 t2)))):=
  aD (aL (ac rfl (ac rfl (ac (du (l:=psA.map aw) rfl (by rw [List.length_map];lia) (e9 n (br hn rfl) none none)) rfl))) (cn rfl))
 have s9:ex (.setitem (.attr 237 8 (.loc 2)) (.val (.str "FNB%")) (.tup (.cons (.loc 4) (.cons (.call 710 (.cons (.loc 1) (.cons (.loc 5) .nil))) (.cons (.bin .Sub (.val (.int 0)) (.val (.int 1))) .nil))))) (Kn true n) (gL (.lst l) (some (.lst (psA.map aw))) (some (.lst (psB.map aw))) (some (T.fn .a args0).rv) none none none none) (dW sc p3 N (F1 psA (.two sA t1 t2)))=some (.next (gL (.lst l) (some (.lst (psA.map aw))) (some (.lst (psB.map aw))) (some (T.fn .a args0).rv) none none none none) (dW sc p4 N (F2 psA psB (.two sA t1 t2) (.two sB (.fn .a args0) tB)))):=
  bG (aL (ac rfl (ac (ag rfl (e10.at (br hn rfl))) (ac rfl rfl))) (cn rfl)) rfl rfl (lr (by lia) _ _)
 have s10:ex (.asg 6 (.tup (.cons (.val (.str "fn")) (.cons (.val (.str "FNB%")) (.cons (.comp (.one 1) .one (.cons (.loc 4) .nil) (.call 715 (.cons (.loc 2) (.cons (.prim .len (.cons (.loc 3) .nil)) .nil))) [".0","name"] [1,3]) .nil))))) (Kn true n) (gL (.lst l) (some (.lst (psA.map aw))) (some (.lst (psB.map aw))) (some (T.fn .a args0).rv) none none none none) (dW sc p4 N (F2 psA psB (.two sA t1 t2) (.two sB (.fn .a args0) tB)))=some (.next (gL (.lst l) (some (.lst (psA.map aw))) (some (.lst (psB.map aw))) (some (T.fn .a args0).rv) (some (T.fn .b args1).rv) none none none) (dW sc p5 N (F2 psA psB (.two sA t1 t2) (.two sB (.fn .a args0) tB)))):=
  aD (aL (ac rfl (ac rfl (ac (du (l:=psB.map aw) rfl (by rw [List.length_map];lia) (e11 n (br hn rfl) none none)) rfl))) (cn rfl))
 have s12:ex (.setitem (.attr 237 8 (.loc 2)) (.val (.str "FNT$")) (.tup (.cons (.lst (.cons (.val (.str "T$")) .nil)) (.cons (.tup (.cons (.val (.str "two")) (.cons (.val (.str "+")) (.cons (.idx (.lst (.cons (.loc 7) (.cons (.loc 8) (.cons (.tup (.cons (.val (.str "text")) (.cons (.val (.str "x")) .nil))) (.cons (.tup (.cons (.val (.str "whole")) (.cons (.val (.int 1)) .nil))) .nil))))) (.call 696 (.cons (.loc 1) (.cons (.val (.int 4)) .nil)))) (.cons (.idx (.lst (.cons (.loc 7) (.cons (.loc 8) .nil))) (.call 696 (.cons (.loc 1) (.cons (.val (.int 2)) .nil)))) .nil))))) (.cons (.bin .Sub (.val (.int 0)) (.val (.int 1))) .nil))))) (Kn true n) (gL (.lst l) (some (.lst (psA.map aw))) (some (.lst (psB.map aw))) (some (T.fn .a args0).rv) (some (T.fn .b args1).rv) (some (T.name .t).rv) (some (T.name .u).rv) none) (dW sc p5 N (F2 psA psB (.two sA t1 t2) (.two sB (.fn .a args0) tB))) =
   some (.next (gL (.lst l) (some (.lst (psA.map aw))) (some (.lst (psB.map aw))) (some (T.fn .a args0).rv) (some (T.fn .b args1).rv) (some (T.name .t).rv) (some (T.name .u).rv) none) (dW sc (p5+1+1) N (F3 psA psB (.two sA t1 t2) (.two sB (.fn .a args0) tB) (.two .add c1 c2)))):=
  bG (aL (ac rfl (ac (aL (ac rfl (ac rfl (ac (aG rfl (ag rfl (e12.at (br hn rfl))) i12) (ac (aG rfl (ag rfl (e13.at (br hn rfl))) i13) rfl)))) (cn rfl)) (ac rfl rfl))) (cn rfl)) rfl rfl (lr (by lia) _ _)
 have s13:ex (.asg 9 (.tup (.cons (.val (.str "fn")) (.cons (.val (.str "FNT$")) (.cons (.lst (.cons (.tup (.cons (.val (.str "two")) (.cons (.val (.str "+")) (.cons (.loc 8) (.cons (.tup (.cons (.val (.str "text")) (.cons (.bin .Mult (.val (.str "c")) (.call 696 (.cons (.loc 1) (.cons (.val (.int 100)) .nil)))) .nil))) .nil))))) .nil)) .nil))))) (Kn true n) (gL (.lst l) (some (.lst (psA.map aw))) (some (.lst (psB.map aw))) (some (T.fn .a args0).rv) (some (T.fn .b args1).rv) (some (T.name .t).rv) (some (T.name .u).rv) none) (dW sc (p5+1+1) N (F3 psA psB (.two sA t1 t2) (.two sB (.fn .a args0) tB) (.two .add c1 c2))) =
   some (.next (gL (.lst l) (some (.lst (psA.map aw))) (some (.lst (psB.map aw))) (some (T.fn .a args0).rv) (some (T.fn .b args1).rv) (some (T.name .t).rv) (some (T.name .u).rv) (some (T.fn .c (.cons (.two .add (.name .u) (.lit (.s (Txt.mul "c" (v14:Int))))) .nil)).rv)) (dW sc (p5+1+1+1) N (F3 psA psB (.two sA t1 t2) (.two sB (.fn .a args0) tB) (.two .add c1 c2)))):=by
  have m:ev (.bin .Mult (.val (.str "c")) (.call 696 (.cons (.loc 1) (.cons (.val (.int 100)) .nil)))) (Kn true n) (gL (.lst l) (some (.lst (psA.map aw))) (some (.lst (psB.map aw))) (some (T.fn .a args0).rv) (some (T.fn .b args1).rv) (some (T.name .t).rv) (some (T.name .u).rv) none) (dW sc (p5+1+1) N (F3 psA psB (.two sA t1 t2) (.two sB (.fn .a args0) tB) (.two .add c1 c2)))=some (.ok (.str (Txt.mul "c" (v14:Int))) (dW sc (p5+1+1+1) N (F3 psA psB (.two sA t1 t2) (.two sB (.fn .a args0) tB) (.two .add c1 c2)))):=
   aJ rfl (ag rfl (e14.at (br hn rfl))) (mul_str cc (by lia))
  have k:ev (.lst (.cons (.tup (.cons (.val (.str "two")) (.cons (.val (.str "+")) (.cons (.loc 8) (.cons (.tup (.cons (.val (.str "text")) (.cons (.bin .Mult (.val (.str "c")) (.call 696 (.cons (.loc 1) (.cons (.val (.int 100)) .nil)))) .nil))) .nil))))) .nil)) (Kn true n) (gL (.lst l) (some (.lst (psA.map aw))) (some (.lst (psB.map aw))) (some (T.fn .a args0).rv) (some (T.fn .b args1).rv) (some (T.name .t).rv) (some (T.name .u).rv) none) (dW sc (p5+1+1) N (F3 psA psB (.two sA t1 t2) (.two sB (.fn .a args0) tB) (.two .add c1 c2)))=some (.ok (.lst [(T.two .add (.name .u) (.lit (.s (Txt.mul "c" (v14:Int))))).rv]) (dW sc (p5+1+1+1) N (F3 psA psB (.two sA t1 t2) (.two sB (.fn .a args0) tB) (.two .add c1 c2)))):=
   xW (ac (aL (ac rfl (ac rfl (ac rfl (ac (aL (ac rfl (ac m rfl)) (cn rfl)) rfl)))) (cn rfl)) rfl) (cn rfl)
  exact aD (aL (ac rfl (ac rfl (ac k rfl))) (cn rfl))
 exact aa s5 (aa s6 (aa s7 (aa s8 (aa s9 (aa s10 (aa (bc rfl rfl) (aa s12 (aa s13 e))))))))
end
theorem vB {sc:List RV} (hs:jG sc) (hl:sc.length<1000) {l:List RV} {N:List (Str×RV)} {ρ:En} (hN:NR N ρ) (hρ:ρ.Ok) {psA psB:List Nm} {bA bC tB tt:T} {sB:Op} {args0 args1:TL} {p:Nat} (M:Made psA psB bA bC tB sB args0 args1) (htt:Flat 3 tt) (hp:p<=100):∃st,∀n,300<=n->
  bV sE (Kn true n) (gL (.lst l) (some (.lst (psA.map aw))) (some (.lst (psB.map aw))) (some (T.fn .a args0).rv) (some (T.fn .b args1).rv) (some (T.name .t).rv) (some (T.name .u).rv) (some (T.fn .c (.cons tt .nil)).rv)) (dW sc p N (F3 psA psB bA (.two sB (.fn .a args0) tB) bC))=some (.ret (.bool true) st):=by
 have hF:=Bb (psA:=psA) (psB:=psB) (bA:=bA) (bC:=bC) (tB:=tB) (sB:=sB) (args0:=args0)
 have hW:=fun m w ps b e=>Nat.le_trans (M.hW m w ps b e) (show 20<=100 by decide)
 obtain ⟨cf,cs⟩:=M.call_fit
 obtain ⟨tf,tp⟩:=M.put_told (ρ:=ρ) htt
 have ts:TL.sz (.cons tt .nil)<=20:=Nat.le_trans htt.sz (by decide)
 obtain ⟨N1,r1,n1,k1,e1⟩:=mB (h:=Pt sc p) (rest:=[]) hF hW hρ cf cs M.put_call hN
 obtain ⟨N2,r2,n2,k2,e2⟩:=mB (h:=Pt sc p) (rest:=r1) hF hW hρ tf ts tp n1
 obtain ⟨v,hv,e3⟩:=bb (p:=p) (N:=N2) (d:=((0:Nat):Int)) (F:=F3 psA psB bA (.two sB (.fn .a args0) tB) bC) (rest:=r2) hs hl (by lia) (many:=2) (by decide)
 obtain ⟨which,hw,e4⟩:=bb (p:=p+1) (N:=N2) (d:=((0:Nat):Int)) (F:=F3 psA psB bA (.two sB (.fn .a args0) tB) bC) (rest:=r2) hs hl (by lia) (many:=2) (by decide)
 have h3:=(zM (psA:=psA) (psB:=psB) (bA:=bA) (bB:=.two sB (.fn .a args0) tB) (bC:=bC)).2.2
 obtain ⟨w,i3,st,e5⟩:∃w:Nm,dA (S (Pt sc (p+1)) N2 ((0:Nat):Int) (F3 psA psB bA (.two sB (.fn .a args0) tB) bC) r2) (.lst [.str "FNA",.str "FNB%"]) (.int v)=some (aw w)/\∃st,Go true 60 760 [.obj 2,(T.fn .b args1).rv,aw w,.int which] (S (Pt sc (p+1+1)) N2 ((0:Nat):Int) (F3 psA psB bA (.two sB (.fn .a args0) tB) bC) r2) (.ok (.bool true) st):=by
  match v,hv with
  | 0,_=>
   have hlt:=Nat.mod_lt which M.lenA.2.1
   have ho:psA[which%psA.length]? = some psA[which%psA.length]:=List.getElem?_eq_getElem hlt
   have hm:=List.getElem_mem hlt
   generalize psA[which%psA.length]=old at ho hm
   exact ⟨.a,rfl,je (w:=.a) (old:=old) hF (by lia) hρ rfl rfl ho M.lenA.2.2.1 (Nat.le_trans M.hA.sz (by decide)) (Nat.le_trans M.hA.sz (by decide)) cf ⟨eU rfl _ _ _ cf.1,by
    have:=eM (σ:=fun _=>none) (eU (fns:=aY psA psB bA bC tB sB args0) (w:=.a) (old:=old) (ps:=psA) (b:=bA) rfl 2) (fun _ _ e=>by exact cH e) cf.2
    rwa [dK] at this⟩ cs (fun _=>M.renA hm ρ) n2⟩
  | 1,_=>
   have hlt:=Nat.mod_lt which M.lenB.2.1
   have ho:psB[which%psB.length]? = some psB[which%psB.length]:=List.getElem?_eq_getElem hlt
   have hm:=List.getElem_mem hlt
   generalize psB[which%psB.length]=old at ho hm
   have hb:(T.two sB (.fn .a args0) tB).sz<=20:=by
    have h1:=M.sz0
    have h2:=M.hT.flat.sz
    show args0.sz+1+tB.sz+1<=20
    lia
   refine ⟨.b,rfl,je (w:=.b) (old:=old) hF (by lia) hρ rfl rfl ho M.lenB.2.2.1 hb (Nat.le_trans M.hA.sz (by decide)) cf ⟨eU rfl _ _ _ cf.1,by
    have:=eM (σ:=fun _=>none) (eU (fns:=aY psA psB bA bC tB sB args0) (w:=.b) (old:=old) (ps:=psB) (b:=.two sB (.fn .a args0) tB) rfl 2) (fun _ _ e=>by exact cH e) cf.2
    rwa [dK] at this⟩ cs (fun h=>M.renB hm (fun hh=>?_) ρ) n2⟩
   rw [hh,show (Nm.b.str==Nm.b.str)=true from beq_self_eq_true _,Bool.true_and,Bool.and_true,Bool.not_eq_false'] at h
   obtain ⟨x,hx,e⟩:=List.any_eq_true.mp h
   rw [<-Nm.inj (beq_iff_eq.mp e)];exact hx
 refine ⟨st,fun n hn=>aa (am (b:=false) (ci (et (kB (ag rfl (e1.at (br hn rfl)))) rfl (kB (ag rfl (e2.at (br hn rfl)))))) rfl rfl) (ao (aK (ag (ac rfl (ac rfl (ac (aG rfl (ag rfl (e3.at (br hn rfl))) i3) (ac (ag rfl (e4.at (br hn rfl))) rfl)))) (e5.at (br hn rfl)))))⟩
theorem rD (l:List Int) (h:l.length<=63):∃st,run 600 true 765 [.lst (l.map .int)] []=some (.ok (.bool true) st):=by
 have ht:im (.lst (l.map .int)) (.int 40)=some (.lst ((l.map .int).take 40)):=by
  unfold im
  refine ak rfl (ak rfl ((if_pos ⟨by decide,by rw [List.length_map];lia⟩).trans rfl))
 have hs:jG ((l.map .int).take 40):=fun i hi=>by
  rw [List.length_take,List.length_map] at hi
  refine ⟨l[i]'(by lia),?_⟩
  rw [List.getElem?_take_of_lt (by lia),List.getElem?_map,List.getElem?_eq_getElem (by lia)];rfl
 have hl:((l.map RV.int).take 40).length<1000:=by rw [List.length_take];lia
 obtain ⟨N,ρ,hN,hρ,f1⟩:=qe hs hl ht
 obtain ⟨psA,psB,bA,bC,tB,sB,args0,args1,tt,p,M,htt,hp,f2⟩:=uf hs hl (l:=l.map .int) N
 obtain ⟨st,f3⟩:=vB hs hl (l:=l.map .int) hN hρ M htt hp
 have g:Go true 301 765 [.lst (l.map .int)] [] (.ok (.bool true) st):=Go.of (E:=e765) rfl rfl fun n hn=>⟨_,f1 n (br hn rfl) _ (f2 n (br hn rfl) _ (f3 n hn)),rfl⟩
 exact ⟨st,g 600 (by decide)⟩
theorem law_is:PySem.Challenge.rw_sm0010_01.Holds:=qr rD
end
end Mine
theorem PySem.Challenge.cw_sm0010_01_holds : PySem.Challenge.rw_sm0010_01.Holds :=
 Mine.law_is
