import PyProof.Rows.All
import Wide.All
import OpenK.AllK
import Wide.FinOn
import Lean
import PySem.Challenge.RW_rr0064_01
open PySem PySem.W PyProof.Rows PySem.Calls
set_option Elab.async false
set_option maxRecDepth 100000
set_option linter.unusedVariables false
set_option tactic.hygienic false
set_option compiler.extract_closed false
set_option bootstrap.genMatcherCode false
set_option genSizeOf false
set_option genInjectivity false
namespace Mine
theorem bC {p:Prop} (h:¬p→False):p:=Classical.byContradiction h
noncomputable section
noncomputable abbrev pw:Program:=PySem.Challenge.pw_rr0064_01
noncomputable def stm (i:Nat):Stmt:=pw.main.body.getD i default
noncomputable def stc (i j:Nat):Stmt:=match stm i with
  | .ClassDef _ _ _ b _ _ _ _ _ _ _=>b.getD j default
  | _=>default
noncomputable def fArgs:Stmt→Arguments
  | .FunctionDef _ a _ _ _ _ _ _ _ _=>a
  | _=>default
noncomputable def fBody:Stmt→List Stmt
  | .FunctionDef _ _ b _ _ _ _ _ _ _=>b
  | _=>[]
noncomputable def fScope:Stmt→Scope
  | .FunctionDef _ _ _ _ _ _ s _ _ _=>s
  | _=>default
noncomputable def sv (x:String) (t:Nat):Value:=.str (Str.ofString x) t
noncomputable def en (P:Params) (k:String) (t:Nat) (v:Value):DictEntry:=⟨PyData.keyHash P (Str.ofString k),.str (Str.ofString k) t,v⟩
noncomputable def tb (l:List Nat):Obj:=⟨.none,none,.fields (l.map fun n=>if n % 2=0 then .int (n / 2) 0 else .ref (n / 2)).toArray,#[]⟩
noncomputable def tp (l:List Value):Obj:=⟨.type "tuple",none,.seq l.toArray 0,#[]⟩
noncomputable def o11 (P:Params):Obj:=tp []
noncomputable def o12 (P:Params):Obj:=tb []
noncomputable def o13 (P:Params):Obj:=⟨(.type "code"),none,.fields #[(sv "<module>" 182),(sv "<module>" 183),(sv "/claim/cut.py" 184),(.int 1 0),(.int 0 0),(.int 0 0),(.int 0 0),(.int 0 0),(.ref 11),(.bool false),(.int 181 0),(.ref 12),.none,.none,.none,.none,(.int 185 0),(.int 1 0),(sv "/claim/cut.py" 186)],#[]⟩
noncomputable def o14 (P:Params):Obj:=⟨(.type "frame"),none,.plain,#[(some (.ref 13)),(some (.ref 3)),(some (.ref 3)),none,(some (sv "__main__" 164)),none,(some (.ref 0))]⟩
noncomputable def objsA (P:Params):List Obj:=[boot_o_0 P,boot_o_1 P,boot_o_2 P,boot_o_3 P,boot_o_4 P,boot_o_5 P,boot_o_6 P,boot_o_7 P,boot_o_8 P,boot_o_9 P,boot_o_10 P,o11 P,o12 P,o13 P,o14 P]
noncomputable def objsB (P:Params):List Obj:=[boot_o_0 P,boot_o_1 P,boot_o_2 P,boot_o_3 P,boot_o_4 P,boot_o_5 P,boot_o_6 P,boot_o_7 P,boot_o_8 P,boot_o_9 P,boot_o_10 P,o11 P,o12 P,o13 P,o14 P]
noncomputable def o2v1 (P:Params):Obj:=⟨.none,none,.dict #[en P "type.__subclasses__.Exception.0" 296 (.int 74 0),en P "type.__subclasses__.Exception.n" 297 (.int 1 0)] 2,#[]⟩
noncomputable def o3v1 (P:Params):Obj:=⟨(.type "dict"),none,.dict #[en P "__name__" 165 (sv "lua.lexer" 433),en P "__doc__" 166 .none,en P "__package__" 167 .none,en P "__loader__" 168 (.builtin "__main__.__loader__#opaque"),en P "__spec__" 169 .none,en P "__annotations__" 170 (.ref 6),en P "__builtins__" 171 (.ref 4),en P "__file__" 173 (sv "/claim/cut.py" 172),en P "__cached__" 174 .none,en P "_wall" 193 (.ref 21),en P "BLANKS" 197 (.bytes #[32,9,10,11,12,13] 196),en P "Limits" 268 (.ref 53),en P "LuaError" 299 (.ref 74),en P "LuaSyntaxError" 315 (.ref 87),en P "is_number" 322 (.ref 96),en P "wrap" 331 (.ref 103),en P "is_blank" 338 (.ref 210),en P "is_blank_values" 339 (.ref 110),en P "digit_of" 346 (.ref 117),en P "read_digits" 359 (.ref 124),en P "skip_blanks" 367 (.ref 131),en P "str_to_number" 375 (.ref 138),en P "text_in_base" 389 (.ref 145),en P "number_text" 398 (.ref 152),en P "to_text" 405 (.ref 159),en P "c_text" 413 (.ref 166),en P "first_line" 421 (.ref 173),en P "chunk_id" 432 (.ref 180),en P "END_OF_TEXT" 437 (.int (-1) 436),en P "FIRST_RESERVED" 439 (.int 257 438),en P "RESERVED" 461 (.ref 181),en P "TK_CONCAT" 463 (.int 278 462),en P "TK_DOTS" 465 (.int 279 464),en P "TK_EQ" 467 (.int 280 466),en P "TK_GE" 469 (.int 281 468),en P "TK_LE" 471 (.int 282 470),en P "TK_NE" 473 (.int 283 472),en P "TK_NUMBER" 475 (.int 284 474),en P "TK_NAME" 477 (.int 285 476),en P "TK_STRING" 479 (.int 286 478),en P "TK_EOS" 481 (.int 287 480),en P "OTHER_TEXTS" 492 (.ref 182),en P "SOURCE_SIZE" 494 (.int 80 493),en P "MOST_LINES" 496 (.int 2147483645 495),en P "NEWLINE" 498 (.int 10 497),en P "RETURN" 500 (.int 13 499),en P "QUOTE_DOUBLE" 502 (.int 34 501),en P "QUOTE_SINGLE" 504 (.int 39 503),en P "PLUS" 506 (.int 43 505),en P "MINUS" 508 (.int 45 507),en P "DOT" 510 (.int 46 509),en P "LESS" 512 (.int 60 511),en P "EQUALS" 514 (.int 61 513),en P "GREATER" 516 (.int 62 515),en P "BRACKET_OPEN" 518 (.int 91 517),en P "BACKSLASH" 520 (.int 92 519),en P "BRACKET_CLOSE" 522 (.int 93 521),en P "UNDERSCORE" 524 (.int 95 523),en P "TILDE" 526 (.int 126 525),en P "is_digit" 533 (.ref 189),en P "is_letter" 540 (.ref 196),en P "is_name_sign" 547 (.ref 203),en P "is_blank_lexer" 555 (.ref 210),en P "is_control" 562 (.ref 217),en P "is_newline" 569 (.ref 224),en P "escaped_sign" 577 (.ref 231),en P "reserved_kinds" 586 (.ref 238),en P "token_text" 594 (.ref 245)] 68,#[]⟩
noncomputable def o12v1 (P:Params):Obj:=tb [2,0,41,12,0,55,50,0,127,62,0,167,66,0,191,70,0,205,80,0,219,86,0,233,102,0,247,120,0,261,128,0,275,132,0,289,156,0,303,176,0,317,188,0,331,198,0,345,208,0,359,298,0,377,302,0,391,306,0,405,310,0,419,316,0,433,320,0,447,324,0,461,330,0,475,340,0,489]
noncomputable def o15 (P:Params):Obj:=tp []
noncomputable def o16 (P:Params):Obj:=tb []
noncomputable def o17 (P:Params):Obj:=tp [(sv "k" 190)]
noncomputable def o18 (P:Params):Obj:=tp []
noncomputable def o19 (P:Params):Obj:=⟨.none,none,.func { name:="_wall",qualname:="_wall",params:=fArgs (stm 0),body:=.stmts (fBody (stm 0)),scope:=fScope (stm 0),globals:=0,closure:=[],defaults:=.none,kwdefaults:=.none,doc:=.none,pyModule:=.none,annotations:=none,code:=.none,closureTuple:=.none,builtins:=0 },#[]⟩
noncomputable def o20 (P:Params):Obj:=⟨(.type "code"),none,.fields #[(sv "_wall" 187),(sv "_wall" 188),(sv "/claim/cut.py" 189),(.int 1 0),(.int 1 0),(.int 0 0),(.int 0 0),(.int 3 0),(.ref 15),(.bool true),(.int 181 0),(.ref 16),.none,(.ref 17),(.ref 18),(.ref 19),(.int 191 0),(.int 1 0),(sv "/claim/cut.py" 192)],#[]⟩
noncomputable def o21 (P:Params):Obj:=⟨(.type "function"),none,.func { name:="_wall",qualname:="_wall",params:=fArgs (stm 0),body:=.stmts (fBody (stm 0)),scope:=fScope (stm 0),globals:=3,closure:=[],defaults:=.none,kwdefaults:=.none,doc:=.none,pyModule:=(sv "__main__" 164),annotations:=none,code:=(.ref 20),closureTuple:=.none,builtins:=0 },#[]⟩
noncomputable def o22 (P:Params):Obj:=tp []
noncomputable def o23 (P:Params):Obj:=⟨(.type "builtin_function_or_method"),none,.fields #[(.builtin "type.__prepare__"),(.type "type")],#[]⟩
noncomputable def o24 (P:Params):Obj:=⟨(.type "dict"),none,.dict #[en P "__module__" 205 (sv "lua.values" 194),en P "__qualname__" 207 (sv "Limits" 206),en P "__firstlineno__" 209 (.int 6 208),en P "__init__" 236 (.ref 36),en P "greatest" 243 (.ref 43),en P "least" 250 (.ref 50),en P "__static_attributes__" 261 (.ref 51)] 7,#[]⟩
noncomputable def o25 (P:Params):Obj:=tp []
noncomputable def o26 (P:Params):Obj:=tb [16,8,71,40,8,85,46,8,99]
noncomputable def o27 (P:Params):Obj:=⟨(.type "code"),none,.fields #[(sv "Limits" 200),(sv "Limits" 201),(sv "/claim/cut.py" 202),(.int 6 0),(.int 0 0),(.int 0 0),(.int 0 0),(.int 0 0),(.ref 25),(.bool false),(.int 181 0),(.ref 26),.none,.none,.none,.none,(.int 203 0),(.int 6 0),(sv "/claim/cut.py" 204)],#[]⟩
noncomputable def o28 (P:Params):Obj:=⟨(.type "frame"),none,.plain,#[(some (.ref 27)),(some (.ref 3)),(some (.ref 24)),none,(some (sv "lua.values" 194)),none,(some (.ref 0))]⟩
noncomputable def o29 (P:Params):Obj:=tp [(.int 64 210),(.int 250 211),(.int 60 212),(.int 200 213),(.int 40 214),(.int 200 215),(.int 2000 216),(.int 50 217),(.int 1000000000 218),(.int 1000000 219)]
noncomputable def o30 (P:Params):Obj:=tp []
noncomputable def o31 (P:Params):Obj:=tb []
noncomputable def o32 (P:Params):Obj:=tp [(sv "self" 223),(sv "width" 224),(sv "registers" 225),(sv "upvalues" 226),(sv "local_names" 227),(sv "ccalls" 228),(sv "frames" 229),(sv "stack" 230),(sv "flush" 231),(sv "steps" 232),(sv "text" 233)]
noncomputable def o33 (P:Params):Obj:=tp []
noncomputable def o34 (P:Params):Obj:=⟨.none,none,.func { name:="__init__",qualname:="Limits.__init__",params:=fArgs (stc 3 0),body:=.stmts (fBody (stc 3 0)),scope:=fScope (stc 3 0),globals:=0,closure:=[],defaults:=.none,kwdefaults:=.none,doc:=.none,pyModule:=.none,annotations:=none,code:=.none,closureTuple:=.none,builtins:=0 },#[]⟩
noncomputable def o35 (P:Params):Obj:=⟨(.type "code"),none,.fields #[(sv "__init__" 220),(sv "Limits.__init__" 221),(sv "/claim/cut.py" 222),(.int 8 0),(.int 11 0),(.int 0 0),(.int 0 0),(.int 3 0),(.ref 30),(.bool true),(.int 181 0),(.ref 31),.none,(.ref 32),(.ref 33),(.ref 34),(.int 234 0),(.int 8 0),(sv "/claim/cut.py" 235)],#[]⟩
noncomputable def o36 (P:Params):Obj:=⟨(.type "function"),none,.func { name:="__init__",qualname:="Limits.__init__",params:=fArgs (stc 3 0),body:=.stmts (fBody (stc 3 0)),scope:=fScope (stc 3 0),globals:=3,closure:=[],defaults:=(.ref 29),kwdefaults:=.none,doc:=.none,pyModule:=(sv "lua.values" 194),annotations:=none,code:=(.ref 35),closureTuple:=.none,builtins:=0 },#[]⟩
noncomputable def o37 (P:Params):Obj:=tp []
noncomputable def o38 (P:Params):Obj:=tb []
noncomputable def o39 (P:Params):Obj:=tp [(sv "self" 240)]
noncomputable def o40 (P:Params):Obj:=tp []
noncomputable def o41 (P:Params):Obj:=⟨.none,none,.func { name:="greatest",qualname:="Limits.greatest",params:=fArgs (stc 3 1),body:=.stmts (fBody (stc 3 1)),scope:=fScope (stc 3 1),globals:=0,closure:=[],defaults:=.none,kwdefaults:=.none,doc:=.none,pyModule:=.none,annotations:=none,code:=.none,closureTuple:=.none,builtins:=0 },#[]⟩
noncomputable def o42 (P:Params):Obj:=⟨(.type "code"),none,.fields #[(sv "greatest" 237),(sv "Limits.greatest" 238),(sv "/claim/cut.py" 239),(.int 20 0),(.int 1 0),(.int 0 0),(.int 0 0),(.int 3 0),(.ref 37),(.bool true),(.int 181 0),(.ref 38),.none,(.ref 39),(.ref 40),(.ref 41),(.int 241 0),(.int 20 0),(sv "/claim/cut.py" 242)],#[]⟩
noncomputable def o43 (P:Params):Obj:=⟨(.type "function"),none,.func { name:="greatest",qualname:="Limits.greatest",params:=fArgs (stc 3 1),body:=.stmts (fBody (stc 3 1)),scope:=fScope (stc 3 1),globals:=3,closure:=[],defaults:=.none,kwdefaults:=.none,doc:=.none,pyModule:=(sv "lua.values" 194),annotations:=none,code:=(.ref 42),closureTuple:=.none,builtins:=0 },#[]⟩
noncomputable def o44 (P:Params):Obj:=tp []
noncomputable def o45 (P:Params):Obj:=tb []
noncomputable def o46 (P:Params):Obj:=tp [(sv "self" 247)]
noncomputable def o47 (P:Params):Obj:=tp []
noncomputable def o48 (P:Params):Obj:=⟨.none,none,.func { name:="least",qualname:="Limits.least",params:=fArgs (stc 3 2),body:=.stmts (fBody (stc 3 2)),scope:=fScope (stc 3 2),globals:=0,closure:=[],defaults:=.none,kwdefaults:=.none,doc:=.none,pyModule:=.none,annotations:=none,code:=.none,closureTuple:=.none,builtins:=0 },#[]⟩
noncomputable def o49 (P:Params):Obj:=⟨(.type "code"),none,.fields #[(sv "least" 244),(sv "Limits.least" 245),(sv "/claim/cut.py" 246),(.int 23 0),(.int 1 0),(.int 0 0),(.int 0 0),(.int 3 0),(.ref 44),(.bool true),(.int 181 0),(.ref 45),.none,(.ref 46),(.ref 47),(.ref 48),(.int 248 0),(.int 23 0),(sv "/claim/cut.py" 249)],#[]⟩
noncomputable def o50 (P:Params):Obj:=⟨(.type "function"),none,.func { name:="least",qualname:="Limits.least",params:=fArgs (stc 3 2),body:=.stmts (fBody (stc 3 2)),scope:=fScope (stc 3 2),globals:=3,closure:=[],defaults:=.none,kwdefaults:=.none,doc:=.none,pyModule:=(sv "lua.values" 194),annotations:=none,code:=(.ref 49),closureTuple:=.none,builtins:=0 },#[]⟩
noncomputable def o51 (P:Params):Obj:=tp [(sv "ccalls" 251),(sv "flush" 252),(sv "frames" 253),(sv "local_names" 254),(sv "registers" 255),(sv "stack" 256),(sv "steps" 257),(sv "text" 258),(sv "upvalues" 259),(sv "width" 260)]
noncomputable def o52 (P:Params):Obj:=⟨(.type "dict"),none,.dict #[en P "__module__" 205 (sv "lua.values" 194),en P "__firstlineno__" 209 (.int 6 208),en P "__init__" 236 (.ref 36),en P "greatest" 243 (.ref 43),en P "least" 250 (.ref 50),en P "__static_attributes__" 261 (.ref 51),en P "__dict__" 263 (.ref 54),en P "__weakref__" 265 (.ref 55),en P "__doc__" 266 .none] 4,#[]⟩
noncomputable def o53 (P:Params):Obj:=⟨(.type "type"),none,.cls { name:="Limits",bases:=[(.type "object")],mro:=[(.ref 53),(.type "object")],ns:=52,qualname:="Limits",hasDict:=true,slotNames:=[],subclasses:=[],abstract:=false,collection:=none,hasDel:=false },#[none,none,(some (sv "Limits" 198)),(some (sv "Limits" 206)),(some (.builtin "object.__new__")),(some (.bool true))]⟩
noncomputable def o54 (P:Params):Obj:=⟨(.type "getset_descriptor"),none,.fields #[(sv "__dict__" 262),(.ref 53),(.builtin "function.__dict__"),(.builtin "function.__dict__#set")],#[]⟩
noncomputable def o55 (P:Params):Obj:=⟨(.type "getset_descriptor"),none,.fields #[(sv "__weakref__" 264),(.ref 53),(.builtin "ExceptionGroup.__weakref__"),.none],#[]⟩
noncomputable def o56 (P:Params):Obj:=⟨(.type "super"),none,.fields #[(.ref 53),(.ref 53),(.ref 53)],#[]⟩
noncomputable def o57 (P:Params):Obj:=⟨(.type "builtin_function_or_method"),none,.fields #[(.builtin "object.__init_subclass__"),(.ref 53)],#[]⟩
noncomputable def o58 (P:Params):Obj:=tp [(.type "Exception")]
noncomputable def o59 (P:Params):Obj:=⟨(.type "builtin_function_or_method"),none,.fields #[(.builtin "type.__prepare__"),(.type "type")],#[]⟩
noncomputable def o60 (P:Params):Obj:=⟨(.type "dict"),none,.dict #[en P "__module__" 276 (sv "lua.values" 194),en P "__qualname__" 278 (sv "LuaError" 277),en P "__firstlineno__" 280 (.int 25 279),en P "__init__" 288 (.ref 71),en P "__static_attributes__" 292 (.ref 72)] 5,#[]⟩
noncomputable def o61 (P:Params):Obj:=tp []
noncomputable def o62 (P:Params):Obj:=tb [54,8,141]
noncomputable def o63 (P:Params):Obj:=⟨(.type "code"),none,.fields #[(sv "LuaError" 271),(sv "LuaError" 272),(sv "/claim/cut.py" 273),(.int 25 0),(.int 0 0),(.int 0 0),(.int 0 0),(.int 0 0),(.ref 61),(.bool false),(.int 181 0),(.ref 62),.none,.none,.none,.none,(.int 274 0),(.int 25 0),(sv "/claim/cut.py" 275)],#[]⟩
noncomputable def o64 (P:Params):Obj:=⟨(.type "frame"),none,.plain,#[(some (.ref 63)),(some (.ref 3)),(some (.ref 60)),none,(some (sv "lua.values" 194)),none,(some (.ref 0))]⟩
noncomputable def o65 (P:Params):Obj:=tp []
noncomputable def o66 (P:Params):Obj:=tb []
noncomputable def o67 (P:Params):Obj:=tp [(sv "self" 284),(sv "value" 285)]
noncomputable def o68 (P:Params):Obj:=tp []
noncomputable def o69 (P:Params):Obj:=⟨.none,none,.func { name:="__init__",qualname:="LuaError.__init__",params:=fArgs (stc 4 0),body:=.stmts (fBody (stc 4 0)),scope:=fScope (stc 4 0),globals:=0,closure:=[],defaults:=.none,kwdefaults:=.none,doc:=.none,pyModule:=.none,annotations:=none,code:=.none,closureTuple:=.none,builtins:=0 },#[]⟩
noncomputable def o70 (P:Params):Obj:=⟨(.type "code"),none,.fields #[(sv "__init__" 281),(sv "LuaError.__init__" 282),(sv "/claim/cut.py" 283),(.int 27 0),(.int 2 0),(.int 0 0),(.int 0 0),(.int 3 0),(.ref 65),(.bool true),(.int 181 0),(.ref 66),.none,(.ref 67),(.ref 68),(.ref 69),(.int 286 0),(.int 27 0),(sv "/claim/cut.py" 287)],#[]⟩
noncomputable def o71 (P:Params):Obj:=⟨(.type "function"),none,.func { name:="__init__",qualname:="LuaError.__init__",params:=fArgs (stc 4 0),body:=.stmts (fBody (stc 4 0)),scope:=fScope (stc 4 0),globals:=3,closure:=[],defaults:=.none,kwdefaults:=.none,doc:=.none,pyModule:=(sv "lua.values" 194),annotations:=none,code:=(.ref 70),closureTuple:=.none,builtins:=0 },#[]⟩
noncomputable def o72 (P:Params):Obj:=tp [(sv "is_in_handler" 289),(sv "trace" 290),(sv "value" 291)]
noncomputable def o73 (P:Params):Obj:=⟨(.type "dict"),none,.dict #[en P "__module__" 276 (sv "lua.values" 194),en P "__firstlineno__" 280 (.int 25 279),en P "__init__" 288 (.ref 71),en P "__static_attributes__" 292 (.ref 72),en P "__weakref__" 294 (.ref 75),en P "__doc__" 295 .none] 3,#[]⟩
noncomputable def o74 (P:Params):Obj:=⟨(.type "type"),none,.cls { name:="LuaError",bases:=[(.type "Exception")],mro:=[(.ref 74),(.type "Exception"),(.type "BaseException"),(.type "object")],ns:=73,qualname:="LuaError",hasDict:=true,slotNames:=[],subclasses:=[(.ref 87)],abstract:=false,collection:=none,hasDel:=false },#[(some (.ref 58)),none,(some (sv "LuaError" 269)),(some (sv "LuaError" 277)),(some (.builtin "Exception.__new__")),(some (.bool true))]⟩
noncomputable def o75 (P:Params):Obj:=⟨(.type "getset_descriptor"),none,.fields #[(sv "__weakref__" 293),(.ref 74),(.builtin "ExceptionGroup.__weakref__"),.none],#[]⟩
noncomputable def o76 (P:Params):Obj:=⟨(.type "super"),none,.fields #[(.ref 74),(.ref 74),(.ref 74)],#[]⟩
noncomputable def o77 (P:Params):Obj:=⟨(.type "builtin_function_or_method"),none,.fields #[(.builtin "object.__init_subclass__"),(.ref 74)],#[]⟩
noncomputable def o78 (P:Params):Obj:=tp [(.ref 74)]
noncomputable def o79 (P:Params):Obj:=⟨(.type "builtin_function_or_method"),none,.fields #[(.builtin "type.__prepare__"),(.type "type")],#[]⟩
noncomputable def o80 (P:Params):Obj:=⟨(.type "dict"),none,.dict #[en P "__module__" 307 (sv "lua.values" 194),en P "__qualname__" 309 (sv "LuaSyntaxError" 308),en P "__firstlineno__" 311 (.int 31 310),en P "__static_attributes__" 312 (.ref 85)] 4,#[]⟩
noncomputable def o81 (P:Params):Obj:=tp []
noncomputable def o82 (P:Params):Obj:=tb []
noncomputable def o83 (P:Params):Obj:=⟨(.type "code"),none,.fields #[(sv "LuaSyntaxError" 302),(sv "LuaSyntaxError" 303),(sv "/claim/cut.py" 304),(.int 31 0),(.int 0 0),(.int 0 0),(.int 0 0),(.int 0 0),(.ref 81),(.bool false),(.int 181 0),(.ref 82),.none,.none,.none,.none,(.int 305 0),(.int 31 0),(sv "/claim/cut.py" 306)],#[]⟩
noncomputable def o84 (P:Params):Obj:=⟨(.type "frame"),none,.plain,#[(some (.ref 83)),(some (.ref 3)),(some (.ref 80)),none,(some (sv "lua.values" 194)),none,(some (.ref 0))]⟩
noncomputable def o85 (P:Params):Obj:=tp []
noncomputable def o86 (P:Params):Obj:=⟨(.type "dict"),none,.dict #[en P "__module__" 307 (sv "lua.values" 194),en P "__firstlineno__" 311 (.int 31 310),en P "__static_attributes__" 312 (.ref 85),en P "__doc__" 313 .none] 2,#[]⟩
noncomputable def o87 (P:Params):Obj:=⟨(.type "type"),none,.cls { name:="LuaSyntaxError",bases:=[(.ref 74)],mro:=[(.ref 87),(.ref 74),(.type "Exception"),(.type "BaseException"),(.type "object")],ns:=86,qualname:="LuaSyntaxError",hasDict:=true,slotNames:=[],subclasses:=[],abstract:=false,collection:=none,hasDel:=false },#[(some (.ref 78)),none,(some (sv "LuaSyntaxError" 300)),(some (sv "LuaSyntaxError" 308)),(some (.builtin "Exception.__new__")),(some (.bool true))]⟩
noncomputable def o88 (P:Params):Obj:=⟨(.type "super"),none,.fields #[(.ref 87),(.ref 87),(.ref 87)],#[]⟩
noncomputable def o89 (P:Params):Obj:=⟨(.type "builtin_function_or_method"),none,.fields #[(.builtin "object.__init_subclass__"),(.ref 87)],#[]⟩
noncomputable def o90 (P:Params):Obj:=tp []
noncomputable def o91 (P:Params):Obj:=tb []
noncomputable def o92 (P:Params):Obj:=tp [(sv "value" 319)]
noncomputable def o93 (P:Params):Obj:=tp []
noncomputable def o94 (P:Params):Obj:=⟨.none,none,.func { name:="is_number",qualname:="is_number",params:=fArgs (stm 6),body:=.stmts (fBody (stm 6)),scope:=fScope (stm 6),globals:=0,closure:=[],defaults:=.none,kwdefaults:=.none,doc:=.none,pyModule:=.none,annotations:=none,code:=.none,closureTuple:=.none,builtins:=0 },#[]⟩
noncomputable def o95 (P:Params):Obj:=⟨(.type "code"),none,.fields #[(sv "is_number" 316),(sv "is_number" 317),(sv "/claim/cut.py" 318),(.int 33 0),(.int 1 0),(.int 0 0),(.int 0 0),(.int 3 0),(.ref 90),(.bool true),(.int 181 0),(.ref 91),.none,(.ref 92),(.ref 93),(.ref 94),(.int 320 0),(.int 33 0),(sv "/claim/cut.py" 321)],#[]⟩
noncomputable def o96 (P:Params):Obj:=⟨(.type "function"),none,.func { name:="is_number",qualname:="is_number",params:=fArgs (stm 6),body:=.stmts (fBody (stm 6)),scope:=fScope (stm 6),globals:=3,closure:=[],defaults:=.none,kwdefaults:=.none,doc:=.none,pyModule:=(sv "lua.values" 194),annotations:=none,code:=(.ref 95),closureTuple:=.none,builtins:=0 },#[]⟩
noncomputable def o97 (P:Params):Obj:=tp []
noncomputable def o98 (P:Params):Obj:=tb []
noncomputable def o99 (P:Params):Obj:=tp [(sv "n" 326),(sv "width" 327),(sv "low" 328)]
noncomputable def o100 (P:Params):Obj:=tp []
noncomputable def o101 (P:Params):Obj:=⟨.none,none,.func { name:="wrap",qualname:="wrap",params:=fArgs (stm 7),body:=.stmts (fBody (stm 7)),scope:=fScope (stm 7),globals:=0,closure:=[],defaults:=.none,kwdefaults:=.none,doc:=.none,pyModule:=.none,annotations:=none,code:=.none,closureTuple:=.none,builtins:=0 },#[]⟩
noncomputable def o102 (P:Params):Obj:=⟨(.type "code"),none,.fields #[(sv "wrap" 323),(sv "wrap" 324),(sv "/claim/cut.py" 325),(.int 35 0),(.int 2 0),(.int 0 0),(.int 0 0),(.int 3 0),(.ref 97),(.bool true),(.int 181 0),(.ref 98),.none,(.ref 99),(.ref 100),(.ref 101),(.int 329 0),(.int 35 0),(sv "/claim/cut.py" 330)],#[]⟩
noncomputable def o103 (P:Params):Obj:=⟨(.type "function"),none,.func { name:="wrap",qualname:="wrap",params:=fArgs (stm 7),body:=.stmts (fBody (stm 7)),scope:=fScope (stm 7),globals:=3,closure:=[],defaults:=.none,kwdefaults:=.none,doc:=.none,pyModule:=(sv "lua.values" 194),annotations:=none,code:=(.ref 102),closureTuple:=.none,builtins:=0 },#[]⟩
noncomputable def o104 (P:Params):Obj:=tp []
noncomputable def o105 (P:Params):Obj:=tb []
noncomputable def o106 (P:Params):Obj:=tp [(sv "octet" 335)]
noncomputable def o107 (P:Params):Obj:=tp []
noncomputable def o108 (P:Params):Obj:=⟨.none,none,.func { name:="is_blank",qualname:="is_blank",params:=fArgs (stm 8),body:=.stmts (fBody (stm 8)),scope:=fScope (stm 8),globals:=0,closure:=[],defaults:=.none,kwdefaults:=.none,doc:=.none,pyModule:=.none,annotations:=none,code:=.none,closureTuple:=.none,builtins:=0 },#[]⟩
noncomputable def o109 (P:Params):Obj:=⟨(.type "code"),none,.fields #[(sv "is_blank" 332),(sv "is_blank" 333),(sv "/claim/cut.py" 334),(.int 40 0),(.int 1 0),(.int 0 0),(.int 0 0),(.int 3 0),(.ref 104),(.bool true),(.int 181 0),(.ref 105),.none,(.ref 106),(.ref 107),(.ref 108),(.int 336 0),(.int 40 0),(sv "/claim/cut.py" 337)],#[]⟩
noncomputable def o110 (P:Params):Obj:=⟨(.type "function"),none,.func { name:="is_blank",qualname:="is_blank",params:=fArgs (stm 8),body:=.stmts (fBody (stm 8)),scope:=fScope (stm 8),globals:=3,closure:=[],defaults:=.none,kwdefaults:=.none,doc:=.none,pyModule:=(sv "lua.values" 194),annotations:=none,code:=(.ref 109),closureTuple:=.none,builtins:=0 },#[]⟩
noncomputable def o111 (P:Params):Obj:=tp []
noncomputable def o112 (P:Params):Obj:=tb []
noncomputable def o113 (P:Params):Obj:=tp [(sv "octet" 343)]
noncomputable def o114 (P:Params):Obj:=tp []
noncomputable def o115 (P:Params):Obj:=⟨.none,none,.func { name:="digit_of",qualname:="digit_of",params:=fArgs (stm 10),body:=.stmts (fBody (stm 10)),scope:=fScope (stm 10),globals:=0,closure:=[],defaults:=.none,kwdefaults:=.none,doc:=.none,pyModule:=.none,annotations:=none,code:=.none,closureTuple:=.none,builtins:=0 },#[]⟩
noncomputable def o116 (P:Params):Obj:=⟨(.type "code"),none,.fields #[(sv "digit_of" 340),(sv "digit_of" 341),(sv "/claim/cut.py" 342),(.int 43 0),(.int 1 0),(.int 0 0),(.int 0 0),(.int 3 0),(.ref 111),(.bool true),(.int 181 0),(.ref 112),.none,(.ref 113),(.ref 114),(.ref 115),(.int 344 0),(.int 43 0),(sv "/claim/cut.py" 345)],#[]⟩
noncomputable def o117 (P:Params):Obj:=⟨(.type "function"),none,.func { name:="digit_of",qualname:="digit_of",params:=fArgs (stm 10),body:=.stmts (fBody (stm 10)),scope:=fScope (stm 10),globals:=3,closure:=[],defaults:=.none,kwdefaults:=.none,doc:=.none,pyModule:=(sv "lua.values" 194),annotations:=none,code:=(.ref 116),closureTuple:=.none,builtins:=0 },#[]⟩
noncomputable def o118 (P:Params):Obj:=tp []
noncomputable def o119 (P:Params):Obj:=tb []
noncomputable def o120 (P:Params):Obj:=tp [(sv "text" 350),(sv "at" 351),(sv "base" 352),(sv "width" 353),(sv "found" 354),(sv "most" 355),(sv "digit" 356)]
noncomputable def o121 (P:Params):Obj:=tp []
noncomputable def o122 (P:Params):Obj:=⟨.none,none,.func { name:="read_digits",qualname:="read_digits",params:=fArgs (stm 11),body:=.stmts (fBody (stm 11)),scope:=fScope (stm 11),globals:=0,closure:=[],defaults:=.none,kwdefaults:=.none,doc:=.none,pyModule:=.none,annotations:=none,code:=.none,closureTuple:=.none,builtins:=0 },#[]⟩
noncomputable def o123 (P:Params):Obj:=⟨(.type "code"),none,.fields #[(sv "read_digits" 347),(sv "read_digits" 348),(sv "/claim/cut.py" 349),(.int 51 0),(.int 4 0),(.int 0 0),(.int 0 0),(.int 3 0),(.ref 118),(.bool true),(.int 181 0),(.ref 119),.none,(.ref 120),(.ref 121),(.ref 122),(.int 357 0),(.int 51 0),(sv "/claim/cut.py" 358)],#[]⟩
noncomputable def o124 (P:Params):Obj:=⟨(.type "function"),none,.func { name:="read_digits",qualname:="read_digits",params:=fArgs (stm 11),body:=.stmts (fBody (stm 11)),scope:=fScope (stm 11),globals:=3,closure:=[],defaults:=.none,kwdefaults:=.none,doc:=.none,pyModule:=(sv "lua.values" 194),annotations:=none,code:=(.ref 123),closureTuple:=.none,builtins:=0 },#[]⟩
noncomputable def o125 (P:Params):Obj:=tp []
noncomputable def o126 (P:Params):Obj:=tb []
noncomputable def o127 (P:Params):Obj:=tp [(sv "text" 363),(sv "at" 364)]
noncomputable def o128 (P:Params):Obj:=tp []
noncomputable def o129 (P:Params):Obj:=⟨.none,none,.func { name:="skip_blanks",qualname:="skip_blanks",params:=fArgs (stm 12),body:=.stmts (fBody (stm 12)),scope:=fScope (stm 12),globals:=0,closure:=[],defaults:=.none,kwdefaults:=.none,doc:=.none,pyModule:=.none,annotations:=none,code:=.none,closureTuple:=.none,builtins:=0 },#[]⟩
noncomputable def o130 (P:Params):Obj:=⟨(.type "code"),none,.fields #[(sv "skip_blanks" 360),(sv "skip_blanks" 361),(sv "/claim/cut.py" 362),(.int 60 0),(.int 2 0),(.int 0 0),(.int 0 0),(.int 3 0),(.ref 125),(.bool true),(.int 181 0),(.ref 126),.none,(.ref 127),(.ref 128),(.ref 129),(.int 365 0),(.int 60 0),(sv "/claim/cut.py" 366)],#[]⟩
noncomputable def o131 (P:Params):Obj:=⟨(.type "function"),none,.func { name:="skip_blanks",qualname:="skip_blanks",params:=fArgs (stm 12),body:=.stmts (fBody (stm 12)),scope:=fScope (stm 12),globals:=3,closure:=[],defaults:=.none,kwdefaults:=.none,doc:=.none,pyModule:=(sv "lua.values" 194),annotations:=none,code:=(.ref 130),closureTuple:=.none,builtins:=0 },#[]⟩
noncomputable def o132 (P:Params):Obj:=tp []
noncomputable def o133 (P:Params):Obj:=tb []
noncomputable def o134 (P:Params):Obj:=tp [(sv "text" 371),(sv "limits" 372)]
noncomputable def o135 (P:Params):Obj:=tp []
noncomputable def o136 (P:Params):Obj:=⟨.none,none,.func { name:="str_to_number",qualname:="str_to_number",params:=fArgs (stm 13),body:=.stmts (fBody (stm 13)),scope:=fScope (stm 13),globals:=0,closure:=[],defaults:=.none,kwdefaults:=.none,doc:=.none,pyModule:=.none,annotations:=none,code:=.none,closureTuple:=.none,builtins:=0 },#[]⟩
noncomputable def o137 (P:Params):Obj:=⟨(.type "code"),none,.fields #[(sv "str_to_number" 368),(sv "str_to_number" 369),(sv "/claim/cut.py" 370),(.int 64 0),(.int 2 0),(.int 0 0),(.int 0 0),(.int 3 0),(.ref 132),(.bool true),(.int 181 0),(.ref 133),.none,(.ref 134),(.ref 135),(.ref 136),(.int 373 0),(.int 64 0),(sv "/claim/cut.py" 374)],#[]⟩
noncomputable def o138 (P:Params):Obj:=⟨(.type "function"),none,.func { name:="str_to_number",qualname:="str_to_number",params:=fArgs (stm 13),body:=.stmts (fBody (stm 13)),scope:=fScope (stm 13),globals:=3,closure:=[],defaults:=.none,kwdefaults:=.none,doc:=.none,pyModule:=(sv "lua.values" 194),annotations:=none,code:=(.ref 137),closureTuple:=.none,builtins:=0 },#[]⟩
noncomputable def o139 (P:Params):Obj:=tp []
noncomputable def o140 (P:Params):Obj:=tb []
noncomputable def o141 (P:Params):Obj:=tp [(sv "text" 379),(sv "base" 380),(sv "limits" 381),(sv "at" 382),(sv "is_below" 383),(sv "is_marked" 384),(sv "found" 385),(sv "end" 386)]
noncomputable def o142 (P:Params):Obj:=tp []
noncomputable def o143 (P:Params):Obj:=⟨.none,none,.func { name:="text_in_base",qualname:="text_in_base",params:=fArgs (stm 14),body:=.stmts (fBody (stm 14)),scope:=fScope (stm 14),globals:=0,closure:=[],defaults:=.none,kwdefaults:=.none,doc:=.none,pyModule:=.none,annotations:=none,code:=.none,closureTuple:=.none,builtins:=0 },#[]⟩
noncomputable def o144 (P:Params):Obj:=⟨(.type "code"),none,.fields #[(sv "text_in_base" 376),(sv "text_in_base" 377),(sv "/claim/cut.py" 378),(.int 66 0),(.int 3 0),(.int 0 0),(.int 0 0),(.int 3 0),(.ref 139),(.bool true),(.int 181 0),(.ref 140),.none,(.ref 141),(.ref 142),(.ref 143),(.int 387 0),(.int 66 0),(sv "/claim/cut.py" 388)],#[]⟩
noncomputable def o145 (P:Params):Obj:=⟨(.type "function"),none,.func { name:="text_in_base",qualname:="text_in_base",params:=fArgs (stm 14),body:=.stmts (fBody (stm 14)),scope:=fScope (stm 14),globals:=3,closure:=[],defaults:=.none,kwdefaults:=.none,doc:=.none,pyModule:=(sv "lua.values" 194),annotations:=none,code:=(.ref 144),closureTuple:=.none,builtins:=0 },#[]⟩
noncomputable def o146 (P:Params):Obj:=tp []
noncomputable def o147 (P:Params):Obj:=tb []
noncomputable def o148 (P:Params):Obj:=tp [(sv "n" 393),(sv "left" 394),(sv "found" 395)]
noncomputable def o149 (P:Params):Obj:=tp []
noncomputable def o150 (P:Params):Obj:=⟨.none,none,.func { name:="number_text",qualname:="number_text",params:=fArgs (stm 15),body:=.stmts (fBody (stm 15)),scope:=fScope (stm 15),globals:=0,closure:=[],defaults:=.none,kwdefaults:=.none,doc:=.none,pyModule:=.none,annotations:=none,code:=.none,closureTuple:=.none,builtins:=0 },#[]⟩
noncomputable def o151 (P:Params):Obj:=⟨(.type "code"),none,.fields #[(sv "number_text" 390),(sv "number_text" 391),(sv "/claim/cut.py" 392),(.int 78 0),(.int 1 0),(.int 0 0),(.int 0 0),(.int 3 0),(.ref 146),(.bool true),(.int 181 0),(.ref 147),.none,(.ref 148),(.ref 149),(.ref 150),(.int 396 0),(.int 78 0),(sv "/claim/cut.py" 397)],#[]⟩
noncomputable def o152 (P:Params):Obj:=⟨(.type "function"),none,.func { name:="number_text",qualname:="number_text",params:=fArgs (stm 15),body:=.stmts (fBody (stm 15)),scope:=fScope (stm 15),globals:=3,closure:=[],defaults:=.none,kwdefaults:=.none,doc:=.none,pyModule:=(sv "lua.values" 194),annotations:=none,code:=(.ref 151),closureTuple:=.none,builtins:=0 },#[]⟩
noncomputable def o153 (P:Params):Obj:=tp []
noncomputable def o154 (P:Params):Obj:=tb []
noncomputable def o155 (P:Params):Obj:=tp [(sv "value" 402)]
noncomputable def o156 (P:Params):Obj:=tp []
noncomputable def o157 (P:Params):Obj:=⟨.none,none,.func { name:="to_text",qualname:="to_text",params:=fArgs (stm 16),body:=.stmts (fBody (stm 16)),scope:=fScope (stm 16),globals:=0,closure:=[],defaults:=.none,kwdefaults:=.none,doc:=.none,pyModule:=.none,annotations:=none,code:=.none,closureTuple:=.none,builtins:=0 },#[]⟩
noncomputable def o158 (P:Params):Obj:=⟨(.type "code"),none,.fields #[(sv "to_text" 399),(sv "to_text" 400),(sv "/claim/cut.py" 401),(.int 88 0),(.int 1 0),(.int 0 0),(.int 0 0),(.int 3 0),(.ref 153),(.bool true),(.int 181 0),(.ref 154),.none,(.ref 155),(.ref 156),(.ref 157),(.int 403 0),(.int 88 0),(sv "/claim/cut.py" 404)],#[]⟩
noncomputable def o159 (P:Params):Obj:=⟨(.type "function"),none,.func { name:="to_text",qualname:="to_text",params:=fArgs (stm 16),body:=.stmts (fBody (stm 16)),scope:=fScope (stm 16),globals:=3,closure:=[],defaults:=.none,kwdefaults:=.none,doc:=.none,pyModule:=(sv "lua.values" 194),annotations:=none,code:=(.ref 158),closureTuple:=.none,builtins:=0 },#[]⟩
noncomputable def o160 (P:Params):Obj:=tp []
noncomputable def o161 (P:Params):Obj:=tb []
noncomputable def o162 (P:Params):Obj:=tp [(sv "text" 409),(sv "at" 410)]
noncomputable def o163 (P:Params):Obj:=tp []
noncomputable def o164 (P:Params):Obj:=⟨.none,none,.func { name:="c_text",qualname:="c_text",params:=fArgs (stm 17),body:=.stmts (fBody (stm 17)),scope:=fScope (stm 17),globals:=0,closure:=[],defaults:=.none,kwdefaults:=.none,doc:=.none,pyModule:=.none,annotations:=none,code:=.none,closureTuple:=.none,builtins:=0 },#[]⟩
noncomputable def o165 (P:Params):Obj:=⟨(.type "code"),none,.fields #[(sv "c_text" 406),(sv "c_text" 407),(sv "/claim/cut.py" 408),(.int 94 0),(.int 1 0),(.int 0 0),(.int 0 0),(.int 3 0),(.ref 160),(.bool true),(.int 181 0),(.ref 161),.none,(.ref 162),(.ref 163),(.ref 164),(.int 411 0),(.int 94 0),(sv "/claim/cut.py" 412)],#[]⟩
noncomputable def o166 (P:Params):Obj:=⟨(.type "function"),none,.func { name:="c_text",qualname:="c_text",params:=fArgs (stm 17),body:=.stmts (fBody (stm 17)),scope:=fScope (stm 17),globals:=3,closure:=[],defaults:=.none,kwdefaults:=.none,doc:=.none,pyModule:=(sv "lua.values" 194),annotations:=none,code:=(.ref 165),closureTuple:=.none,builtins:=0 },#[]⟩
noncomputable def o167 (P:Params):Obj:=tp []
noncomputable def o168 (P:Params):Obj:=tb []
noncomputable def o169 (P:Params):Obj:=tp [(sv "text" 417),(sv "at" 418)]
noncomputable def o170 (P:Params):Obj:=tp []
noncomputable def o171 (P:Params):Obj:=⟨.none,none,.func { name:="first_line",qualname:="first_line",params:=fArgs (stm 18),body:=.stmts (fBody (stm 18)),scope:=fScope (stm 18),globals:=0,closure:=[],defaults:=.none,kwdefaults:=.none,doc:=.none,pyModule:=.none,annotations:=none,code:=.none,closureTuple:=.none,builtins:=0 },#[]⟩
noncomputable def o172 (P:Params):Obj:=⟨(.type "code"),none,.fields #[(sv "first_line" 414),(sv "first_line" 415),(sv "/claim/cut.py" 416),(.int 99 0),(.int 1 0),(.int 0 0),(.int 0 0),(.int 3 0),(.ref 167),(.bool true),(.int 181 0),(.ref 168),.none,(.ref 169),(.ref 170),(.ref 171),(.int 419 0),(.int 99 0),(sv "/claim/cut.py" 420)],#[]⟩
noncomputable def o173 (P:Params):Obj:=⟨(.type "function"),none,.func { name:="first_line",qualname:="first_line",params:=fArgs (stm 18),body:=.stmts (fBody (stm 18)),scope:=fScope (stm 18),globals:=3,closure:=[],defaults:=.none,kwdefaults:=.none,doc:=.none,pyModule:=(sv "lua.values" 194),annotations:=none,code:=(.ref 172),closureTuple:=.none,builtins:=0 },#[]⟩
noncomputable def o174 (P:Params):Obj:=tp []
noncomputable def o175 (P:Params):Obj:=tb []
noncomputable def o176 (P:Params):Obj:=tp [(sv "source" 425),(sv "size" 426),(sv "room" 427),(sv "name" 428),(sv "line" 429)]
noncomputable def o177 (P:Params):Obj:=tp []
noncomputable def o178 (P:Params):Obj:=⟨.none,none,.func { name:="chunk_id",qualname:="chunk_id",params:=fArgs (stm 19),body:=.stmts (fBody (stm 19)),scope:=fScope (stm 19),globals:=0,closure:=[],defaults:=.none,kwdefaults:=.none,doc:=.none,pyModule:=.none,annotations:=none,code:=.none,closureTuple:=.none,builtins:=0 },#[]⟩
noncomputable def o179 (P:Params):Obj:=⟨(.type "code"),none,.fields #[(sv "chunk_id" 422),(sv "chunk_id" 423),(sv "/claim/cut.py" 424),(.int 104 0),(.int 2 0),(.int 0 0),(.int 0 0),(.int 3 0),(.ref 174),(.bool true),(.int 181 0),(.ref 175),.none,(.ref 176),(.ref 177),(.ref 178),(.int 430 0),(.int 104 0),(sv "/claim/cut.py" 431)],#[]⟩
noncomputable def o180 (P:Params):Obj:=⟨(.type "function"),none,.func { name:="chunk_id",qualname:="chunk_id",params:=fArgs (stm 19),body:=.stmts (fBody (stm 19)),scope:=fScope (stm 19),globals:=3,closure:=[],defaults:=.none,kwdefaults:=.none,doc:=.none,pyModule:=(sv "lua.values" 194),annotations:=none,code:=(.ref 179),closureTuple:=.none,builtins:=0 },#[]⟩
noncomputable def o181 (P:Params):Obj:=⟨(.type "list"),none,.seq #[(.bytes #[97,110,100] 440),(.bytes #[98,114,101,97,107] 441),(.bytes #[100,111] 442),(.bytes #[101,108,115,101] 443),(.bytes #[101,108,115,101,105,102] 444),(.bytes #[101,110,100] 445),(.bytes #[102,97,108,115,101] 446),(.bytes #[102,111,114] 447),(.bytes #[102,117,110,99,116,105,111,110] 448),(.bytes #[105,102] 449),(.bytes #[105,110] 450),(.bytes #[108,111,99,97,108] 451),(.bytes #[110,105,108] 452),(.bytes #[110,111,116] 453),(.bytes #[111,114] 454),(.bytes #[114,101,112,101,97,116] 455),(.bytes #[114,101,116,117,114,110] 456),(.bytes #[116,104,101,110] 457),(.bytes #[116,114,117,101] 458),(.bytes #[117,110,116,105,108] 459),(.bytes #[119,104,105,108,101] 460)] 0,#[]⟩
noncomputable def o182 (P:Params):Obj:=⟨(.type "list"),none,.seq #[(.bytes #[46,46] 482),(.bytes #[46,46,46] 483),(.bytes #[61,61] 484),(.bytes #[62,61] 485),(.bytes #[60,61] 486),(.bytes #[126,61] 487),(.bytes #[60,110,117,109,98,101,114,62] 488),(.bytes #[60,110,97,109,101,62] 489),(.bytes #[60,115,116,114,105,110,103,62] 490),(.bytes #[60,101,111,102,62] 491)] 0,#[]⟩
noncomputable def o183 (P:Params):Obj:=tp []
noncomputable def o184 (P:Params):Obj:=tb []
noncomputable def o185 (P:Params):Obj:=tp [(sv "sign" 530)]
noncomputable def o186 (P:Params):Obj:=tp []
noncomputable def o187 (P:Params):Obj:=⟨.none,none,.func { name:="is_digit",qualname:="is_digit",params:=fArgs (stm 52),body:=.stmts (fBody (stm 52)),scope:=fScope (stm 52),globals:=0,closure:=[],defaults:=.none,kwdefaults:=.none,doc:=.none,pyModule:=.none,annotations:=none,code:=.none,closureTuple:=.none,builtins:=0 },#[]⟩
noncomputable def o188 (P:Params):Obj:=⟨(.type "code"),none,.fields #[(sv "is_digit" 527),(sv "is_digit" 528),(sv "/claim/cut.py" 529),(.int 149 0),(.int 1 0),(.int 0 0),(.int 0 0),(.int 3 0),(.ref 183),(.bool true),(.int 181 0),(.ref 184),.none,(.ref 185),(.ref 186),(.ref 187),(.int 531 0),(.int 149 0),(sv "/claim/cut.py" 532)],#[]⟩
noncomputable def o189 (P:Params):Obj:=⟨(.type "function"),none,.func { name:="is_digit",qualname:="is_digit",params:=fArgs (stm 52),body:=.stmts (fBody (stm 52)),scope:=fScope (stm 52),globals:=3,closure:=[],defaults:=.none,kwdefaults:=.none,doc:=.none,pyModule:=(sv "lua.lexer" 433),annotations:=none,code:=(.ref 188),closureTuple:=.none,builtins:=0 },#[]⟩
noncomputable def o190 (P:Params):Obj:=tp []
noncomputable def o191 (P:Params):Obj:=tb []
noncomputable def o192 (P:Params):Obj:=tp [(sv "sign" 537)]
noncomputable def o193 (P:Params):Obj:=tp []
noncomputable def o194 (P:Params):Obj:=⟨.none,none,.func { name:="is_letter",qualname:="is_letter",params:=fArgs (stm 53),body:=.stmts (fBody (stm 53)),scope:=fScope (stm 53),globals:=0,closure:=[],defaults:=.none,kwdefaults:=.none,doc:=.none,pyModule:=.none,annotations:=none,code:=.none,closureTuple:=.none,builtins:=0 },#[]⟩
noncomputable def o195 (P:Params):Obj:=⟨(.type "code"),none,.fields #[(sv "is_letter" 534),(sv "is_letter" 535),(sv "/claim/cut.py" 536),(.int 151 0),(.int 1 0),(.int 0 0),(.int 0 0),(.int 3 0),(.ref 190),(.bool true),(.int 181 0),(.ref 191),.none,(.ref 192),(.ref 193),(.ref 194),(.int 538 0),(.int 151 0),(sv "/claim/cut.py" 539)],#[]⟩
noncomputable def o196 (P:Params):Obj:=⟨(.type "function"),none,.func { name:="is_letter",qualname:="is_letter",params:=fArgs (stm 53),body:=.stmts (fBody (stm 53)),scope:=fScope (stm 53),globals:=3,closure:=[],defaults:=.none,kwdefaults:=.none,doc:=.none,pyModule:=(sv "lua.lexer" 433),annotations:=none,code:=(.ref 195),closureTuple:=.none,builtins:=0 },#[]⟩
noncomputable def o197 (P:Params):Obj:=tp []
noncomputable def o198 (P:Params):Obj:=tb []
noncomputable def o199 (P:Params):Obj:=tp [(sv "sign" 544)]
noncomputable def o200 (P:Params):Obj:=tp []
noncomputable def o201 (P:Params):Obj:=⟨.none,none,.func { name:="is_name_sign",qualname:="is_name_sign",params:=fArgs (stm 54),body:=.stmts (fBody (stm 54)),scope:=fScope (stm 54),globals:=0,closure:=[],defaults:=.none,kwdefaults:=.none,doc:=.none,pyModule:=.none,annotations:=none,code:=.none,closureTuple:=.none,builtins:=0 },#[]⟩
noncomputable def o202 (P:Params):Obj:=⟨(.type "code"),none,.fields #[(sv "is_name_sign" 541),(sv "is_name_sign" 542),(sv "/claim/cut.py" 543),(.int 153 0),(.int 1 0),(.int 0 0),(.int 0 0),(.int 3 0),(.ref 197),(.bool true),(.int 181 0),(.ref 198),.none,(.ref 199),(.ref 200),(.ref 201),(.int 545 0),(.int 153 0),(sv "/claim/cut.py" 546)],#[]⟩
noncomputable def o203 (P:Params):Obj:=⟨(.type "function"),none,.func { name:="is_name_sign",qualname:="is_name_sign",params:=fArgs (stm 54),body:=.stmts (fBody (stm 54)),scope:=fScope (stm 54),globals:=3,closure:=[],defaults:=.none,kwdefaults:=.none,doc:=.none,pyModule:=(sv "lua.lexer" 433),annotations:=none,code:=(.ref 202),closureTuple:=.none,builtins:=0 },#[]⟩
noncomputable def o204 (P:Params):Obj:=tp []
noncomputable def o205 (P:Params):Obj:=tb []
noncomputable def o206 (P:Params):Obj:=tp [(sv "sign" 551)]
noncomputable def o207 (P:Params):Obj:=tp []
noncomputable def o208 (P:Params):Obj:=⟨.none,none,.func { name:="is_blank",qualname:="is_blank",params:=fArgs (stm 55),body:=.stmts (fBody (stm 55)),scope:=fScope (stm 55),globals:=0,closure:=[],defaults:=.none,kwdefaults:=.none,doc:=.none,pyModule:=.none,annotations:=none,code:=.none,closureTuple:=.none,builtins:=0 },#[]⟩
noncomputable def o209 (P:Params):Obj:=⟨(.type "code"),none,.fields #[(sv "is_blank" 548),(sv "is_blank" 549),(sv "/claim/cut.py" 550),(.int 155 0),(.int 1 0),(.int 0 0),(.int 0 0),(.int 3 0),(.ref 204),(.bool true),(.int 181 0),(.ref 205),.none,(.ref 206),(.ref 207),(.ref 208),(.int 552 0),(.int 155 0),(sv "/claim/cut.py" 553)],#[]⟩
noncomputable def o210 (P:Params):Obj:=⟨(.type "function"),none,.func { name:="is_blank",qualname:="is_blank",params:=fArgs (stm 55),body:=.stmts (fBody (stm 55)),scope:=fScope (stm 55),globals:=3,closure:=[],defaults:=.none,kwdefaults:=.none,doc:=.none,pyModule:=(sv "lua.lexer" 433),annotations:=none,code:=(.ref 209),closureTuple:=.none,builtins:=0 },#[]⟩
noncomputable def o211 (P:Params):Obj:=tp []
noncomputable def o212 (P:Params):Obj:=tb []
noncomputable def o213 (P:Params):Obj:=tp [(sv "sign" 559)]
noncomputable def o214 (P:Params):Obj:=tp []
noncomputable def o215 (P:Params):Obj:=⟨.none,none,.func { name:="is_control",qualname:="is_control",params:=fArgs (stm 57),body:=.stmts (fBody (stm 57)),scope:=fScope (stm 57),globals:=0,closure:=[],defaults:=.none,kwdefaults:=.none,doc:=.none,pyModule:=.none,annotations:=none,code:=.none,closureTuple:=.none,builtins:=0 },#[]⟩
noncomputable def o216 (P:Params):Obj:=⟨(.type "code"),none,.fields #[(sv "is_control" 556),(sv "is_control" 557),(sv "/claim/cut.py" 558),(.int 158 0),(.int 1 0),(.int 0 0),(.int 0 0),(.int 3 0),(.ref 211),(.bool true),(.int 181 0),(.ref 212),.none,(.ref 213),(.ref 214),(.ref 215),(.int 560 0),(.int 158 0),(sv "/claim/cut.py" 561)],#[]⟩
noncomputable def o217 (P:Params):Obj:=⟨(.type "function"),none,.func { name:="is_control",qualname:="is_control",params:=fArgs (stm 57),body:=.stmts (fBody (stm 57)),scope:=fScope (stm 57),globals:=3,closure:=[],defaults:=.none,kwdefaults:=.none,doc:=.none,pyModule:=(sv "lua.lexer" 433),annotations:=none,code:=(.ref 216),closureTuple:=.none,builtins:=0 },#[]⟩
noncomputable def o218 (P:Params):Obj:=tp []
noncomputable def o219 (P:Params):Obj:=tb []
noncomputable def o220 (P:Params):Obj:=tp [(sv "sign" 566)]
noncomputable def o221 (P:Params):Obj:=tp []
noncomputable def o222 (P:Params):Obj:=⟨.none,none,.func { name:="is_newline",qualname:="is_newline",params:=fArgs (stm 58),body:=.stmts (fBody (stm 58)),scope:=fScope (stm 58),globals:=0,closure:=[],defaults:=.none,kwdefaults:=.none,doc:=.none,pyModule:=.none,annotations:=none,code:=.none,closureTuple:=.none,builtins:=0 },#[]⟩
noncomputable def o223 (P:Params):Obj:=⟨(.type "code"),none,.fields #[(sv "is_newline" 563),(sv "is_newline" 564),(sv "/claim/cut.py" 565),(.int 160 0),(.int 1 0),(.int 0 0),(.int 0 0),(.int 3 0),(.ref 218),(.bool true),(.int 181 0),(.ref 219),.none,(.ref 220),(.ref 221),(.ref 222),(.int 567 0),(.int 160 0),(sv "/claim/cut.py" 568)],#[]⟩
noncomputable def o224 (P:Params):Obj:=⟨(.type "function"),none,.func { name:="is_newline",qualname:="is_newline",params:=fArgs (stm 58),body:=.stmts (fBody (stm 58)),scope:=fScope (stm 58),globals:=3,closure:=[],defaults:=.none,kwdefaults:=.none,doc:=.none,pyModule:=(sv "lua.lexer" 433),annotations:=none,code:=(.ref 223),closureTuple:=.none,builtins:=0 },#[]⟩
noncomputable def o225 (P:Params):Obj:=tp []
noncomputable def o226 (P:Params):Obj:=tb []
noncomputable def o227 (P:Params):Obj:=tp [(sv "sign" 573),(sv "at" 574)]
noncomputable def o228 (P:Params):Obj:=tp []
noncomputable def o229 (P:Params):Obj:=⟨.none,none,.func { name:="escaped_sign",qualname:="escaped_sign",params:=fArgs (stm 59),body:=.stmts (fBody (stm 59)),scope:=fScope (stm 59),globals:=0,closure:=[],defaults:=.none,kwdefaults:=.none,doc:=.none,pyModule:=.none,annotations:=none,code:=.none,closureTuple:=.none,builtins:=0 },#[]⟩
noncomputable def o230 (P:Params):Obj:=⟨(.type "code"),none,.fields #[(sv "escaped_sign" 570),(sv "escaped_sign" 571),(sv "/claim/cut.py" 572),(.int 162 0),(.int 1 0),(.int 0 0),(.int 0 0),(.int 3 0),(.ref 225),(.bool true),(.int 181 0),(.ref 226),.none,(.ref 227),(.ref 228),(.ref 229),(.int 575 0),(.int 162 0),(sv "/claim/cut.py" 576)],#[]⟩
noncomputable def o231 (P:Params):Obj:=⟨(.type "function"),none,.func { name:="escaped_sign",qualname:="escaped_sign",params:=fArgs (stm 59),body:=.stmts (fBody (stm 59)),scope:=fScope (stm 59),globals:=3,closure:=[],defaults:=.none,kwdefaults:=.none,doc:=.none,pyModule:=(sv "lua.lexer" 433),annotations:=none,code:=(.ref 230),closureTuple:=.none,builtins:=0 },#[]⟩
noncomputable def o232 (P:Params):Obj:=tp []
noncomputable def o233 (P:Params):Obj:=tb []
noncomputable def o234 (P:Params):Obj:=tp [(sv "kinds" 581),(sv "at" 582),(sv "word" 583)]
noncomputable def o235 (P:Params):Obj:=tp []
noncomputable def o236 (P:Params):Obj:=⟨.none,none,.func { name:="reserved_kinds",qualname:="reserved_kinds",params:=fArgs (stm 60),body:=.stmts (fBody (stm 60)),scope:=fScope (stm 60),globals:=0,closure:=[],defaults:=.none,kwdefaults:=.none,doc:=.none,pyModule:=.none,annotations:=none,code:=.none,closureTuple:=.none,builtins:=0 },#[]⟩
noncomputable def o237 (P:Params):Obj:=⟨(.type "code"),none,.fields #[(sv "reserved_kinds" 578),(sv "reserved_kinds" 579),(sv "/claim/cut.py" 580),(.int 165 0),(.int 0 0),(.int 0 0),(.int 0 0),(.int 3 0),(.ref 232),(.bool true),(.int 181 0),(.ref 233),.none,(.ref 234),(.ref 235),(.ref 236),(.int 584 0),(.int 165 0),(sv "/claim/cut.py" 585)],#[]⟩
noncomputable def o238 (P:Params):Obj:=⟨(.type "function"),none,.func { name:="reserved_kinds",qualname:="reserved_kinds",params:=fArgs (stm 60),body:=.stmts (fBody (stm 60)),scope:=fScope (stm 60),globals:=3,closure:=[],defaults:=.none,kwdefaults:=.none,doc:=.none,pyModule:=(sv "lua.lexer" 433),annotations:=none,code:=(.ref 237),closureTuple:=.none,builtins:=0 },#[]⟩
noncomputable def o239 (P:Params):Obj:=tp []
noncomputable def o240 (P:Params):Obj:=tb []
noncomputable def o241 (P:Params):Obj:=tp [(sv "kind" 590),(sv "at" 591)]
noncomputable def o242 (P:Params):Obj:=tp []
noncomputable def o243 (P:Params):Obj:=⟨.none,none,.func { name:="token_text",qualname:="token_text",params:=fArgs (stm 61),body:=.stmts (fBody (stm 61)),scope:=fScope (stm 61),globals:=0,closure:=[],defaults:=.none,kwdefaults:=.none,doc:=.none,pyModule:=.none,annotations:=none,code:=.none,closureTuple:=.none,builtins:=0 },#[]⟩
noncomputable def o244 (P:Params):Obj:=⟨(.type "code"),none,.fields #[(sv "token_text" 587),(sv "token_text" 588),(sv "/claim/cut.py" 589),(.int 170 0),(.int 1 0),(.int 0 0),(.int 0 0),(.int 3 0),(.ref 239),(.bool true),(.int 181 0),(.ref 240),.none,(.ref 241),(.ref 242),(.ref 243),(.int 592 0),(.int 170 0),(sv "/claim/cut.py" 593)],#[]⟩
noncomputable def o245 (P:Params):Obj:=⟨(.type "function"),none,.func { name:="token_text",qualname:="token_text",params:=fArgs (stm 61),body:=.stmts (fBody (stm 61)),scope:=fScope (stm 61),globals:=3,closure:=[],defaults:=.none,kwdefaults:=.none,doc:=.none,pyModule:=(sv "lua.lexer" 433),annotations:=none,code:=(.ref 244),closureTuple:=.none,builtins:=0 },#[]⟩
noncomputable def objs62 (P:Params):List Obj:=[boot_o_0 P,boot_o_1 P,o2v1 P,o3v1 P,boot_o_4 P,boot_o_5 P,boot_o_6 P,boot_o_7 P,boot_o_8 P,boot_o_9 P,boot_o_10 P,o11 P,o12v1 P,o13 P,o14 P,o15 P,o16 P,o17 P,o18 P,o19 P,o20 P,o21 P,o22 P,o23 P,o24 P,o25 P,o26 P,o27 P,o28 P,o29 P,o30 P,o31 P,o32 P,o33 P,o34 P,o35 P,o36 P,o37 P,o38 P,o39 P,o40 P,o41 P,o42 P,o43 P,o44 P,o45 P,o46 P,o47 P,o48 P,o49 P,o50 P,o51 P,o52 P,o53 P,o54 P,o55 P,o56 P,o57 P,o58 P,o59 P,o60 P,o61 P,o62 P,o63 P,o64 P,o65 P,o66 P,o67 P,o68 P,o69 P,o70 P,o71 P,o72 P,o73 P,o74 P,o75 P,o76 P,o77 P,o78 P,o79 P,o80 P,o81 P,o82 P,o83 P,o84 P,o85 P,o86 P,o87 P,o88 P,o89 P,o90 P,o91 P,o92 P,o93 P,o94 P,o95 P,o96 P,o97 P,o98 P,o99 P,o100 P,o101 P,o102 P,o103 P,o104 P,o105 P,o106 P,o107 P,o108 P,o109 P,o110 P,o111 P,o112 P,o113 P,o114 P,o115 P,o116 P,o117 P,o118 P,o119 P,o120 P,o121 P,o122 P,o123 P,o124 P,o125 P,o126 P,o127 P,o128 P,o129 P,o130 P,o131 P,o132 P,o133 P,o134 P,o135 P,o136 P,o137 P,o138 P,o139 P,o140 P,o141 P,o142 P,o143 P,o144 P,o145 P,o146 P,o147 P,o148 P,o149 P,o150 P,o151 P,o152 P,o153 P,o154 P,o155 P,o156 P,o157 P,o158 P,o159 P,o160 P,o161 P,o162 P,o163 P,o164 P,o165 P,o166 P,o167 P,o168 P,o169 P,o170 P,o171 P,o172 P,o173 P,o174 P,o175 P,o176 P,o177 P,o178 P,o179 P,o180 P,o181 P,o182 P,o183 P,o184 P,o185 P,o186 P,o187 P,o188 P,o189 P,o190 P,o191 P,o192 P,o193 P,o194 P,o195 P,o196 P,o197 P,o198 P,o199 P,o200 P,o201 P,o202 P,o203 P,o204 P,o205 P,o206 P,o207 P,o208 P,o209 P,o210 P,o211 P,o212 P,o213 P,o214 P,o215 P,o216 P,o217 P,o218 P,o219 P,o220 P,o221 P,o222 P,o223 P,o224 P,o225 P,o226 P,o227 P,o228 P,o229 P,o230 P,o231 P,o232 P,o233 P,o234 P,o235 P,o236 P,o237 P,o238 P,o239 P,o240 P,o241 P,o242 P,o243 P,o244 P,o245 P]
noncomputable def o3v2 (P:Params):Obj:=⟨(.type "dict"),none,.dict #[en P "__name__" 165 (sv "lua.lexer" 433),en P "__doc__" 166 .none,en P "__package__" 167 .none,en P "__loader__" 168 (.builtin "__main__.__loader__#opaque"),en P "__spec__" 169 .none,en P "__annotations__" 170 (.ref 6),en P "__builtins__" 171 (.ref 4),en P "__file__" 173 (sv "/claim/cut.py" 172),en P "__cached__" 174 .none,en P "_wall" 193 (.ref 21),en P "BLANKS" 197 (.bytes #[32,9,10,11,12,13] 196),en P "Limits" 268 (.ref 53),en P "LuaError" 299 (.ref 74),en P "LuaSyntaxError" 315 (.ref 87),en P "is_number" 322 (.ref 96),en P "wrap" 331 (.ref 103),en P "is_blank" 338 (.ref 210),en P "is_blank_values" 339 (.ref 110),en P "digit_of" 346 (.ref 117),en P "read_digits" 359 (.ref 124),en P "skip_blanks" 367 (.ref 131),en P "str_to_number" 375 (.ref 138),en P "text_in_base" 389 (.ref 145),en P "number_text" 398 (.ref 152),en P "to_text" 405 (.ref 159),en P "c_text" 413 (.ref 166),en P "first_line" 421 (.ref 173),en P "chunk_id" 432 (.ref 180),en P "END_OF_TEXT" 437 (.int (-1) 436),en P "FIRST_RESERVED" 439 (.int 257 438),en P "RESERVED" 461 (.ref 181),en P "TK_CONCAT" 463 (.int 278 462),en P "TK_DOTS" 465 (.int 279 464),en P "TK_EQ" 467 (.int 280 466),en P "TK_GE" 469 (.int 281 468),en P "TK_LE" 471 (.int 282 470),en P "TK_NE" 473 (.int 283 472),en P "TK_NUMBER" 475 (.int 284 474),en P "TK_NAME" 477 (.int 285 476),en P "TK_STRING" 479 (.int 286 478),en P "TK_EOS" 481 (.int 287 480),en P "OTHER_TEXTS" 492 (.ref 182),en P "SOURCE_SIZE" 494 (.int 80 493),en P "MOST_LINES" 496 (.int 2147483645 495),en P "NEWLINE" 498 (.int 10 497),en P "RETURN" 500 (.int 13 499),en P "QUOTE_DOUBLE" 502 (.int 34 501),en P "QUOTE_SINGLE" 504 (.int 39 503),en P "PLUS" 506 (.int 43 505),en P "MINUS" 508 (.int 45 507),en P "DOT" 510 (.int 46 509),en P "LESS" 512 (.int 60 511),en P "EQUALS" 514 (.int 61 513),en P "GREATER" 516 (.int 62 515),en P "BRACKET_OPEN" 518 (.int 91 517),en P "BACKSLASH" 520 (.int 92 519),en P "BRACKET_CLOSE" 522 (.int 93 521),en P "UNDERSCORE" 524 (.int 95 523),en P "TILDE" 526 (.int 126 525),en P "is_digit" 533 (.ref 189),en P "is_letter" 540 (.ref 196),en P "is_name_sign" 547 (.ref 203),en P "is_blank_lexer" 555 (.ref 210),en P "is_control" 562 (.ref 217),en P "is_newline" 569 (.ref 224),en P "escaped_sign" 577 (.ref 231),en P "reserved_kinds" 586 (.ref 238),en P "token_text" 594 (.ref 245),en P "Token" 625 (.ref 262)] 69,#[]⟩
noncomputable def o12v2 (P:Params):Obj:=tb [2,0,41,12,0,55,50,0,127,62,0,167,66,0,191,70,0,205,80,0,219,86,0,233,102,0,247,120,0,261,128,0,275,132,0,289,156,0,303,176,0,317,188,0,331,198,0,345,208,0,359,298,0,377,302,0,391,306,0,405,310,0,419,316,0,433,320,0,447,324,0,461,330,0,475,340,0,489,354,0,503]
noncomputable def o246 (P:Params):Obj:=tp []
noncomputable def o247 (P:Params):Obj:=⟨(.type "builtin_function_or_method"),none,.fields #[(.builtin "type.__prepare__"),(.type "type")],#[]⟩
noncomputable def o248 (P:Params):Obj:=⟨(.type "dict"),none,.dict #[en P "__module__" 602 (sv "lua.lexer" 433),en P "__qualname__" 604 (sv "Token" 603),en P "__firstlineno__" 606 (.int 177 605),en P "__init__" 615 (.ref 259),en P "__static_attributes__" 618 (.ref 260)] 5,#[]⟩
noncomputable def o249 (P:Params):Obj:=tp []
noncomputable def o250 (P:Params):Obj:=tb [358,8,517]
noncomputable def o251 (P:Params):Obj:=⟨(.type "code"),none,.fields #[(sv "Token" 597),(sv "Token" 598),(sv "/claim/cut.py" 599),(.int 177 0),(.int 0 0),(.int 0 0),(.int 0 0),(.int 0 0),(.ref 249),(.bool false),(.int 181 0),(.ref 250),.none,.none,.none,.none,(.int 600 0),(.int 177 0),(sv "/claim/cut.py" 601)],#[]⟩
noncomputable def o252 (P:Params):Obj:=⟨(.type "frame"),none,.plain,#[(some (.ref 251)),(some (.ref 3)),(some (.ref 248)),none,(some (sv "lua.lexer" 433)),none,(some (.ref 0))]⟩
noncomputable def o253 (P:Params):Obj:=tp []
noncomputable def o254 (P:Params):Obj:=tb []
noncomputable def o255 (P:Params):Obj:=tp [(sv "self" 610),(sv "kind" 611),(sv "value" 612)]
noncomputable def o256 (P:Params):Obj:=tp []
noncomputable def o257 (P:Params):Obj:=⟨.none,none,.func { name:="__init__",qualname:="Token.__init__",params:=fArgs (stc 62 0),body:=.stmts (fBody (stc 62 0)),scope:=fScope (stc 62 0),globals:=0,closure:=[],defaults:=.none,kwdefaults:=.none,doc:=.none,pyModule:=.none,annotations:=none,code:=.none,closureTuple:=.none,builtins:=0 },#[]⟩
noncomputable def o258 (P:Params):Obj:=⟨(.type "code"),none,.fields #[(sv "__init__" 607),(sv "Token.__init__" 608),(sv "/claim/cut.py" 609),(.int 179 0),(.int 3 0),(.int 0 0),(.int 0 0),(.int 3 0),(.ref 253),(.bool true),(.int 181 0),(.ref 254),.none,(.ref 255),(.ref 256),(.ref 257),(.int 613 0),(.int 179 0),(sv "/claim/cut.py" 614)],#[]⟩
noncomputable def o259 (P:Params):Obj:=⟨(.type "function"),none,.func { name:="__init__",qualname:="Token.__init__",params:=fArgs (stc 62 0),body:=.stmts (fBody (stc 62 0)),scope:=fScope (stc 62 0),globals:=3,closure:=[],defaults:=.none,kwdefaults:=.none,doc:=.none,pyModule:=(sv "lua.lexer" 433),annotations:=none,code:=(.ref 258),closureTuple:=.none,builtins:=0 },#[]⟩
noncomputable def o260 (P:Params):Obj:=tp [(sv "kind" 616),(sv "value" 617)]
noncomputable def o261 (P:Params):Obj:=⟨(.type "dict"),none,.dict #[en P "__module__" 602 (sv "lua.lexer" 433),en P "__firstlineno__" 606 (.int 177 605),en P "__init__" 615 (.ref 259),en P "__static_attributes__" 618 (.ref 260),en P "__dict__" 620 (.ref 263),en P "__weakref__" 622 (.ref 264),en P "__doc__" 623 .none] 4,#[]⟩
noncomputable def o262 (P:Params):Obj:=⟨(.type "type"),none,.cls { name:="Token",bases:=[(.type "object")],mro:=[(.ref 262),(.type "object")],ns:=261,qualname:="Token",hasDict:=true,slotNames:=[],subclasses:=[],abstract:=false,collection:=none,hasDel:=false },#[none,none,(some (sv "Token" 595)),(some (sv "Token" 603)),(some (.builtin "object.__new__")),(some (.bool true))]⟩
noncomputable def o263 (P:Params):Obj:=⟨(.type "getset_descriptor"),none,.fields #[(sv "__dict__" 619),(.ref 262),(.builtin "function.__dict__"),(.builtin "function.__dict__#set")],#[]⟩
noncomputable def o264 (P:Params):Obj:=⟨(.type "getset_descriptor"),none,.fields #[(sv "__weakref__" 621),(.ref 262),(.builtin "ExceptionGroup.__weakref__"),.none],#[]⟩
noncomputable def o265 (P:Params):Obj:=⟨(.type "super"),none,.fields #[(.ref 262),(.ref 262),(.ref 262)],#[]⟩
noncomputable def o266 (P:Params):Obj:=⟨(.type "builtin_function_or_method"),none,.fields #[(.builtin "object.__init_subclass__"),(.ref 262)],#[]⟩
noncomputable def objs63 (P:Params):List Obj:=[boot_o_0 P,boot_o_1 P,o2v1 P,o3v2 P,boot_o_4 P,boot_o_5 P,boot_o_6 P,boot_o_7 P,boot_o_8 P,boot_o_9 P,boot_o_10 P,o11 P,o12v2 P,o13 P,o14 P,o15 P,o16 P,o17 P,o18 P,o19 P,o20 P,o21 P,o22 P,o23 P,o24 P,o25 P,o26 P,o27 P,o28 P,o29 P,o30 P,o31 P,o32 P,o33 P,o34 P,o35 P,o36 P,o37 P,o38 P,o39 P,o40 P,o41 P,o42 P,o43 P,o44 P,o45 P,o46 P,o47 P,o48 P,o49 P,o50 P,o51 P,o52 P,o53 P,o54 P,o55 P,o56 P,o57 P,o58 P,o59 P,o60 P,o61 P,o62 P,o63 P,o64 P,o65 P,o66 P,o67 P,o68 P,o69 P,o70 P,o71 P,o72 P,o73 P,o74 P,o75 P,o76 P,o77 P,o78 P,o79 P,o80 P,o81 P,o82 P,o83 P,o84 P,o85 P,o86 P,o87 P,o88 P,o89 P,o90 P,o91 P,o92 P,o93 P,o94 P,o95 P,o96 P,o97 P,o98 P,o99 P,o100 P,o101 P,o102 P,o103 P,o104 P,o105 P,o106 P,o107 P,o108 P,o109 P,o110 P,o111 P,o112 P,o113 P,o114 P,o115 P,o116 P,o117 P,o118 P,o119 P,o120 P,o121 P,o122 P,o123 P,o124 P,o125 P,o126 P,o127 P,o128 P,o129 P,o130 P,o131 P,o132 P,o133 P,o134 P,o135 P,o136 P,o137 P,o138 P,o139 P,o140 P,o141 P,o142 P,o143 P,o144 P,o145 P,o146 P,o147 P,o148 P,o149 P,o150 P,o151 P,o152 P,o153 P,o154 P,o155 P,o156 P,o157 P,o158 P,o159 P,o160 P,o161 P,o162 P,o163 P,o164 P,o165 P,o166 P,o167 P,o168 P,o169 P,o170 P,o171 P,o172 P,o173 P,o174 P,o175 P,o176 P,o177 P,o178 P,o179 P,o180 P,o181 P,o182 P,o183 P,o184 P,o185 P,o186 P,o187 P,o188 P,o189 P,o190 P,o191 P,o192 P,o193 P,o194 P,o195 P,o196 P,o197 P,o198 P,o199 P,o200 P,o201 P,o202 P,o203 P,o204 P,o205 P,o206 P,o207 P,o208 P,o209 P,o210 P,o211 P,o212 P,o213 P,o214 P,o215 P,o216 P,o217 P,o218 P,o219 P,o220 P,o221 P,o222 P,o223 P,o224 P,o225 P,o226 P,o227 P,o228 P,o229 P,o230 P,o231 P,o232 P,o233 P,o234 P,o235 P,o236 P,o237 P,o238 P,o239 P,o240 P,o241 P,o242 P,o243 P,o244 P,o245 P,o246 P,o247 P,o248 P,o249 P,o250 P,o251 P,o252 P,o253 P,o254 P,o255 P,o256 P,o257 P,o258 P,o259 P,o260 P,o261 P,o262 P,o263 P,o264 P,o265 P,o266 P]
noncomputable def o3v3 (P:Params):Obj:=⟨(.type "dict"),none,.dict #[en P "__name__" 165 (sv "law_rr0064_01" 887),en P "__doc__" 166 .none,en P "__package__" 167 .none,en P "__loader__" 168 (.builtin "__main__.__loader__#opaque"),en P "__spec__" 169 .none,en P "__annotations__" 170 (.ref 6),en P "__builtins__" 171 (.ref 4),en P "__file__" 173 (sv "/claim/cut.py" 172),en P "__cached__" 174 .none,en P "_wall" 193 (.ref 21),en P "BLANKS" 197 (.bytes #[32,9,10,11,12,13] 196),en P "Limits" 268 (.ref 53),en P "LuaError" 299 (.ref 74),en P "LuaSyntaxError" 315 (.ref 87),en P "is_number" 322 (.ref 96),en P "wrap" 331 (.ref 103),en P "is_blank" 338 (.ref 210),en P "is_blank_values" 339 (.ref 110),en P "digit_of" 346 (.ref 117),en P "read_digits" 359 (.ref 124),en P "skip_blanks" 367 (.ref 131),en P "str_to_number" 375 (.ref 138),en P "text_in_base" 389 (.ref 145),en P "number_text" 398 (.ref 152),en P "to_text" 405 (.ref 159),en P "c_text" 413 (.ref 166),en P "first_line" 421 (.ref 173),en P "chunk_id" 432 (.ref 180),en P "END_OF_TEXT" 437 (.int (-1) 436),en P "FIRST_RESERVED" 439 (.int 257 438),en P "RESERVED" 461 (.ref 181),en P "TK_CONCAT" 463 (.int 278 462),en P "TK_DOTS" 465 (.int 279 464),en P "TK_EQ" 467 (.int 280 466),en P "TK_GE" 469 (.int 281 468),en P "TK_LE" 471 (.int 282 470),en P "TK_NE" 473 (.int 283 472),en P "TK_NUMBER" 475 (.int 284 474),en P "TK_NAME" 477 (.int 285 476),en P "TK_STRING" 479 (.int 286 478),en P "TK_EOS" 481 (.int 287 480),en P "OTHER_TEXTS" 492 (.ref 182),en P "SOURCE_SIZE" 494 (.int 80 493),en P "MOST_LINES" 496 (.int 2147483645 495),en P "NEWLINE" 498 (.int 10 497),en P "RETURN" 500 (.int 13 499),en P "QUOTE_DOUBLE" 502 (.int 34 501),en P "QUOTE_SINGLE" 504 (.int 39 503),en P "PLUS" 506 (.int 43 505),en P "MINUS" 508 (.int 45 507),en P "DOT" 510 (.int 46 509),en P "LESS" 512 (.int 60 511),en P "EQUALS" 514 (.int 61 513),en P "GREATER" 516 (.int 62 515),en P "BRACKET_OPEN" 518 (.int 91 517),en P "BACKSLASH" 520 (.int 92 519),en P "BRACKET_CLOSE" 522 (.int 93 521),en P "UNDERSCORE" 524 (.int 95 523),en P "TILDE" 526 (.int 126 525),en P "is_digit" 533 (.ref 189),en P "is_letter" 540 (.ref 196),en P "is_name_sign" 547 (.ref 203),en P "is_blank_lexer" 555 (.ref 210),en P "is_control" 562 (.ref 217),en P "is_newline" 569 (.ref 224),en P "escaped_sign" 577 (.ref 231),en P "reserved_kinds" 586 (.ref 238),en P "token_text" 594 (.ref 245),en P "Token" 625 (.ref 262),en P "Lexer" 874 (.ref 465),en P "all_tokens" 886 (.ref 476),en P "_law_pieces" 913 (.ref 477),en P "_law_shown" 920 (.ref 484),en P "_law_plain" 930 (.ref 491),en P "_law_peeked" 936 (.ref 496),en P "law" 942 (.ref 501)] 76,#[]⟩
noncomputable def o12v3 (P:Params):Obj:=tb [2,0,41,12,0,55,50,0,127,62,0,167,66,0,191,70,0,205,80,0,219,86,0,233,102,0,247,120,0,261,128,0,275,132,0,289,156,0,303,176,0,317,188,0,331,198,0,345,208,0,359,298,0,377,302,0,391,306,0,405,310,0,419,316,0,433,320,0,447,324,0,461,330,0,475,340,0,489,354,0,503,364,0,545,870,0,951,888,0,967,892,0,981,908,0,991,946,0,1001]
noncomputable def o267 (P:Params):Obj:=tp []
noncomputable def o268 (P:Params):Obj:=⟨(.type "builtin_function_or_method"),none,.fields #[(.builtin "type.__prepare__"),(.type "type")],#[]⟩
noncomputable def o269 (P:Params):Obj:=⟨(.type "dict"),none,.dict #[en P "__module__" 633 (sv "lua.lexer" 433),en P "__qualname__" 635 (sv "Lexer" 634),en P "__firstlineno__" 637 (.int 182 636),en P "__init__" 647 (.ref 280),en P "next" 654 (.ref 287),en P "lookahead" 661 (.ref 294),en P "error" 671 (.ref 301),en P "syntax_error" 679 (.ref 308),en P "near_text" 687 (.ref 315),en P "move" 694 (.ref 322),en P "keep" 702 (.ref 329),en P "keep_and_move" 709 (.ref 336),en P "keep_if" 717 (.ref 343),en P "clear" 724 (.ref 350),en P "end_line" 732 (.ref 357),en P "read" 740 (.ref 364),en P "skip_blank" 747 (.ref 371),en P "sign_behind" 754 (.ref 378),en P "skip_comment" 762 (.ref 385),en P "read_compared" 770 (.ref 392),en P "read_dots" 777 (.ref 399),en P "read_word" 786 (.ref 406),en P "read_numeral" 794 (.ref 413),en P "read_bracket" 802 (.ref 420),en P "read_level" 811 (.ref 427),en P "read_long" 821 (.ref 434),en P "read_inner" 829 (.ref 441),en P "read_string" 837 (.ref 448),en P "read_escape" 845 (.ref 455),en P "read_digits" 854 (.ref 462),en P "__static_attributes__" 867 (.ref 463)] 31,#[]⟩
noncomputable def o270 (P:Params):Obj:=tp []
noncomputable def o271 (P:Params):Obj:=tb [368,8,559,396,8,573,414,8,587,424,8,601,436,8,615,442,8,629,452,8,643,460,8,657,470,8,671,478,8,685,490,8,699,496,8,713,514,8,727,564,8,741,588,8,755,594,8,769,620,8,783,642,8,797,662,8,811,676,8,825,700,8,839,716,8,853,734,8,867,782,8,881,794,8,895,824,8,909,852,8,923]
noncomputable def o272 (P:Params):Obj:=⟨(.type "code"),none,.fields #[(sv "Lexer" 628),(sv "Lexer" 629),(sv "/claim/cut.py" 630),(.int 182 0),(.int 0 0),(.int 0 0),(.int 0 0),(.int 0 0),(.ref 270),(.bool false),(.int 181 0),(.ref 271),.none,.none,.none,.none,(.int 631 0),(.int 182 0),(sv "/claim/cut.py" 632)],#[]⟩
noncomputable def o273 (P:Params):Obj:=⟨(.type "frame"),none,.plain,#[(some (.ref 272)),(some (.ref 3)),(some (.ref 269)),none,(some (sv "lua.lexer" 433)),none,(some (.ref 0))]⟩
noncomputable def o274 (P:Params):Obj:=tp []
noncomputable def o275 (P:Params):Obj:=tb []
noncomputable def o276 (P:Params):Obj:=tp [(sv "self" 641),(sv "text" 642),(sv "chunk" 643),(sv "limits" 644)]
noncomputable def o277 (P:Params):Obj:=tp []
noncomputable def o278 (P:Params):Obj:=⟨.none,none,.func { name:="__init__",qualname:="Lexer.__init__",params:=fArgs (stc 63 0),body:=.stmts (fBody (stc 63 0)),scope:=fScope (stc 63 0),globals:=0,closure:=[],defaults:=.none,kwdefaults:=.none,doc:=.none,pyModule:=.none,annotations:=none,code:=.none,closureTuple:=.none,builtins:=0 },#[]⟩
noncomputable def o279 (P:Params):Obj:=⟨(.type "code"),none,.fields #[(sv "__init__" 638),(sv "Lexer.__init__" 639),(sv "/claim/cut.py" 640),(.int 184 0),(.int 4 0),(.int 0 0),(.int 0 0),(.int 3 0),(.ref 274),(.bool true),(.int 181 0),(.ref 275),.none,(.ref 276),(.ref 277),(.ref 278),(.int 645 0),(.int 184 0),(sv "/claim/cut.py" 646)],#[]⟩
noncomputable def o280 (P:Params):Obj:=⟨(.type "function"),none,.func { name:="__init__",qualname:="Lexer.__init__",params:=fArgs (stc 63 0),body:=.stmts (fBody (stc 63 0)),scope:=fScope (stc 63 0),globals:=3,closure:=[],defaults:=.none,kwdefaults:=.none,doc:=.none,pyModule:=(sv "lua.lexer" 433),annotations:=none,code:=(.ref 279),closureTuple:=.none,builtins:=0 },#[]⟩
noncomputable def o281 (P:Params):Obj:=tp []
noncomputable def o282 (P:Params):Obj:=tb []
noncomputable def o283 (P:Params):Obj:=tp [(sv "self" 651)]
noncomputable def o284 (P:Params):Obj:=tp []
noncomputable def o285 (P:Params):Obj:=⟨.none,none,.func { name:="next",qualname:="Lexer.next",params:=fArgs (stc 63 1),body:=.stmts (fBody (stc 63 1)),scope:=fScope (stc 63 1),globals:=0,closure:=[],defaults:=.none,kwdefaults:=.none,doc:=.none,pyModule:=.none,annotations:=none,code:=.none,closureTuple:=.none,builtins:=0 },#[]⟩
noncomputable def o286 (P:Params):Obj:=⟨(.type "code"),none,.fields #[(sv "next" 648),(sv "Lexer.next" 649),(sv "/claim/cut.py" 650),(.int 198 0),(.int 1 0),(.int 0 0),(.int 0 0),(.int 3 0),(.ref 281),(.bool true),(.int 181 0),(.ref 282),.none,(.ref 283),(.ref 284),(.ref 285),(.int 652 0),(.int 198 0),(sv "/claim/cut.py" 653)],#[]⟩
noncomputable def o287 (P:Params):Obj:=⟨(.type "function"),none,.func { name:="next",qualname:="Lexer.next",params:=fArgs (stc 63 1),body:=.stmts (fBody (stc 63 1)),scope:=fScope (stc 63 1),globals:=3,closure:=[],defaults:=.none,kwdefaults:=.none,doc:=.none,pyModule:=(sv "lua.lexer" 433),annotations:=none,code:=(.ref 286),closureTuple:=.none,builtins:=0 },#[]⟩
noncomputable def o288 (P:Params):Obj:=tp []
noncomputable def o289 (P:Params):Obj:=tb []
noncomputable def o290 (P:Params):Obj:=tp [(sv "self" 658)]
noncomputable def o291 (P:Params):Obj:=tp []
noncomputable def o292 (P:Params):Obj:=⟨.none,none,.func { name:="lookahead",qualname:="Lexer.lookahead",params:=fArgs (stc 63 2),body:=.stmts (fBody (stc 63 2)),scope:=fScope (stc 63 2),globals:=0,closure:=[],defaults:=.none,kwdefaults:=.none,doc:=.none,pyModule:=.none,annotations:=none,code:=.none,closureTuple:=.none,builtins:=0 },#[]⟩
noncomputable def o293 (P:Params):Obj:=⟨(.type "code"),none,.fields #[(sv "lookahead" 655),(sv "Lexer.lookahead" 656),(sv "/claim/cut.py" 657),(.int 207 0),(.int 1 0),(.int 0 0),(.int 0 0),(.int 3 0),(.ref 288),(.bool true),(.int 181 0),(.ref 289),.none,(.ref 290),(.ref 291),(.ref 292),(.int 659 0),(.int 207 0),(sv "/claim/cut.py" 660)],#[]⟩
noncomputable def o294 (P:Params):Obj:=⟨(.type "function"),none,.func { name:="lookahead",qualname:="Lexer.lookahead",params:=fArgs (stc 63 2),body:=.stmts (fBody (stc 63 2)),scope:=fScope (stc 63 2),globals:=3,closure:=[],defaults:=.none,kwdefaults:=.none,doc:=.none,pyModule:=(sv "lua.lexer" 433),annotations:=none,code:=(.ref 293),closureTuple:=.none,builtins:=0 },#[]⟩
noncomputable def o295 (P:Params):Obj:=tp []
noncomputable def o296 (P:Params):Obj:=tb []
noncomputable def o297 (P:Params):Obj:=tp [(sv "self" 665),(sv "text" 666),(sv "kind" 667),(sv "message" 668)]
noncomputable def o298 (P:Params):Obj:=tp []
noncomputable def o299 (P:Params):Obj:=⟨.none,none,.func { name:="error",qualname:="Lexer.error",params:=fArgs (stc 63 3),body:=.stmts (fBody (stc 63 3)),scope:=fScope (stc 63 3),globals:=0,closure:=[],defaults:=.none,kwdefaults:=.none,doc:=.none,pyModule:=.none,annotations:=none,code:=.none,closureTuple:=.none,builtins:=0 },#[]⟩
noncomputable def o300 (P:Params):Obj:=⟨(.type "code"),none,.fields #[(sv "error" 662),(sv "Lexer.error" 663),(sv "/claim/cut.py" 664),(.int 212 0),(.int 3 0),(.int 0 0),(.int 0 0),(.int 3 0),(.ref 295),(.bool true),(.int 181 0),(.ref 296),.none,(.ref 297),(.ref 298),(.ref 299),(.int 669 0),(.int 212 0),(sv "/claim/cut.py" 670)],#[]⟩
noncomputable def o301 (P:Params):Obj:=⟨(.type "function"),none,.func { name:="error",qualname:="Lexer.error",params:=fArgs (stc 63 3),body:=.stmts (fBody (stc 63 3)),scope:=fScope (stc 63 3),globals:=3,closure:=[],defaults:=.none,kwdefaults:=.none,doc:=.none,pyModule:=(sv "lua.lexer" 433),annotations:=none,code:=(.ref 300),closureTuple:=.none,builtins:=0 },#[]⟩
noncomputable def o302 (P:Params):Obj:=tp []
noncomputable def o303 (P:Params):Obj:=tb []
noncomputable def o304 (P:Params):Obj:=tp [(sv "self" 675),(sv "text" 676)]
noncomputable def o305 (P:Params):Obj:=tp []
noncomputable def o306 (P:Params):Obj:=⟨.none,none,.func { name:="syntax_error",qualname:="Lexer.syntax_error",params:=fArgs (stc 63 4),body:=.stmts (fBody (stc 63 4)),scope:=fScope (stc 63 4),globals:=0,closure:=[],defaults:=.none,kwdefaults:=.none,doc:=.none,pyModule:=.none,annotations:=none,code:=.none,closureTuple:=.none,builtins:=0 },#[]⟩
noncomputable def o307 (P:Params):Obj:=⟨(.type "code"),none,.fields #[(sv "syntax_error" 672),(sv "Lexer.syntax_error" 673),(sv "/claim/cut.py" 674),(.int 218 0),(.int 2 0),(.int 0 0),(.int 0 0),(.int 3 0),(.ref 302),(.bool true),(.int 181 0),(.ref 303),.none,(.ref 304),(.ref 305),(.ref 306),(.int 677 0),(.int 218 0),(sv "/claim/cut.py" 678)],#[]⟩
noncomputable def o308 (P:Params):Obj:=⟨(.type "function"),none,.func { name:="syntax_error",qualname:="Lexer.syntax_error",params:=fArgs (stc 63 4),body:=.stmts (fBody (stc 63 4)),scope:=fScope (stc 63 4),globals:=3,closure:=[],defaults:=.none,kwdefaults:=.none,doc:=.none,pyModule:=(sv "lua.lexer" 433),annotations:=none,code:=(.ref 307),closureTuple:=.none,builtins:=0 },#[]⟩
noncomputable def o309 (P:Params):Obj:=tp []
noncomputable def o310 (P:Params):Obj:=tb []
noncomputable def o311 (P:Params):Obj:=tp [(sv "self" 683),(sv "kind" 684)]
noncomputable def o312 (P:Params):Obj:=tp []
noncomputable def o313 (P:Params):Obj:=⟨.none,none,.func { name:="near_text",qualname:="Lexer.near_text",params:=fArgs (stc 63 5),body:=.stmts (fBody (stc 63 5)),scope:=fScope (stc 63 5),globals:=0,closure:=[],defaults:=.none,kwdefaults:=.none,doc:=.none,pyModule:=.none,annotations:=none,code:=.none,closureTuple:=.none,builtins:=0 },#[]⟩
noncomputable def o314 (P:Params):Obj:=⟨(.type "code"),none,.fields #[(sv "near_text" 680),(sv "Lexer.near_text" 681),(sv "/claim/cut.py" 682),(.int 221 0),(.int 2 0),(.int 0 0),(.int 0 0),(.int 3 0),(.ref 309),(.bool true),(.int 181 0),(.ref 310),.none,(.ref 311),(.ref 312),(.ref 313),(.int 685 0),(.int 221 0),(sv "/claim/cut.py" 686)],#[]⟩
noncomputable def o315 (P:Params):Obj:=⟨(.type "function"),none,.func { name:="near_text",qualname:="Lexer.near_text",params:=fArgs (stc 63 5),body:=.stmts (fBody (stc 63 5)),scope:=fScope (stc 63 5),globals:=3,closure:=[],defaults:=.none,kwdefaults:=.none,doc:=.none,pyModule:=(sv "lua.lexer" 433),annotations:=none,code:=(.ref 314),closureTuple:=.none,builtins:=0 },#[]⟩
noncomputable def o316 (P:Params):Obj:=tp []
noncomputable def o317 (P:Params):Obj:=tb []
noncomputable def o318 (P:Params):Obj:=tp [(sv "self" 691)]
noncomputable def o319 (P:Params):Obj:=tp []
noncomputable def o320 (P:Params):Obj:=⟨.none,none,.func { name:="move",qualname:="Lexer.move",params:=fArgs (stc 63 6),body:=.stmts (fBody (stc 63 6)),scope:=fScope (stc 63 6),globals:=0,closure:=[],defaults:=.none,kwdefaults:=.none,doc:=.none,pyModule:=.none,annotations:=none,code:=.none,closureTuple:=.none,builtins:=0 },#[]⟩
noncomputable def o321 (P:Params):Obj:=⟨(.type "code"),none,.fields #[(sv "move" 688),(sv "Lexer.move" 689),(sv "/claim/cut.py" 690),(.int 226 0),(.int 1 0),(.int 0 0),(.int 0 0),(.int 3 0),(.ref 316),(.bool true),(.int 181 0),(.ref 317),.none,(.ref 318),(.ref 319),(.ref 320),(.int 692 0),(.int 226 0),(sv "/claim/cut.py" 693)],#[]⟩
noncomputable def o322 (P:Params):Obj:=⟨(.type "function"),none,.func { name:="move",qualname:="Lexer.move",params:=fArgs (stc 63 6),body:=.stmts (fBody (stc 63 6)),scope:=fScope (stc 63 6),globals:=3,closure:=[],defaults:=.none,kwdefaults:=.none,doc:=.none,pyModule:=(sv "lua.lexer" 433),annotations:=none,code:=(.ref 321),closureTuple:=.none,builtins:=0 },#[]⟩
noncomputable def o323 (P:Params):Obj:=tp []
noncomputable def o324 (P:Params):Obj:=tb []
noncomputable def o325 (P:Params):Obj:=tp [(sv "self" 698),(sv "sign" 699)]
noncomputable def o326 (P:Params):Obj:=tp []
noncomputable def o327 (P:Params):Obj:=⟨.none,none,.func { name:="keep",qualname:="Lexer.keep",params:=fArgs (stc 63 7),body:=.stmts (fBody (stc 63 7)),scope:=fScope (stc 63 7),globals:=0,closure:=[],defaults:=.none,kwdefaults:=.none,doc:=.none,pyModule:=.none,annotations:=none,code:=.none,closureTuple:=.none,builtins:=0 },#[]⟩
noncomputable def o328 (P:Params):Obj:=⟨(.type "code"),none,.fields #[(sv "keep" 695),(sv "Lexer.keep" 696),(sv "/claim/cut.py" 697),(.int 230 0),(.int 2 0),(.int 0 0),(.int 0 0),(.int 3 0),(.ref 323),(.bool true),(.int 181 0),(.ref 324),.none,(.ref 325),(.ref 326),(.ref 327),(.int 700 0),(.int 230 0),(sv "/claim/cut.py" 701)],#[]⟩
noncomputable def o329 (P:Params):Obj:=⟨(.type "function"),none,.func { name:="keep",qualname:="Lexer.keep",params:=fArgs (stc 63 7),body:=.stmts (fBody (stc 63 7)),scope:=fScope (stc 63 7),globals:=3,closure:=[],defaults:=.none,kwdefaults:=.none,doc:=.none,pyModule:=(sv "lua.lexer" 433),annotations:=none,code:=(.ref 328),closureTuple:=.none,builtins:=0 },#[]⟩
noncomputable def o330 (P:Params):Obj:=tp []
noncomputable def o331 (P:Params):Obj:=tb []
noncomputable def o332 (P:Params):Obj:=tp [(sv "self" 706)]
noncomputable def o333 (P:Params):Obj:=tp []
noncomputable def o334 (P:Params):Obj:=⟨.none,none,.func { name:="keep_and_move",qualname:="Lexer.keep_and_move",params:=fArgs (stc 63 8),body:=.stmts (fBody (stc 63 8)),scope:=fScope (stc 63 8),globals:=0,closure:=[],defaults:=.none,kwdefaults:=.none,doc:=.none,pyModule:=.none,annotations:=none,code:=.none,closureTuple:=.none,builtins:=0 },#[]⟩
noncomputable def o335 (P:Params):Obj:=⟨(.type "code"),none,.fields #[(sv "keep_and_move" 703),(sv "Lexer.keep_and_move" 704),(sv "/claim/cut.py" 705),(.int 235 0),(.int 1 0),(.int 0 0),(.int 0 0),(.int 3 0),(.ref 330),(.bool true),(.int 181 0),(.ref 331),.none,(.ref 332),(.ref 333),(.ref 334),(.int 707 0),(.int 235 0),(sv "/claim/cut.py" 708)],#[]⟩
noncomputable def o336 (P:Params):Obj:=⟨(.type "function"),none,.func { name:="keep_and_move",qualname:="Lexer.keep_and_move",params:=fArgs (stc 63 8),body:=.stmts (fBody (stc 63 8)),scope:=fScope (stc 63 8),globals:=3,closure:=[],defaults:=.none,kwdefaults:=.none,doc:=.none,pyModule:=(sv "lua.lexer" 433),annotations:=none,code:=(.ref 335),closureTuple:=.none,builtins:=0 },#[]⟩
noncomputable def o337 (P:Params):Obj:=tp []
noncomputable def o338 (P:Params):Obj:=tb []
noncomputable def o339 (P:Params):Obj:=tp [(sv "self" 713),(sv "signs" 714)]
noncomputable def o340 (P:Params):Obj:=tp []
noncomputable def o341 (P:Params):Obj:=⟨.none,none,.func { name:="keep_if",qualname:="Lexer.keep_if",params:=fArgs (stc 63 9),body:=.stmts (fBody (stc 63 9)),scope:=fScope (stc 63 9),globals:=0,closure:=[],defaults:=.none,kwdefaults:=.none,doc:=.none,pyModule:=.none,annotations:=none,code:=.none,closureTuple:=.none,builtins:=0 },#[]⟩
noncomputable def o342 (P:Params):Obj:=⟨(.type "code"),none,.fields #[(sv "keep_if" 710),(sv "Lexer.keep_if" 711),(sv "/claim/cut.py" 712),(.int 239 0),(.int 2 0),(.int 0 0),(.int 0 0),(.int 3 0),(.ref 337),(.bool true),(.int 181 0),(.ref 338),.none,(.ref 339),(.ref 340),(.ref 341),(.int 715 0),(.int 239 0),(sv "/claim/cut.py" 716)],#[]⟩
noncomputable def o343 (P:Params):Obj:=⟨(.type "function"),none,.func { name:="keep_if",qualname:="Lexer.keep_if",params:=fArgs (stc 63 9),body:=.stmts (fBody (stc 63 9)),scope:=fScope (stc 63 9),globals:=3,closure:=[],defaults:=.none,kwdefaults:=.none,doc:=.none,pyModule:=(sv "lua.lexer" 433),annotations:=none,code:=(.ref 342),closureTuple:=.none,builtins:=0 },#[]⟩
noncomputable def o344 (P:Params):Obj:=tp []
noncomputable def o345 (P:Params):Obj:=tb []
noncomputable def o346 (P:Params):Obj:=tp [(sv "self" 721)]
noncomputable def o347 (P:Params):Obj:=tp []
noncomputable def o348 (P:Params):Obj:=⟨.none,none,.func { name:="clear",qualname:="Lexer.clear",params:=fArgs (stc 63 10),body:=.stmts (fBody (stc 63 10)),scope:=fScope (stc 63 10),globals:=0,closure:=[],defaults:=.none,kwdefaults:=.none,doc:=.none,pyModule:=.none,annotations:=none,code:=.none,closureTuple:=.none,builtins:=0 },#[]⟩
noncomputable def o349 (P:Params):Obj:=⟨(.type "code"),none,.fields #[(sv "clear" 718),(sv "Lexer.clear" 719),(sv "/claim/cut.py" 720),(.int 245 0),(.int 1 0),(.int 0 0),(.int 0 0),(.int 3 0),(.ref 344),(.bool true),(.int 181 0),(.ref 345),.none,(.ref 346),(.ref 347),(.ref 348),(.int 722 0),(.int 245 0),(sv "/claim/cut.py" 723)],#[]⟩
noncomputable def o350 (P:Params):Obj:=⟨(.type "function"),none,.func { name:="clear",qualname:="Lexer.clear",params:=fArgs (stc 63 10),body:=.stmts (fBody (stc 63 10)),scope:=fScope (stc 63 10),globals:=3,closure:=[],defaults:=.none,kwdefaults:=.none,doc:=.none,pyModule:=(sv "lua.lexer" 433),annotations:=none,code:=(.ref 349),closureTuple:=.none,builtins:=0 },#[]⟩
noncomputable def o351 (P:Params):Obj:=tp []
noncomputable def o352 (P:Params):Obj:=tb []
noncomputable def o353 (P:Params):Obj:=tp [(sv "self" 728),(sv "first" 729)]
noncomputable def o354 (P:Params):Obj:=tp []
noncomputable def o355 (P:Params):Obj:=⟨.none,none,.func { name:="end_line",qualname:="Lexer.end_line",params:=fArgs (stc 63 11),body:=.stmts (fBody (stc 63 11)),scope:=fScope (stc 63 11),globals:=0,closure:=[],defaults:=.none,kwdefaults:=.none,doc:=.none,pyModule:=.none,annotations:=none,code:=.none,closureTuple:=.none,builtins:=0 },#[]⟩
noncomputable def o356 (P:Params):Obj:=⟨(.type "code"),none,.fields #[(sv "end_line" 725),(sv "Lexer.end_line" 726),(sv "/claim/cut.py" 727),(.int 248 0),(.int 1 0),(.int 0 0),(.int 0 0),(.int 3 0),(.ref 351),(.bool true),(.int 181 0),(.ref 352),.none,(.ref 353),(.ref 354),(.ref 355),(.int 730 0),(.int 248 0),(sv "/claim/cut.py" 731)],#[]⟩
noncomputable def o357 (P:Params):Obj:=⟨(.type "function"),none,.func { name:="end_line",qualname:="Lexer.end_line",params:=fArgs (stc 63 11),body:=.stmts (fBody (stc 63 11)),scope:=fScope (stc 63 11),globals:=3,closure:=[],defaults:=.none,kwdefaults:=.none,doc:=.none,pyModule:=(sv "lua.lexer" 433),annotations:=none,code:=(.ref 356),closureTuple:=.none,builtins:=0 },#[]⟩
noncomputable def o358 (P:Params):Obj:=tp []
noncomputable def o359 (P:Params):Obj:=tb []
noncomputable def o360 (P:Params):Obj:=tp [(sv "self" 736),(sv "sign" 737)]
noncomputable def o361 (P:Params):Obj:=tp []
noncomputable def o362 (P:Params):Obj:=⟨.none,none,.func { name:="read",qualname:="Lexer.read",params:=fArgs (stc 63 12),body:=.stmts (fBody (stc 63 12)),scope:=fScope (stc 63 12),globals:=0,closure:=[],defaults:=.none,kwdefaults:=.none,doc:=.none,pyModule:=.none,annotations:=none,code:=.none,closureTuple:=.none,builtins:=0 },#[]⟩
noncomputable def o363 (P:Params):Obj:=⟨(.type "code"),none,.fields #[(sv "read" 733),(sv "Lexer.read" 734),(sv "/claim/cut.py" 735),(.int 257 0),(.int 1 0),(.int 0 0),(.int 0 0),(.int 3 0),(.ref 358),(.bool true),(.int 181 0),(.ref 359),.none,(.ref 360),(.ref 361),(.ref 362),(.int 738 0),(.int 257 0),(sv "/claim/cut.py" 739)],#[]⟩
noncomputable def o364 (P:Params):Obj:=⟨(.type "function"),none,.func { name:="read",qualname:="Lexer.read",params:=fArgs (stc 63 12),body:=.stmts (fBody (stc 63 12)),scope:=fScope (stc 63 12),globals:=3,closure:=[],defaults:=.none,kwdefaults:=.none,doc:=.none,pyModule:=(sv "lua.lexer" 433),annotations:=none,code:=(.ref 363),closureTuple:=.none,builtins:=0 },#[]⟩
noncomputable def o365 (P:Params):Obj:=tp []
noncomputable def o366 (P:Params):Obj:=tb []
noncomputable def o367 (P:Params):Obj:=tp [(sv "self" 744)]
noncomputable def o368 (P:Params):Obj:=tp []
noncomputable def o369 (P:Params):Obj:=⟨.none,none,.func { name:="skip_blank",qualname:="Lexer.skip_blank",params:=fArgs (stc 63 13),body:=.stmts (fBody (stc 63 13)),scope:=fScope (stc 63 13),globals:=0,closure:=[],defaults:=.none,kwdefaults:=.none,doc:=.none,pyModule:=.none,annotations:=none,code:=.none,closureTuple:=.none,builtins:=0 },#[]⟩
noncomputable def o370 (P:Params):Obj:=⟨(.type "code"),none,.fields #[(sv "skip_blank" 741),(sv "Lexer.skip_blank" 742),(sv "/claim/cut.py" 743),(.int 282 0),(.int 1 0),(.int 0 0),(.int 0 0),(.int 3 0),(.ref 365),(.bool true),(.int 181 0),(.ref 366),.none,(.ref 367),(.ref 368),(.ref 369),(.int 745 0),(.int 282 0),(sv "/claim/cut.py" 746)],#[]⟩
noncomputable def o371 (P:Params):Obj:=⟨(.type "function"),none,.func { name:="skip_blank",qualname:="Lexer.skip_blank",params:=fArgs (stc 63 13),body:=.stmts (fBody (stc 63 13)),scope:=fScope (stc 63 13),globals:=3,closure:=[],defaults:=.none,kwdefaults:=.none,doc:=.none,pyModule:=(sv "lua.lexer" 433),annotations:=none,code:=(.ref 370),closureTuple:=.none,builtins:=0 },#[]⟩
noncomputable def o372 (P:Params):Obj:=tp []
noncomputable def o373 (P:Params):Obj:=tb []
noncomputable def o374 (P:Params):Obj:=tp [(sv "self" 751)]
noncomputable def o375 (P:Params):Obj:=tp []
noncomputable def o376 (P:Params):Obj:=⟨.none,none,.func { name:="sign_behind",qualname:="Lexer.sign_behind",params:=fArgs (stc 63 14),body:=.stmts (fBody (stc 63 14)),scope:=fScope (stc 63 14),globals:=0,closure:=[],defaults:=.none,kwdefaults:=.none,doc:=.none,pyModule:=.none,annotations:=none,code:=.none,closureTuple:=.none,builtins:=0 },#[]⟩
noncomputable def o377 (P:Params):Obj:=⟨(.type "code"),none,.fields #[(sv "sign_behind" 748),(sv "Lexer.sign_behind" 749),(sv "/claim/cut.py" 750),(.int 294 0),(.int 1 0),(.int 0 0),(.int 0 0),(.int 3 0),(.ref 372),(.bool true),(.int 181 0),(.ref 373),.none,(.ref 374),(.ref 375),(.ref 376),(.int 752 0),(.int 294 0),(sv "/claim/cut.py" 753)],#[]⟩
noncomputable def o378 (P:Params):Obj:=⟨(.type "function"),none,.func { name:="sign_behind",qualname:="Lexer.sign_behind",params:=fArgs (stc 63 14),body:=.stmts (fBody (stc 63 14)),scope:=fScope (stc 63 14),globals:=3,closure:=[],defaults:=.none,kwdefaults:=.none,doc:=.none,pyModule:=(sv "lua.lexer" 433),annotations:=none,code:=(.ref 377),closureTuple:=.none,builtins:=0 },#[]⟩
noncomputable def o379 (P:Params):Obj:=tp []
noncomputable def o380 (P:Params):Obj:=tb []
noncomputable def o381 (P:Params):Obj:=tp [(sv "self" 758),(sv "level" 759)]
noncomputable def o382 (P:Params):Obj:=tp []
noncomputable def o383 (P:Params):Obj:=⟨.none,none,.func { name:="skip_comment",qualname:="Lexer.skip_comment",params:=fArgs (stc 63 15),body:=.stmts (fBody (stc 63 15)),scope:=fScope (stc 63 15),globals:=0,closure:=[],defaults:=.none,kwdefaults:=.none,doc:=.none,pyModule:=.none,annotations:=none,code:=.none,closureTuple:=.none,builtins:=0 },#[]⟩
noncomputable def o384 (P:Params):Obj:=⟨(.type "code"),none,.fields #[(sv "skip_comment" 755),(sv "Lexer.skip_comment" 756),(sv "/claim/cut.py" 757),(.int 297 0),(.int 1 0),(.int 0 0),(.int 0 0),(.int 3 0),(.ref 379),(.bool true),(.int 181 0),(.ref 380),.none,(.ref 381),(.ref 382),(.ref 383),(.int 760 0),(.int 297 0),(sv "/claim/cut.py" 761)],#[]⟩
noncomputable def o385 (P:Params):Obj:=⟨(.type "function"),none,.func { name:="skip_comment",qualname:="Lexer.skip_comment",params:=fArgs (stc 63 15),body:=.stmts (fBody (stc 63 15)),scope:=fScope (stc 63 15),globals:=3,closure:=[],defaults:=.none,kwdefaults:=.none,doc:=.none,pyModule:=(sv "lua.lexer" 433),annotations:=none,code:=(.ref 384),closureTuple:=.none,builtins:=0 },#[]⟩
noncomputable def o386 (P:Params):Obj:=tp []
noncomputable def o387 (P:Params):Obj:=tb []
noncomputable def o388 (P:Params):Obj:=tp [(sv "self" 766),(sv "sign" 767)]
noncomputable def o389 (P:Params):Obj:=tp []
noncomputable def o390 (P:Params):Obj:=⟨.none,none,.func { name:="read_compared",qualname:="Lexer.read_compared",params:=fArgs (stc 63 16),body:=.stmts (fBody (stc 63 16)),scope:=fScope (stc 63 16),globals:=0,closure:=[],defaults:=.none,kwdefaults:=.none,doc:=.none,pyModule:=.none,annotations:=none,code:=.none,closureTuple:=.none,builtins:=0 },#[]⟩
noncomputable def o391 (P:Params):Obj:=⟨(.type "code"),none,.fields #[(sv "read_compared" 763),(sv "Lexer.read_compared" 764),(sv "/claim/cut.py" 765),(.int 310 0),(.int 2 0),(.int 0 0),(.int 0 0),(.int 3 0),(.ref 386),(.bool true),(.int 181 0),(.ref 387),.none,(.ref 388),(.ref 389),(.ref 390),(.int 768 0),(.int 310 0),(sv "/claim/cut.py" 769)],#[]⟩
noncomputable def o392 (P:Params):Obj:=⟨(.type "function"),none,.func { name:="read_compared",qualname:="Lexer.read_compared",params:=fArgs (stc 63 16),body:=.stmts (fBody (stc 63 16)),scope:=fScope (stc 63 16),globals:=3,closure:=[],defaults:=.none,kwdefaults:=.none,doc:=.none,pyModule:=(sv "lua.lexer" 433),annotations:=none,code:=(.ref 391),closureTuple:=.none,builtins:=0 },#[]⟩
noncomputable def o393 (P:Params):Obj:=tp []
noncomputable def o394 (P:Params):Obj:=tb []
noncomputable def o395 (P:Params):Obj:=tp [(sv "self" 774)]
noncomputable def o396 (P:Params):Obj:=tp []
noncomputable def o397 (P:Params):Obj:=⟨.none,none,.func { name:="read_dots",qualname:="Lexer.read_dots",params:=fArgs (stc 63 17),body:=.stmts (fBody (stc 63 17)),scope:=fScope (stc 63 17),globals:=0,closure:=[],defaults:=.none,kwdefaults:=.none,doc:=.none,pyModule:=.none,annotations:=none,code:=.none,closureTuple:=.none,builtins:=0 },#[]⟩
noncomputable def o398 (P:Params):Obj:=⟨(.type "code"),none,.fields #[(sv "read_dots" 771),(sv "Lexer.read_dots" 772),(sv "/claim/cut.py" 773),(.int 321 0),(.int 1 0),(.int 0 0),(.int 0 0),(.int 3 0),(.ref 393),(.bool true),(.int 181 0),(.ref 394),.none,(.ref 395),(.ref 396),(.ref 397),(.int 775 0),(.int 321 0),(sv "/claim/cut.py" 776)],#[]⟩
noncomputable def o399 (P:Params):Obj:=⟨(.type "function"),none,.func { name:="read_dots",qualname:="Lexer.read_dots",params:=fArgs (stc 63 17),body:=.stmts (fBody (stc 63 17)),scope:=fScope (stc 63 17),globals:=3,closure:=[],defaults:=.none,kwdefaults:=.none,doc:=.none,pyModule:=(sv "lua.lexer" 433),annotations:=none,code:=(.ref 398),closureTuple:=.none,builtins:=0 },#[]⟩
noncomputable def o400 (P:Params):Obj:=tp []
noncomputable def o401 (P:Params):Obj:=tb []
noncomputable def o402 (P:Params):Obj:=tp [(sv "self" 781),(sv "word" 782),(sv "kind" 783)]
noncomputable def o403 (P:Params):Obj:=tp []
noncomputable def o404 (P:Params):Obj:=⟨.none,none,.func { name:="read_word",qualname:="Lexer.read_word",params:=fArgs (stc 63 18),body:=.stmts (fBody (stc 63 18)),scope:=fScope (stc 63 18),globals:=0,closure:=[],defaults:=.none,kwdefaults:=.none,doc:=.none,pyModule:=.none,annotations:=none,code:=.none,closureTuple:=.none,builtins:=0 },#[]⟩
noncomputable def o405 (P:Params):Obj:=⟨(.type "code"),none,.fields #[(sv "read_word" 778),(sv "Lexer.read_word" 779),(sv "/claim/cut.py" 780),(.int 331 0),(.int 1 0),(.int 0 0),(.int 0 0),(.int 3 0),(.ref 400),(.bool true),(.int 181 0),(.ref 401),.none,(.ref 402),(.ref 403),(.ref 404),(.int 784 0),(.int 331 0),(sv "/claim/cut.py" 785)],#[]⟩
noncomputable def o406 (P:Params):Obj:=⟨(.type "function"),none,.func { name:="read_word",qualname:="Lexer.read_word",params:=fArgs (stc 63 18),body:=.stmts (fBody (stc 63 18)),scope:=fScope (stc 63 18),globals:=3,closure:=[],defaults:=.none,kwdefaults:=.none,doc:=.none,pyModule:=(sv "lua.lexer" 433),annotations:=none,code:=(.ref 405),closureTuple:=.none,builtins:=0 },#[]⟩
noncomputable def o407 (P:Params):Obj:=tp []
noncomputable def o408 (P:Params):Obj:=tb []
noncomputable def o409 (P:Params):Obj:=tp [(sv "self" 790),(sv "value" 791)]
noncomputable def o410 (P:Params):Obj:=tp []
noncomputable def o411 (P:Params):Obj:=⟨.none,none,.func { name:="read_numeral",qualname:="Lexer.read_numeral",params:=fArgs (stc 63 19),body:=.stmts (fBody (stc 63 19)),scope:=fScope (stc 63 19),globals:=0,closure:=[],defaults:=.none,kwdefaults:=.none,doc:=.none,pyModule:=.none,annotations:=none,code:=.none,closureTuple:=.none,builtins:=0 },#[]⟩
noncomputable def o412 (P:Params):Obj:=⟨(.type "code"),none,.fields #[(sv "read_numeral" 787),(sv "Lexer.read_numeral" 788),(sv "/claim/cut.py" 789),(.int 338 0),(.int 1 0),(.int 0 0),(.int 0 0),(.int 3 0),(.ref 407),(.bool true),(.int 181 0),(.ref 408),.none,(.ref 409),(.ref 410),(.ref 411),(.int 792 0),(.int 338 0),(sv "/claim/cut.py" 793)],#[]⟩
noncomputable def o413 (P:Params):Obj:=⟨(.type "function"),none,.func { name:="read_numeral",qualname:="Lexer.read_numeral",params:=fArgs (stc 63 19),body:=.stmts (fBody (stc 63 19)),scope:=fScope (stc 63 19),globals:=3,closure:=[],defaults:=.none,kwdefaults:=.none,doc:=.none,pyModule:=(sv "lua.lexer" 433),annotations:=none,code:=(.ref 412),closureTuple:=.none,builtins:=0 },#[]⟩
noncomputable def o414 (P:Params):Obj:=tp []
noncomputable def o415 (P:Params):Obj:=tb []
noncomputable def o416 (P:Params):Obj:=tp [(sv "self" 798),(sv "level" 799)]
noncomputable def o417 (P:Params):Obj:=tp []
noncomputable def o418 (P:Params):Obj:=⟨.none,none,.func { name:="read_bracket",qualname:="Lexer.read_bracket",params:=fArgs (stc 63 20),body:=.stmts (fBody (stc 63 20)),scope:=fScope (stc 63 20),globals:=0,closure:=[],defaults:=.none,kwdefaults:=.none,doc:=.none,pyModule:=.none,annotations:=none,code:=.none,closureTuple:=.none,builtins:=0 },#[]⟩
noncomputable def o419 (P:Params):Obj:=⟨(.type "code"),none,.fields #[(sv "read_bracket" 795),(sv "Lexer.read_bracket" 796),(sv "/claim/cut.py" 797),(.int 350 0),(.int 1 0),(.int 0 0),(.int 0 0),(.int 3 0),(.ref 414),(.bool true),(.int 181 0),(.ref 415),.none,(.ref 416),(.ref 417),(.ref 418),(.int 800 0),(.int 350 0),(sv "/claim/cut.py" 801)],#[]⟩
noncomputable def o420 (P:Params):Obj:=⟨(.type "function"),none,.func { name:="read_bracket",qualname:="Lexer.read_bracket",params:=fArgs (stc 63 20),body:=.stmts (fBody (stc 63 20)),scope:=fScope (stc 63 20),globals:=3,closure:=[],defaults:=.none,kwdefaults:=.none,doc:=.none,pyModule:=(sv "lua.lexer" 433),annotations:=none,code:=(.ref 419),closureTuple:=.none,builtins:=0 },#[]⟩
noncomputable def o421 (P:Params):Obj:=tp []
noncomputable def o422 (P:Params):Obj:=tb []
noncomputable def o423 (P:Params):Obj:=tp [(sv "self" 806),(sv "bracket" 807),(sv "many" 808)]
noncomputable def o424 (P:Params):Obj:=tp []
noncomputable def o425 (P:Params):Obj:=⟨.none,none,.func { name:="read_level",qualname:="Lexer.read_level",params:=fArgs (stc 63 21),body:=.stmts (fBody (stc 63 21)),scope:=fScope (stc 63 21),globals:=0,closure:=[],defaults:=.none,kwdefaults:=.none,doc:=.none,pyModule:=.none,annotations:=none,code:=.none,closureTuple:=.none,builtins:=0 },#[]⟩
noncomputable def o426 (P:Params):Obj:=⟨(.type "code"),none,.fields #[(sv "read_level" 803),(sv "Lexer.read_level" 804),(sv "/claim/cut.py" 805),(.int 358 0),(.int 1 0),(.int 0 0),(.int 0 0),(.int 3 0),(.ref 421),(.bool true),(.int 181 0),(.ref 422),.none,(.ref 423),(.ref 424),(.ref 425),(.int 809 0),(.int 358 0),(sv "/claim/cut.py" 810)],#[]⟩
noncomputable def o427 (P:Params):Obj:=⟨(.type "function"),none,.func { name:="read_level",qualname:="Lexer.read_level",params:=fArgs (stc 63 21),body:=.stmts (fBody (stc 63 21)),scope:=fScope (stc 63 21),globals:=3,closure:=[],defaults:=.none,kwdefaults:=.none,doc:=.none,pyModule:=(sv "lua.lexer" 433),annotations:=none,code:=(.ref 426),closureTuple:=.none,builtins:=0 },#[]⟩
noncomputable def o428 (P:Params):Obj:=tp []
noncomputable def o429 (P:Params):Obj:=tb []
noncomputable def o430 (P:Params):Obj:=tp [(sv "self" 815),(sv "level" 816),(sv "is_text" 817),(sv "begin" 818)]
noncomputable def o431 (P:Params):Obj:=tp []
noncomputable def o432 (P:Params):Obj:=⟨.none,none,.func { name:="read_long",qualname:="Lexer.read_long",params:=fArgs (stc 63 22),body:=.stmts (fBody (stc 63 22)),scope:=fScope (stc 63 22),globals:=0,closure:=[],defaults:=.none,kwdefaults:=.none,doc:=.none,pyModule:=.none,annotations:=none,code:=.none,closureTuple:=.none,builtins:=0 },#[]⟩
noncomputable def o433 (P:Params):Obj:=⟨(.type "code"),none,.fields #[(sv "read_long" 812),(sv "Lexer.read_long" 813),(sv "/claim/cut.py" 814),(.int 367 0),(.int 3 0),(.int 0 0),(.int 0 0),(.int 3 0),(.ref 428),(.bool true),(.int 181 0),(.ref 429),.none,(.ref 430),(.ref 431),(.ref 432),(.int 819 0),(.int 367 0),(sv "/claim/cut.py" 820)],#[]⟩
noncomputable def o434 (P:Params):Obj:=⟨(.type "function"),none,.func { name:="read_long",qualname:="Lexer.read_long",params:=fArgs (stc 63 22),body:=.stmts (fBody (stc 63 22)),scope:=fScope (stc 63 22),globals:=3,closure:=[],defaults:=.none,kwdefaults:=.none,doc:=.none,pyModule:=(sv "lua.lexer" 433),annotations:=none,code:=(.ref 433),closureTuple:=.none,builtins:=0 },#[]⟩
noncomputable def o435 (P:Params):Obj:=tp []
noncomputable def o436 (P:Params):Obj:=tb []
noncomputable def o437 (P:Params):Obj:=tp [(sv "self" 825),(sv "level" 826)]
noncomputable def o438 (P:Params):Obj:=tp []
noncomputable def o439 (P:Params):Obj:=⟨.none,none,.func { name:="read_inner",qualname:="Lexer.read_inner",params:=fArgs (stc 63 23),body:=.stmts (fBody (stc 63 23)),scope:=fScope (stc 63 23),globals:=0,closure:=[],defaults:=.none,kwdefaults:=.none,doc:=.none,pyModule:=.none,annotations:=none,code:=.none,closureTuple:=.none,builtins:=0 },#[]⟩
noncomputable def o440 (P:Params):Obj:=⟨(.type "code"),none,.fields #[(sv "read_inner" 822),(sv "Lexer.read_inner" 823),(sv "/claim/cut.py" 824),(.int 391 0),(.int 2 0),(.int 0 0),(.int 0 0),(.int 3 0),(.ref 435),(.bool true),(.int 181 0),(.ref 436),.none,(.ref 437),(.ref 438),(.ref 439),(.int 827 0),(.int 391 0),(sv "/claim/cut.py" 828)],#[]⟩
noncomputable def o441 (P:Params):Obj:=⟨(.type "function"),none,.func { name:="read_inner",qualname:="Lexer.read_inner",params:=fArgs (stc 63 23),body:=.stmts (fBody (stc 63 23)),scope:=fScope (stc 63 23),globals:=3,closure:=[],defaults:=.none,kwdefaults:=.none,doc:=.none,pyModule:=(sv "lua.lexer" 433),annotations:=none,code:=(.ref 440),closureTuple:=.none,builtins:=0 },#[]⟩
noncomputable def o442 (P:Params):Obj:=tp []
noncomputable def o443 (P:Params):Obj:=tb []
noncomputable def o444 (P:Params):Obj:=tp [(sv "self" 833),(sv "quote" 834)]
noncomputable def o445 (P:Params):Obj:=tp []
noncomputable def o446 (P:Params):Obj:=⟨.none,none,.func { name:="read_string",qualname:="Lexer.read_string",params:=fArgs (stc 63 24),body:=.stmts (fBody (stc 63 24)),scope:=fScope (stc 63 24),globals:=0,closure:=[],defaults:=.none,kwdefaults:=.none,doc:=.none,pyModule:=.none,annotations:=none,code:=.none,closureTuple:=.none,builtins:=0 },#[]⟩
noncomputable def o447 (P:Params):Obj:=⟨(.type "code"),none,.fields #[(sv "read_string" 830),(sv "Lexer.read_string" 831),(sv "/claim/cut.py" 832),(.int 397 0),(.int 2 0),(.int 0 0),(.int 0 0),(.int 3 0),(.ref 442),(.bool true),(.int 181 0),(.ref 443),.none,(.ref 444),(.ref 445),(.ref 446),(.int 835 0),(.int 397 0),(sv "/claim/cut.py" 836)],#[]⟩
noncomputable def o448 (P:Params):Obj:=⟨(.type "function"),none,.func { name:="read_string",qualname:="Lexer.read_string",params:=fArgs (stc 63 24),body:=.stmts (fBody (stc 63 24)),scope:=fScope (stc 63 24),globals:=3,closure:=[],defaults:=.none,kwdefaults:=.none,doc:=.none,pyModule:=(sv "lua.lexer" 433),annotations:=none,code:=(.ref 447),closureTuple:=.none,builtins:=0 },#[]⟩
noncomputable def o449 (P:Params):Obj:=tp []
noncomputable def o450 (P:Params):Obj:=tb []
noncomputable def o451 (P:Params):Obj:=tp [(sv "self" 841),(sv "told" 842)]
noncomputable def o452 (P:Params):Obj:=tp []
noncomputable def o453 (P:Params):Obj:=⟨.none,none,.func { name:="read_escape",qualname:="Lexer.read_escape",params:=fArgs (stc 63 25),body:=.stmts (fBody (stc 63 25)),scope:=fScope (stc 63 25),globals:=0,closure:=[],defaults:=.none,kwdefaults:=.none,doc:=.none,pyModule:=.none,annotations:=none,code:=.none,closureTuple:=.none,builtins:=0 },#[]⟩
noncomputable def o454 (P:Params):Obj:=⟨(.type "code"),none,.fields #[(sv "read_escape" 838),(sv "Lexer.read_escape" 839),(sv "/claim/cut.py" 840),(.int 412 0),(.int 1 0),(.int 0 0),(.int 0 0),(.int 3 0),(.ref 449),(.bool true),(.int 181 0),(.ref 450),.none,(.ref 451),(.ref 452),(.ref 453),(.int 843 0),(.int 412 0),(sv "/claim/cut.py" 844)],#[]⟩
noncomputable def o455 (P:Params):Obj:=⟨(.type "function"),none,.func { name:="read_escape",qualname:="Lexer.read_escape",params:=fArgs (stc 63 25),body:=.stmts (fBody (stc 63 25)),scope:=fScope (stc 63 25),globals:=3,closure:=[],defaults:=.none,kwdefaults:=.none,doc:=.none,pyModule:=(sv "lua.lexer" 433),annotations:=none,code:=(.ref 454),closureTuple:=.none,builtins:=0 },#[]⟩
noncomputable def o456 (P:Params):Obj:=tp []
noncomputable def o457 (P:Params):Obj:=tb []
noncomputable def o458 (P:Params):Obj:=tp [(sv "self" 849),(sv "value" 850),(sv "many" 851)]
noncomputable def o459 (P:Params):Obj:=tp []
noncomputable def o460 (P:Params):Obj:=⟨.none,none,.func { name:="read_digits",qualname:="Lexer.read_digits",params:=fArgs (stc 63 26),body:=.stmts (fBody (stc 63 26)),scope:=fScope (stc 63 26),globals:=0,closure:=[],defaults:=.none,kwdefaults:=.none,doc:=.none,pyModule:=.none,annotations:=none,code:=.none,closureTuple:=.none,builtins:=0 },#[]⟩
noncomputable def o461 (P:Params):Obj:=⟨(.type "code"),none,.fields #[(sv "read_digits" 846),(sv "Lexer.read_digits" 847),(sv "/claim/cut.py" 848),(.int 426 0),(.int 1 0),(.int 0 0),(.int 0 0),(.int 3 0),(.ref 456),(.bool true),(.int 181 0),(.ref 457),.none,(.ref 458),(.ref 459),(.ref 460),(.int 852 0),(.int 426 0),(sv "/claim/cut.py" 853)],#[]⟩
noncomputable def o462 (P:Params):Obj:=⟨(.type "function"),none,.func { name:="read_digits",qualname:="Lexer.read_digits",params:=fArgs (stc 63 26),body:=.stmts (fBody (stc 63 26)),scope:=fScope (stc 63 26),globals:=3,closure:=[],defaults:=.none,kwdefaults:=.none,doc:=.none,pyModule:=(sv "lua.lexer" 433),annotations:=none,code:=(.ref 461),closureTuple:=.none,builtins:=0 },#[]⟩
noncomputable def o463 (P:Params):Obj:=tp [(sv "ahead" 855),(sv "at" 856),(sv "buffer" 857),(sv "chunk" 858),(sv "current" 859),(sv "kinds" 860),(sv "last_line" 861),(sv "limits" 862),(sv "line" 863),(sv "sign" 864),(sv "source" 865),(sv "text" 866)]
noncomputable def o464 (P:Params):Obj:=⟨(.type "dict"),none,.dict #[en P "__module__" 633 (sv "lua.lexer" 433),en P "__firstlineno__" 637 (.int 182 636),en P "__init__" 647 (.ref 280),en P "next" 654 (.ref 287),en P "lookahead" 661 (.ref 294),en P "error" 671 (.ref 301),en P "syntax_error" 679 (.ref 308),en P "near_text" 687 (.ref 315),en P "move" 694 (.ref 322),en P "keep" 702 (.ref 329),en P "keep_and_move" 709 (.ref 336),en P "keep_if" 717 (.ref 343),en P "clear" 724 (.ref 350),en P "end_line" 732 (.ref 357),en P "read" 740 (.ref 364),en P "skip_blank" 747 (.ref 371),en P "sign_behind" 754 (.ref 378),en P "skip_comment" 762 (.ref 385),en P "read_compared" 770 (.ref 392),en P "read_dots" 777 (.ref 399),en P "read_word" 786 (.ref 406),en P "read_numeral" 794 (.ref 413),en P "read_bracket" 802 (.ref 420),en P "read_level" 811 (.ref 427),en P "read_long" 821 (.ref 434),en P "read_inner" 829 (.ref 441),en P "read_string" 837 (.ref 448),en P "read_escape" 845 (.ref 455),en P "read_digits" 854 (.ref 462),en P "__static_attributes__" 867 (.ref 463),en P "__dict__" 869 (.ref 466),en P "__weakref__" 871 (.ref 467),en P "__doc__" 872 .none] 4,#[]⟩
noncomputable def o465 (P:Params):Obj:=⟨(.type "type"),none,.cls { name:="Lexer",bases:=[(.type "object")],mro:=[(.ref 465),(.type "object")],ns:=464,qualname:="Lexer",hasDict:=true,slotNames:=[],subclasses:=[],abstract:=false,collection:=none,hasDel:=false },#[none,none,(some (sv "Lexer" 626)),(some (sv "Lexer" 634)),(some (.builtin "object.__new__")),(some (.bool true))]⟩
noncomputable def o466 (P:Params):Obj:=⟨(.type "getset_descriptor"),none,.fields #[(sv "__dict__" 868),(.ref 465),(.builtin "function.__dict__"),(.builtin "function.__dict__#set")],#[]⟩
noncomputable def o467 (P:Params):Obj:=⟨(.type "getset_descriptor"),none,.fields #[(sv "__weakref__" 870),(.ref 465),(.builtin "ExceptionGroup.__weakref__"),.none],#[]⟩
noncomputable def o468 (P:Params):Obj:=⟨(.type "super"),none,.fields #[(.ref 465),(.ref 465),(.ref 465)],#[]⟩
noncomputable def o469 (P:Params):Obj:=⟨(.type "builtin_function_or_method"),none,.fields #[(.builtin "object.__init_subclass__"),(.ref 465)],#[]⟩
noncomputable def o470 (P:Params):Obj:=tp []
noncomputable def o471 (P:Params):Obj:=tb []
noncomputable def o472 (P:Params):Obj:=tp [(sv "text" 878),(sv "chunk" 879),(sv "limits" 880),(sv "lexer" 881),(sv "found" 882),(sv "token" 883)]
noncomputable def o473 (P:Params):Obj:=tp []
noncomputable def o474 (P:Params):Obj:=⟨.none,none,.func { name:="all_tokens",qualname:="all_tokens",params:=fArgs (stm 64),body:=.stmts (fBody (stm 64)),scope:=fScope (stm 64),globals:=0,closure:=[],defaults:=.none,kwdefaults:=.none,doc:=.none,pyModule:=.none,annotations:=none,code:=.none,closureTuple:=.none,builtins:=0 },#[]⟩
noncomputable def o475 (P:Params):Obj:=⟨(.type "code"),none,.fields #[(sv "all_tokens" 875),(sv "all_tokens" 876),(sv "/claim/cut.py" 877),(.int 435 0),(.int 3 0),(.int 0 0),(.int 0 0),(.int 3 0),(.ref 470),(.bool true),(.int 181 0),(.ref 471),.none,(.ref 472),(.ref 473),(.ref 474),(.int 884 0),(.int 435 0),(sv "/claim/cut.py" 885)],#[]⟩
noncomputable def o476 (P:Params):Obj:=⟨(.type "function"),none,.func { name:="all_tokens",qualname:="all_tokens",params:=fArgs (stm 64),body:=.stmts (fBody (stm 64)),scope:=fScope (stm 64),globals:=3,closure:=[],defaults:=.none,kwdefaults:=.none,doc:=.none,pyModule:=(sv "lua.lexer" 433),annotations:=none,code:=(.ref 475),closureTuple:=.none,builtins:=0 },#[]⟩
noncomputable def o477 (P:Params):Obj:=⟨(.type "list"),none,.seq #[(.bytes #[97,32] 889),(.bytes #[97,110,100,32] 890),(.bytes #[49,50,32] 891),(.bytes #[48,120,103,32] 892),(.bytes #[43] 893),(.bytes #[46,46] 894),(.bytes #[61] 895),(.bytes #[39,116,39,32] 896),(.bytes #[34,117] 897),(.bytes #[91,91,108,93,93] 898),(.bytes #[91,61,61] 899),(.bytes #[45,45,99,10] 900),(.bytes #[45,45,91,91,100,93,93] 901),(.bytes #[10] 902),(.bytes #[46,46,46] 903),(.bytes #[126,61] 904),(.bytes #[92] 905),(.bytes #[40] 906),(.bytes #[39,92,51,48,48,39,32] 907),(.bytes #[120,49,61] 908),(.bytes #[93,61,61,93,32] 909),(.bytes #[48,120,49,101,32] 910),(.bytes #[91,91,97,91,91] 911),(.bytes #[91,61,91,10,93,61,93] 912)] 0,#[]⟩
noncomputable def o478 (P:Params):Obj:=tp []
noncomputable def o479 (P:Params):Obj:=tb []
noncomputable def o480 (P:Params):Obj:=tp [(sv "token" 917)]
noncomputable def o481 (P:Params):Obj:=tp []
noncomputable def o482 (P:Params):Obj:=⟨.none,none,.func { name:="_law_shown",qualname:="_law_shown",params:=fArgs (stm 67),body:=.stmts (fBody (stm 67)),scope:=fScope (stm 67),globals:=0,closure:=[],defaults:=.none,kwdefaults:=.none,doc:=.none,pyModule:=.none,annotations:=none,code:=.none,closureTuple:=.none,builtins:=0 },#[]⟩
noncomputable def o483 (P:Params):Obj:=⟨(.type "code"),none,.fields #[(sv "_law_shown" 914),(sv "_law_shown" 915),(sv "/claim/cut.py" 916),(.int 444 0),(.int 1 0),(.int 0 0),(.int 0 0),(.int 3 0),(.ref 478),(.bool true),(.int 181 0),(.ref 479),.none,(.ref 480),(.ref 481),(.ref 482),(.int 918 0),(.int 444 0),(sv "/claim/cut.py" 919)],#[]⟩
noncomputable def o484 (P:Params):Obj:=⟨(.type "function"),none,.func { name:="_law_shown",qualname:="_law_shown",params:=fArgs (stm 67),body:=.stmts (fBody (stm 67)),scope:=fScope (stm 67),globals:=3,closure:=[],defaults:=.none,kwdefaults:=.none,doc:=.none,pyModule:=(sv "law_rr0064_01" 887),annotations:=none,code:=(.ref 483),closureTuple:=.none,builtins:=0 },#[]⟩
noncomputable def o485 (P:Params):Obj:=tp []
noncomputable def o486 (P:Params):Obj:=tb []
noncomputable def o487 (P:Params):Obj:=tp [(sv "text" 924),(sv "lexer" 925),(sv "found" 926),(sv "refusal" 927)]
noncomputable def o488 (P:Params):Obj:=tp []
noncomputable def o489 (P:Params):Obj:=⟨.none,none,.func { name:="_law_plain",qualname:="_law_plain",params:=fArgs (stm 68),body:=.stmts (fBody (stm 68)),scope:=fScope (stm 68),globals:=0,closure:=[],defaults:=.none,kwdefaults:=.none,doc:=.none,pyModule:=.none,annotations:=none,code:=.none,closureTuple:=.none,builtins:=0 },#[]⟩
noncomputable def o490 (P:Params):Obj:=⟨(.type "code"),none,.fields #[(sv "_law_plain" 921),(sv "_law_plain" 922),(sv "/claim/cut.py" 923),(.int 446 0),(.int 1 0),(.int 0 0),(.int 0 0),(.int 3 0),(.ref 485),(.bool true),(.int 181 0),(.ref 486),.none,(.ref 487),(.ref 488),(.ref 489),(.int 928 0),(.int 446 0),(sv "/claim/cut.py" 929)],#[]⟩
noncomputable def o491 (P:Params):Obj:=⟨(.type "function"),none,.func { name:="_law_plain",qualname:="_law_plain",params:=fArgs (stm 68),body:=.stmts (fBody (stm 68)),scope:=fScope (stm 68),globals:=3,closure:=[],defaults:=.none,kwdefaults:=.none,doc:=.none,pyModule:=(sv "law_rr0064_01" 887),annotations:=none,code:=(.ref 490),closureTuple:=.none,builtins:=0 },#[]⟩
noncomputable def o492 (P:Params):Obj:=tp []
noncomputable def o493 (P:Params):Obj:=tb []
noncomputable def o494 (P:Params):Obj:=⟨.none,none,.func { name:="_law_peeked",qualname:="_law_peeked",params:=fArgs (stm 69),body:=.stmts (fBody (stm 69)),scope:=fScope (stm 69),globals:=0,closure:=[],defaults:=.none,kwdefaults:=.none,doc:=.none,pyModule:=.none,annotations:=none,code:=.none,closureTuple:=.none,builtins:=0 },#[]⟩
noncomputable def o495 (P:Params):Obj:=⟨(.type "code"),none,.fields #[(sv "_law_peeked" 931),(sv "_law_peeked" 932),(sv "/claim/cut.py" 933),(.int 454 0),(.int 2 0),(.int 0 0),(.int 0 0),(.int 3 0),(.ref 492),(.bool true),(.int 181 0),(.ref 493),.none,.none,.none,(.ref 494),(.int 934 0),(.int 454 0),(sv "/claim/cut.py" 935)],#[]⟩
noncomputable def o496 (P:Params):Obj:=⟨(.type "function"),none,.func { name:="_law_peeked",qualname:="_law_peeked",params:=fArgs (stm 69),body:=.stmts (fBody (stm 69)),scope:=fScope (stm 69),globals:=3,closure:=[],defaults:=.none,kwdefaults:=.none,doc:=.none,pyModule:=(sv "law_rr0064_01" 887),annotations:=none,code:=(.ref 495),closureTuple:=.none,builtins:=0 },#[]⟩
noncomputable def o497 (P:Params):Obj:=tp []
noncomputable def o498 (P:Params):Obj:=tb []
noncomputable def o499 (P:Params):Obj:=⟨.none,none,.func { name:="law",qualname:="law",params:=fArgs (stm 70),body:=.stmts (fBody (stm 70)),scope:=fScope (stm 70),globals:=0,closure:=[],defaults:=.none,kwdefaults:=.none,doc:=.none,pyModule:=.none,annotations:=none,code:=.none,closureTuple:=.none,builtins:=0 },#[]⟩
noncomputable def o500 (P:Params):Obj:=⟨(.type "code"),none,.fields #[(sv "law" 937),(sv "law" 938),(sv "/claim/cut.py" 939),(.int 473 0),(.int 1 0),(.int 0 0),(.int 0 0),(.int 3 0),(.ref 497),(.bool true),(.int 181 0),(.ref 498),.none,.none,.none,(.ref 499),(.int 940 0),(.int 473 0),(sv "/claim/cut.py" 941)],#[]⟩
noncomputable def o501 (P:Params):Obj:=⟨(.type "function"),none,.func { name:="law",qualname:="law",params:=fArgs (stm 70),body:=.stmts (fBody (stm 70)),scope:=fScope (stm 70),globals:=3,closure:=[],defaults:=.none,kwdefaults:=.none,doc:=.none,pyModule:=(sv "law_rr0064_01" 887),annotations:=none,code:=(.ref 500),closureTuple:=.none,builtins:=0 },#[]⟩
noncomputable def objs71 (P:Params):List Obj:=[boot_o_0 P,boot_o_1 P,o2v1 P,o3v3 P,boot_o_4 P,boot_o_5 P,boot_o_6 P,boot_o_7 P,boot_o_8 P,boot_o_9 P,boot_o_10 P,o11 P,o12v3 P,o13 P,o14 P,o15 P,o16 P,o17 P,o18 P,o19 P,o20 P,o21 P,o22 P,o23 P,o24 P,o25 P,o26 P,o27 P,o28 P,o29 P,o30 P,o31 P,o32 P,o33 P,o34 P,o35 P,o36 P,o37 P,o38 P,o39 P,o40 P,o41 P,o42 P,o43 P,o44 P,o45 P,o46 P,o47 P,o48 P,o49 P,o50 P,o51 P,o52 P,o53 P,o54 P,o55 P,o56 P,o57 P,o58 P,o59 P,o60 P,o61 P,o62 P,o63 P,o64 P,o65 P,o66 P,o67 P,o68 P,o69 P,o70 P,o71 P,o72 P,o73 P,o74 P,o75 P,o76 P,o77 P,o78 P,o79 P,o80 P,o81 P,o82 P,o83 P,o84 P,o85 P,o86 P,o87 P,o88 P,o89 P,o90 P,o91 P,o92 P,o93 P,o94 P,o95 P,o96 P,o97 P,o98 P,o99 P,o100 P,o101 P,o102 P,o103 P,o104 P,o105 P,o106 P,o107 P,o108 P,o109 P,o110 P,o111 P,o112 P,o113 P,o114 P,o115 P,o116 P,o117 P,o118 P,o119 P,o120 P,o121 P,o122 P,o123 P,o124 P,o125 P,o126 P,o127 P,o128 P,o129 P,o130 P,o131 P,o132 P,o133 P,o134 P,o135 P,o136 P,o137 P,o138 P,o139 P,o140 P,o141 P,o142 P,o143 P,o144 P,o145 P,o146 P,o147 P,o148 P,o149 P,o150 P,o151 P,o152 P,o153 P,o154 P,o155 P,o156 P,o157 P,o158 P,o159 P,o160 P,o161 P,o162 P,o163 P,o164 P,o165 P,o166 P,o167 P,o168 P,o169 P,o170 P,o171 P,o172 P,o173 P,o174 P,o175 P,o176 P,o177 P,o178 P,o179 P,o180 P,o181 P,o182 P,o183 P,o184 P,o185 P,o186 P,o187 P,o188 P,o189 P,o190 P,o191 P,o192 P,o193 P,o194 P,o195 P,o196 P,o197 P,o198 P,o199 P,o200 P,o201 P,o202 P,o203 P,o204 P,o205 P,o206 P,o207 P,o208 P,o209 P,o210 P,o211 P,o212 P,o213 P,o214 P,o215 P,o216 P,o217 P,o218 P,o219 P,o220 P,o221 P,o222 P,o223 P,o224 P,o225 P,o226 P,o227 P,o228 P,o229 P,o230 P,o231 P,o232 P,o233 P,o234 P,o235 P,o236 P,o237 P,o238 P,o239 P,o240 P,o241 P,o242 P,o243 P,o244 P,o245 P,o246 P,o247 P,o248 P,o249 P,o250 P,o251 P,o252 P,o253 P,o254 P,o255 P,o256 P,o257 P,o258 P,o259 P,o260 P,o261 P,o262 P,o263 P,o264 P,o265 P,o266 P,o267 P,o268 P,o269 P,o270 P,o271 P,o272 P,o273 P,o274 P,o275 P,o276 P,o277 P,o278 P,o279 P,o280 P,o281 P,o282 P,o283 P,o284 P,o285 P,o286 P,o287 P,o288 P,o289 P,o290 P,o291 P,o292 P,o293 P,o294 P,o295 P,o296 P,o297 P,o298 P,o299 P,o300 P,o301 P,o302 P,o303 P,o304 P,o305 P,o306 P,o307 P,o308 P,o309 P,o310 P,o311 P,o312 P,o313 P,o314 P,o315 P,o316 P,o317 P,o318 P,o319 P,o320 P,o321 P,o322 P,o323 P,o324 P,o325 P,o326 P,o327 P,o328 P,o329 P,o330 P,o331 P,o332 P,o333 P,o334 P,o335 P,o336 P,o337 P,o338 P,o339 P,o340 P,o341 P,o342 P,o343 P,o344 P,o345 P,o346 P,o347 P,o348 P,o349 P,o350 P,o351 P,o352 P,o353 P,o354 P,o355 P,o356 P,o357 P,o358 P,o359 P,o360 P,o361 P,o362 P,o363 P,o364 P,o365 P,o366 P,o367 P,o368 P,o369 P,o370 P,o371 P,o372 P,o373 P,o374 P,o375 P,o376 P,o377 P,o378 P,o379 P,o380 P,o381 P,o382 P,o383 P,o384 P,o385 P,o386 P,o387 P,o388 P,o389 P,o390 P,o391 P,o392 P,o393 P,o394 P,o395 P,o396 P,o397 P,o398 P,o399 P,o400 P,o401 P,o402 P,o403 P,o404 P,o405 P,o406 P,o407 P,o408 P,o409 P,o410 P,o411 P,o412 P,o413 P,o414 P,o415 P,o416 P,o417 P,o418 P,o419 P,o420 P,o421 P,o422 P,o423 P,o424 P,o425 P,o426 P,o427 P,o428 P,o429 P,o430 P,o431 P,o432 P,o433 P,o434 P,o435 P,o436 P,o437 P,o438 P,o439 P,o440 P,o441 P,o442 P,o443 P,o444 P,o445 P,o446 P,o447 P,o448 P,o449 P,o450 P,o451 P,o452 P,o453 P,o454 P,o455 P,o456 P,o457 P,o458 P,o459 P,o460 P,o461 P,o462 P,o463 P,o464 P,o465 P,o466 P,o467 P,o468 P,o469 P,o470 P,o471 P,o472 P,o473 P,o474 P,o475 P,o476 P,o477 P,o478 P,o479 P,o480 P,o481 P,o482 P,o483 P,o484 P,o485 P,o486 P,o487 P,o488 P,o489 P,o490 P,o491 P,o492 P,o493 P,o494 P,o495 P,o496 P,o497 P,o498 P,o499 P,o500 P,o501 P]
noncomputable def topEnv:Env:={ scope:=pw.main.scope,locals:=mainNs,globals:=mainNs,cells:=[],code:=.ref 13,frame:=some 14 }
noncomputable def bE:List Stmt:=behindTheImports pw
noncomputable def cE:Code:=.body bE topEnv
noncomputable def q0:Pos:=⟨0,0,0,0⟩
noncomputable def alt:List Obj→List Obj × List Obj
  | []=>([],[])
  | [x]=>([x],[])
  | x :: y :: r=>match alt r with
    | (a,b)=>(x :: a,y :: b)
noncomputable def mkT:Nat→List Obj→BT
  | 0,_=>.nil
  | _+1,[]=>.nil
  | n+1,x :: r=>match alt r with
    | (a,b)=>.node x (mkT n a) (mkT n b)
theorem alt_get:∀ (l:List Obj) (i:Nat),(alt l).1[i]? = l[2 * i]?∧(alt l).2[i]? = l[2 * i+1]?
  | [],i=>by simp [alt]
  | [x],i=>by cases i <;> simp [alt]
  | x :: y :: r,i=>by
    have ih:=alt_get r
    cases i with
    | zero=>simp [alt]
    | succ i=>
      have:=ih i
      simp only [alt,List.getElem?_cons_succ,show 2 * (i+1)=(2 * i)+1+1 by omega,show 2 * i+1+1+1=(2 * i+1)+1+1 by omega]
      exact this
theorem alt_len:∀ (l:List Obj),(alt l).1.length=(l.length+1) / 2∧(alt l).2.length=l.length / 2
  | []=>by simp [alt]
  | [x]=>by simp [alt]
  | x :: y :: r=>by
    obtain ⟨h1,h2⟩:=alt_len r
    exact ⟨(congrArg (· + 1) h1).trans (Nat.add_div_right (r.length+1) (by decide:0 < 2)).symm,(congrArg (· + 1) h2).trans (Nat.add_div_right r.length (by decide:0 < 2)).symm⟩
theorem half_odd {i:Nat} (h:i % 2=1):i=2 * (i / 2)+1:=by omega
theorem half_two (k:Nat):(2 * k+1) / 2=k:=by omega
theorem half_even {j:Nat} (h:¬ (j+1) % 2=1):2 * ((j+1) / 2 - 1)+1=j:=by omega
theorem mkT_get:∀ (n:Nat) (l:List Obj) (i:Nat),l.length < 2 ^ n→(mkT n l).get i=l[i]?
  | 0,l,i,h=>by
    have:l=[]:=List.length_eq_zero_iff.mp (by simpa using h)
    subst this
    simp [mkT,BT.get]
  | n+1,[],i,_=>by simp [mkT,BT.get]
  | n+1,x :: r,i,h=>by
    have hl:=alt_len r
    have hp:2 ^ (n+1)=2 * 2 ^ n:=by rw [Nat.pow_succ]; omega
    rw [List.length_cons,hp] at h
    have ha:=mkT_get n (alt r).1
    have hb:=mkT_get n (alt r).2
    simp only [mkT,BT.get_node]
    by_cases h0:i=0
    · subst h0; simp
    · rw [if_neg h0]
      by_cases ho:i % 2=1
      · rw [if_pos ho,ha _ (by omega),(alt_get r _).1]
        rw [half_odd ho,List.getElem?_cons_succ]
        congr 1; exact congrArg (2 * ·) (half_two _)
      · rw [if_neg ho,hb _ (by omega),(alt_get r _).2]
        obtain ⟨j,rfl⟩:∃ j,i=j+1:=Nat.exists_eq_succ_of_ne_zero h0
        rw [List.getElem?_cons_succ]
        congr 1; exact half_even ho
noncomputable def flat (l:List Obj) (toks:Nat) (os:OsState):Shared:=⟨⟨l.toArray,{}⟩,#[],{},toks,os⟩
noncomputable def tree (l:List Obj) (toks:Nat) (os:OsState):SharedT:=⟨mkT 10 l,l.length,{},#[],{},toks,os⟩
theorem tree_abs {l:List Obj} {toks:Nat} {os:OsState} (h:l.length < 1024):(tree l toks os).abs=flat l toks os:=by
  unfold tree flat SharedT.abs absHeap BT.list
  congr 2
  congr 1
  apply List.ext_getElem?
  intro i
  rw [List.getElem?_map]
  by_cases hi:i < l.length
  · rw [List.getElem?_range hi,Option.map_some,mkT_get 10 l i h,List.getElem?_eq_getElem hi]
    rfl
  · rw [List.getElem?_eq_none (by rw [List.length_range]; exact Nat.le_of_not_lt hi),List.getElem?_eq_none (by omega)]
    rfl
theorem quickRun:@segRunT = @PySem.W.Fast.tw10110043849684766642:=PySem.W.Fast.te10110043849684766642
theorem quickTree:treeTable=PySem.W.Fast.tw14364793385576792824:=PySem.W.Fast.te14364793385576792824
theorem quickGo:@topGo = @PySem.W.Fast.tw15667345088766844465:=PySem.W.Fast.te15667345088766844465
noncomputable abbrev ann:Option Value:=some (.ref 6)
noncomputable abbrev at0:List Frame:=[topFrame q0]
theorem pre1 (w:World) (os:OsState):PySem.W.Fast.tw15667345088766844465 PySem.W.Fast.tw14364793385576792824 pw w 11 ann 12 ⟨boot_heap w.params,#[],boot_drawn,boot_toks,os⟩ (topStub pw)=some (flat (objsA w.params) 187 os,⟨PySem.W.Fast.tw11892475500146522536 PySem.W.Fast.tw14364793385576792824 cE,cE,q0,at0⟩):=by kernel_rfl
theorem pre (w:World) (os:OsState):topGo treeTable pw w 11 ann 12 ⟨boot_heap w.params,#[],boot_drawn,boot_toks,os⟩ (topStub pw)=some (flat (objsA w.params) 187 os,⟨denote treeTable cE,cE,q0,at0⟩):=by
  rw [quickGo,PySem.W.Fast.te11892475500146522536,quickTree]
  exact pre1 w os
theorem block (w:World) (os:OsState):segRun treeTable pw w 11 ann 1 1 (flat (objsA w.params) 187 os) (blockOf bE topEnv cE q0 at0)=some (.next,flat (objsA w.params) 187 os,cE,q0):=by kernel_rfl
noncomputable abbrev qSeg:=@PySem.W.Fast.tw10110043849684766642
noncomputable abbrev qTree:=PySem.W.Fast.tw14364793385576792824
theorem seg_of {w:World} {os:OsState} {n k k':Nat} {l l':List Obj} {th:Thread} {p':Pos} (h:qSeg qTree pw w 11 ann 1 n (tree l k os) th=some (.next,tree l' k' os,cE,p')) (hl:l.length < 1024) (hl':l'.length < 1024) :
    segRun treeTable pw w 11 ann 1 n (flat l k os) th=some (.next,flat l' k' os,cE,p'):=by
  rw [← tree_abs hl,← tree_abs hl']
  refine segRun_of ?_
  rw [quickRun,quickTree]
  exact h
theorem piece1 (w:World) (os:OsState):qSeg qTree pw w 11 ann 1 1817 (tree (objsA w.params) 187 os) (piecesOf (bE.take 62) topEnv cE q0 at0)=some (.next,tree (objs62 w.params) 595 os,cE,⟨170,0,176,82⟩):=by kernel_rfl
theorem piece2 (w:World) (os:OsState):qSeg qTree pw w 11 ann 1 225 (tree (objs62 w.params) 595 os) (piecesOf ((bE.drop 62).take 1) topEnv cE ⟨170,0,176,82⟩ at0)=some (.next,tree (objs63 w.params) 626 os,cE,⟨177,0,181,26⟩):=by kernel_rfl
theorem piece3 (w:World) (os:OsState):qSeg qTree pw w 11 ann 1 1257 (tree (objs63 w.params) 626 os) (piecesOf (bE.drop 63) topEnv cE ⟨177,0,181,26⟩ at0)=some (.next,tree (objs71 w.params) 943 os,cE,⟨473,0,482,38⟩):=by kernel_rfl
theorem fin (w:World) (os:OsState):topRun treeTable pw w 11 ann 2 (flat (objs71 w.params) 943 os) ⟨doneF .next,cE,⟨473,0,482,38⟩,at0⟩=some (flat (objs71 w.params) 943 os):=by kernel_rfl
theorem cut_body:bE=bE.take 62++((bE.drop 62).take 1++(bE.drop 63++[])):=by
  rw [List.append_nil,show bE.drop 63=(bE.drop 62).drop 1 by rw [List.drop_drop],List.take_append_drop,List.take_append_drop]
theorem run (w:World) (os:OsState):topRun treeTable pw w 11 ann (12+(1+(1817+(225+(1257+2))))) ⟨boot_heap w.params,#[],boot_drawn,boot_toks,os⟩ (topStub pw)=some (flat (objs71 w.params) 943 os):=by
  refine go_top (pre w os) ?_
  refine piece_block (block w os) ?_
  rw [cut_body]
  refine piece_app (seg_of (piece1 w os) (Nat.le_of_ble_eq_true (by kernel_rfl)) (Nat.le_of_ble_eq_true (by kernel_rfl))) ?_
  refine piece_app (seg_of (piece2 w os) (Nat.le_of_ble_eq_true (by kernel_rfl)) (Nat.le_of_ble_eq_true (by kernel_rfl))) ?_
  refine piece_app (seg_of (piece3 w os) (Nat.le_of_ble_eq_true (by kernel_rfl)) (Nat.le_of_ble_eq_true (by kernel_rfl))) ?_
  exact piece_nil (fin w os)
noncomputable def lawView:Program:={ pw with main:={ pw.main with body:=[stm 70] } }
end
noncomputable section
noncomputable def KF (P:Params):Frag:=[(3,o3v3 P),(11,o11 P),(12,o12v3 P),(13,o13 P),(14,o14 P),(15,o15 P),(16,o16 P),(17,o17 P),(18,o18 P),(19,o19 P),(20,o20 P),(21,o21 P),(22,o22 P),(23,o23 P),(24,o24 P),(25,o25 P),(26,o26 P),(27,o27 P),(28,o28 P),(29,o29 P),(30,o30 P),(31,o31 P),(32,o32 P),(33,o33 P),(34,o34 P),(35,o35 P),(36,o36 P),(37,o37 P),(38,o38 P),(39,o39 P),(40,o40 P),(41,o41 P),(42,o42 P),(43,o43 P),(44,o44 P),(45,o45 P),(46,o46 P),(47,o47 P),(48,o48 P),(49,o49 P),(50,o50 P),(51,o51 P),(52,o52 P),(53,o53 P),(54,o54 P),(55,o55 P),(56,o56 P),(57,o57 P),(58,o58 P),(59,o59 P),(60,o60 P),(61,o61 P),(62,o62 P),(63,o63 P),(64,o64 P),(65,o65 P),(66,o66 P),(67,o67 P),(68,o68 P),(69,o69 P),(70,o70 P),(71,o71 P),(72,o72 P),(73,o73 P),(74,o74 P),(75,o75 P),(76,o76 P),(77,o77 P),(78,o78 P),(79,o79 P),(80,o80 P),(81,o81 P),(82,o82 P),(83,o83 P),(84,o84 P),(85,o85 P),(86,o86 P),(87,o87 P),(88,o88 P),(89,o89 P),(90,o90 P),(91,o91 P),(92,o92 P),(93,o93 P),(94,o94 P),(95,o95 P),(96,o96 P),(97,o97 P),(98,o98 P),(99,o99 P),(100,o100 P),(101,o101 P),(102,o102 P),(103,o103 P),(104,o104 P),(105,o105 P),(106,o106 P),(107,o107 P),(108,o108 P),(109,o109 P),(110,o110 P),(111,o111 P),(112,o112 P),(113,o113 P),(114,o114 P),(115,o115 P),(116,o116 P),(117,o117 P),(118,o118 P),(119,o119 P),(120,o120 P),(121,o121 P),(122,o122 P),(123,o123 P),(124,o124 P),(125,o125 P),(126,o126 P),(127,o127 P),(128,o128 P),(129,o129 P),(130,o130 P),(131,o131 P),(132,o132 P),(133,o133 P),(134,o134 P),(135,o135 P),(136,o136 P),(137,o137 P),(138,o138 P),(139,o139 P),(140,o140 P),(141,o141 P),(142,o142 P),(143,o143 P),(144,o144 P),(145,o145 P),(146,o146 P),(147,o147 P),(148,o148 P),(149,o149 P),(150,o150 P),(151,o151 P),(152,o152 P),(153,o153 P),(154,o154 P),(155,o155 P),(156,o156 P),(157,o157 P),(158,o158 P),(159,o159 P),(160,o160 P),(161,o161 P),(162,o162 P),(163,o163 P),(164,o164 P),(165,o165 P),(166,o166 P),(167,o167 P),(168,o168 P),(169,o169 P),(170,o170 P),(171,o171 P),(172,o172 P),(173,o173 P),(174,o174 P),(175,o175 P),(176,o176 P),(177,o177 P),(178,o178 P),(179,o179 P),(180,o180 P),(181,o181 P),(182,o182 P),(183,o183 P),(184,o184 P),(185,o185 P),(186,o186 P),(187,o187 P),(188,o188 P),(189,o189 P),(190,o190 P),(191,o191 P),(192,o192 P),(193,o193 P),(194,o194 P),(195,o195 P),(196,o196 P),(197,o197 P),(198,o198 P),(199,o199 P),(200,o200 P),(201,o201 P),(202,o202 P),(203,o203 P),(204,o204 P),(205,o205 P),(206,o206 P),(207,o207 P),(208,o208 P),(209,o209 P),(210,o210 P),(211,o211 P),(212,o212 P),(213,o213 P),(214,o214 P),(215,o215 P),(216,o216 P),(217,o217 P),(218,o218 P),(219,o219 P),(220,o220 P),(221,o221 P),(222,o222 P),(223,o223 P),(224,o224 P),(225,o225 P),(226,o226 P),(227,o227 P),(228,o228 P),(229,o229 P),(230,o230 P),(231,o231 P),(232,o232 P),(233,o233 P),(234,o234 P),(235,o235 P),(236,o236 P),(237,o237 P),(238,o238 P),(239,o239 P),(240,o240 P),(241,o241 P),(242,o242 P),(243,o243 P),(244,o244 P),(245,o245 P),(246,o246 P),(247,o247 P),(248,o248 P),(249,o249 P),(250,o250 P),(251,o251 P),(252,o252 P),(253,o253 P),(254,o254 P),(255,o255 P),(256,o256 P),(257,o257 P),(258,o258 P),(259,o259 P),(260,o260 P),(261,o261 P),(262,o262 P),(263,o263 P),(264,o264 P),(265,o265 P),(266,o266 P),(267,o267 P),(268,o268 P),(269,o269 P),(270,o270 P),(271,o271 P),(272,o272 P),(273,o273 P),(274,o274 P),(275,o275 P),(276,o276 P),(277,o277 P),(278,o278 P),(279,o279 P),(280,o280 P),(281,o281 P),(282,o282 P),(283,o283 P),(284,o284 P),(285,o285 P),(286,o286 P),(287,o287 P),(288,o288 P),(289,o289 P),(290,o290 P),(291,o291 P),(292,o292 P),(293,o293 P),(294,o294 P),(295,o295 P),(296,o296 P),(297,o297 P),(298,o298 P),(299,o299 P),(300,o300 P),(301,o301 P),(302,o302 P),(303,o303 P),(304,o304 P),(305,o305 P),(306,o306 P),(307,o307 P),(308,o308 P),(309,o309 P),(310,o310 P),(311,o311 P),(312,o312 P),(313,o313 P),(314,o314 P),(315,o315 P),(316,o316 P),(317,o317 P),(318,o318 P),(319,o319 P),(320,o320 P),(321,o321 P),(322,o322 P),(323,o323 P),(324,o324 P),(325,o325 P),(326,o326 P),(327,o327 P),(328,o328 P),(329,o329 P),(330,o330 P),(331,o331 P),(332,o332 P),(333,o333 P),(334,o334 P),(335,o335 P),(336,o336 P),(337,o337 P),(338,o338 P),(339,o339 P),(340,o340 P),(341,o341 P),(342,o342 P),(343,o343 P),(344,o344 P),(345,o345 P),(346,o346 P),(347,o347 P),(348,o348 P),(349,o349 P),(350,o350 P),(351,o351 P),(352,o352 P),(353,o353 P),(354,o354 P),(355,o355 P),(356,o356 P),(357,o357 P),(358,o358 P),(359,o359 P),(360,o360 P),(361,o361 P),(362,o362 P),(363,o363 P),(364,o364 P),(365,o365 P),(366,o366 P),(367,o367 P),(368,o368 P),(369,o369 P),(370,o370 P),(371,o371 P),(372,o372 P),(373,o373 P),(374,o374 P),(375,o375 P),(376,o376 P),(377,o377 P),(378,o378 P),(379,o379 P),(380,o380 P),(381,o381 P),(382,o382 P),(383,o383 P),(384,o384 P),(385,o385 P),(386,o386 P),(387,o387 P),(388,o388 P),(389,o389 P),(390,o390 P),(391,o391 P),(392,o392 P),(393,o393 P),(394,o394 P),(395,o395 P),(396,o396 P),(397,o397 P),(398,o398 P),(399,o399 P),(400,o400 P),(401,o401 P),(402,o402 P),(403,o403 P),(404,o404 P),(405,o405 P),(406,o406 P),(407,o407 P),(408,o408 P),(409,o409 P),(410,o410 P),(411,o411 P),(412,o412 P),(413,o413 P),(414,o414 P),(415,o415 P),(416,o416 P),(417,o417 P),(418,o418 P),(419,o419 P),(420,o420 P),(421,o421 P),(422,o422 P),(423,o423 P),(424,o424 P),(425,o425 P),(426,o426 P),(427,o427 P),(428,o428 P),(429,o429 P),(430,o430 P),(431,o431 P),(432,o432 P),(433,o433 P),(434,o434 P),(435,o435 P),(436,o436 P),(437,o437 P),(438,o438 P),(439,o439 P),(440,o440 P),(441,o441 P),(442,o442 P),(443,o443 P),(444,o444 P),(445,o445 P),(446,o446 P),(447,o447 P),(448,o448 P),(449,o449 P),(450,o450 P),(451,o451 P),(452,o452 P),(453,o453 P),(454,o454 P),(455,o455 P),(456,o456 P),(457,o457 P),(458,o458 P),(459,o459 P),(460,o460 P),(461,o461 P),(462,o462 P),(463,o463 P),(464,o464 P),(465,o465 P),(466,o466 P),(467,o467 P),(468,o468 P),(469,o469 P),(470,o470 P),(471,o471 P),(472,o472 P),(473,o473 P),(474,o474 P),(475,o475 P),(476,o476 P),(477,o477 P),(478,o478 P),(479,o479 P),(480,o480 P),(481,o481 P),(482,o482 P),(483,o483 P),(484,o484 P),(485,o485 P),(486,o486 P),(487,o487 P),(488,o488 P),(489,o489 P),(490,o490 P),(491,o491 P),(492,o492 P),(493,o493 P),(494,o494 P),(495,o495 P),(496,o496 P),(497,o497 P),(498,o498 P),(499,o499 P),(500,o500 P),(501,o501 P)]
noncomputable def KA:List Addr:=[3,11,12,13,14,15,16,17,18,19,20,21,22,23,24,25,26,27,28,29,30,31,32,33,34,35,36,37,38,39,40,41,42,43,44,45,46,47,48,49,50,51,52,53,54,55,56,57,58,59,60,61,62,63,64,65,66,67,68,69,70,71,72,73,74,75,76,77,78,79,80,81,82,83,84,85,86,87,88,89,90,91,92,93,94,95,96,97,98,99,100,101,102,103,104,105,106,107,108,109,110,111,112,113,114,115,116,117,118,119,120,121,122,123,124,125,126,127,128,129,130,131,132,133,134,135,136,137,138,139,140,141,142,143,144,145,146,147,148,149,150,151,152,153,154,155,156,157,158,159,160,161,162,163,164,165,166,167,168,169,170,171,172,173,174,175,176,177,178,179,180,181,182,183,184,185,186,187,188,189,190,191,192,193,194,195,196,197,198,199,200,201,202,203,204,205,206,207,208,209,210,211,212,213,214,215,216,217,218,219,220,221,222,223,224,225,226,227,228,229,230,231,232,233,234,235,236,237,238,239,240,241,242,243,244,245,246,247,248,249,250,251,252,253,254,255,256,257,258,259,260,261,262,263,264,265,266,267,268,269,270,271,272,273,274,275,276,277,278,279,280,281,282,283,284,285,286,287,288,289,290,291,292,293,294,295,296,297,298,299,300,301,302,303,304,305,306,307,308,309,310,311,312,313,314,315,316,317,318,319,320,321,322,323,324,325,326,327,328,329,330,331,332,333,334,335,336,337,338,339,340,341,342,343,344,345,346,347,348,349,350,351,352,353,354,355,356,357,358,359,360,361,362,363,364,365,366,367,368,369,370,371,372,373,374,375,376,377,378,379,380,381,382,383,384,385,386,387,388,389,390,391,392,393,394,395,396,397,398,399,400,401,402,403,404,405,406,407,408,409,410,411,412,413,414,415,416,417,418,419,420,421,422,423,424,425,426,427,428,429,430,431,432,433,434,435,436,437,438,439,440,441,442,443,444,445,446,447,448,449,450,451,452,453,454,455,456,457,458,459,460,461,462,463,464,465,466,467,468,469,470,471,472,473,474,475,476,477,478,479,480,481,482,483,484,485,486,487,488,489,490,491,492,493,494,495,496,497,498,499,500,501]
noncomputable def looseNames:List Str:=[Str.ofString "_wall",Str.ofString "BLANKS",Str.ofString "Limits",Str.ofString "LuaError",Str.ofString "LuaSyntaxError",Str.ofString "is_number",Str.ofString "wrap",Str.ofString "is_blank",Str.ofString "is_blank_values",Str.ofString "digit_of",Str.ofString "read_digits",Str.ofString "skip_blanks",Str.ofString "str_to_number",Str.ofString "text_in_base",Str.ofString "number_text",Str.ofString "to_text",Str.ofString "c_text",Str.ofString "first_line",Str.ofString "chunk_id",Str.ofString "END_OF_TEXT",Str.ofString "FIRST_RESERVED",Str.ofString "RESERVED",Str.ofString "TK_CONCAT",Str.ofString "TK_DOTS",Str.ofString "TK_EQ",Str.ofString "TK_GE",Str.ofString "TK_LE",Str.ofString "TK_NE",Str.ofString "TK_NUMBER",Str.ofString "TK_NAME",Str.ofString "TK_STRING",Str.ofString "TK_EOS",Str.ofString "OTHER_TEXTS",Str.ofString "SOURCE_SIZE",Str.ofString "MOST_LINES",Str.ofString "NEWLINE",Str.ofString "RETURN",Str.ofString "QUOTE_DOUBLE",Str.ofString "QUOTE_SINGLE",Str.ofString "PLUS",Str.ofString "MINUS",Str.ofString "DOT",Str.ofString "LESS",Str.ofString "EQUALS",Str.ofString "GREATER",Str.ofString "BRACKET_OPEN",Str.ofString "BACKSLASH",Str.ofString "BRACKET_CLOSE",Str.ofString "UNDERSCORE",Str.ofString "TILDE",Str.ofString "is_digit",Str.ofString "is_letter",Str.ofString "is_name_sign",Str.ofString "is_blank_lexer",Str.ofString "is_control",Str.ofString "is_newline",Str.ofString "escaped_sign",Str.ofString "reserved_kinds",Str.ofString "token_text",Str.ofString "Token",Str.ofString "Lexer",Str.ofString "all_tokens",Str.ofString "_law_pieces",Str.ofString "_law_shown",Str.ofString "_law_plain",Str.ofString "_law_peeked"]
noncomputable abbrev rw1:OpenLaw:=PySem.Challenge.rw_rr0064_01
noncomputable abbrev rowR:RowW:=rw1.row.toRowW
noncomputable def XtL (s:Shared):Bool:=xlAt lawView [] s && recOk (RowW.records rowR) s
theorem open0:∀ w:World,(fencedOpening treeTable pw w 7000).map (fun s=>(s.heap,s.gens,s.drawn,s.toks))=some (boot_heap w.params,Array.mk [],boot_drawn,boot_toks):=
  boot_open (by kernel_rfl) (by decide) (fun s=>by kernel_rfl)
theorem size0 (w:World):((boot_heap w.params).isNs mainGlobals && (#[]:Array GenState).size == 0,(boot_heap w.params).objs.size,(boot_heap w.params).nsMap mainGlobals "__annotations__")=(true,11,ann):=by kernel_rfl
theorem look1 (w:World) (os:OsState):(staticsOk (importedModules pw.main.body) (boot_heap w.params) (flat (objs71 w.params) 943 os).heap && namesBound pw (flat (objs71 w.params) 943 os).heap && gensDone (flat (objs71 w.params) 943 os) && laidKept (boot_heap w.params) (flat (objs71 w.params) 943 os).heap)=true:=by kernel_rfl
theorem look2q (w:World) (os:OsState):PySem.W.Fast.tw4187177175401517315 lawView looseNames (importedModules pw.main.body) XtL true (flat (objs71 w.params) 943 os)=openGood lawView looseNames:=by kernel_rfl
theorem look2 (w:World) (os:OsState):openSeen lawView looseNames (importedModules pw.main.body) XtL true (flat (objs71 w.params) 943 os)=openGood lawView looseNames:=by
  rw [PySem.W.Fast.te4187177175401517315]
  exact look2q w os
theorem look3 (w:World) (os:OsState):KA.map (flat (objs71 w.params) 943 os).heap.get? = (KF w.params).map fun p=>some p.2:=by kernel_rfl
theorem keys (P:Params):KA=(KF P).map (·.1):=by kernel_rfl
noncomputable abbrev hook:Hook:=kHook KF KA keys
theorem left:LeftO pw lawView looseNames XtL (Hook.obs hook) (Hook.val hook) 7000:=
  LeftO.of_pieces (H₁:=fun P=>⟨(objs71 P).toArray,{}⟩) (gs₁:=#[]) (d₁:={}) (k₁:=943) (m₀:=11) (ann:=ann) open0 size0 run (by decide) (fun w=>by
    funext os
    exact Prod.ext (look1 w os) (Prod.ext (look2 w os) (look3 w os)))
end
section
open Sem (wp)
theorem nS {α:Type} {b:α} {P:Prop} (h:(Option.none:Option α)=some b):P:=nomatch h
noncomputable def calm:Code→Bool
  | .builtin id _=>!Builtin.Bytes.decodersThatHold.contains id
  | _=>true
structure Calm (Γ:Ctx):Prop where
  code:calm Γ.code=true
  below:∀ x∈Γ.below,calm x.1=true
noncomputable def wpG {α:Type} (M:Model) (A:Around) (t:Sem α) (Q:α→Shared→Prop) (E:Value→Shared→Prop) (s:Shared):Prop:=
  ∀ Γ p,Calm Γ→Γ.In A→wp M Γ t (fun a ω s'=>Q a s') (fun e ω s'=>E e s') p s
noncomputable def codeG (M:Model) (A:Around) (c:Code) (R:Result→Shared→Prop) (s:Shared):Prop:=
  ∀ Γ p,Γ.code=c→Calm Γ→Γ.Below A→wpCode M Γ R p s
section
variable {α β:Type} {M:Model} {A:Around} {E:Value→Shared→Prop} {s:Shared}
theorem wpG_of {t:Sem α} {Q:α→Shared→Prop} (h:wpAny M A t Q E s):wpG M A t Q E s:=fun Γ p ω hΓ=>h Γ p hΓ
theorem codeG_of {c:Code} {R:Result→Shared→Prop} (h:codeAny M A c R s):codeG M A c R s:=fun Γ p hc ω hΓ=>h Γ p hc hΓ
theorem wpG_pure {a:α} {Q:α→Shared→Prop} (h:Q a s):wpG M A (pure a) Q E s:=wpG_of (wpAny_pure h)
theorem wpG_mono {t:Sem α} {Q Q':α→Shared→Prop} {E':Value→Shared→Prop} (h:wpG M A t Q E s) (hQ:∀ a s,Q a s→Q' a s) (hE:∀ e s,E e s→E' e s):wpG M A t Q' E' s:=
  fun Γ p c hΓ=>Sem.wp_mono M Γ t (fun a ω s=>hQ a s) (fun e ω s=>hE e s) p s (h Γ p c hΓ)
theorem wpG_bind {m:Sem α} {f:α→Sem β} {Q:β→Shared→Prop} (h:wpG M A m (fun a s'=>wpG M A (f a) Q E s') E s):wpG M A (m >>= f) Q E s:=fun Γ p c hΓ=>by
  rw [Sem.wp_bind']
  exact Sem.wp_mono M Γ m (fun a p' s' h'=>h' Γ p' c hΓ) (fun ω ω ω h'=>h') p s (h Γ p c hΓ)
theorem leaf {m:Sem α} {f:α→Sem β} {Q:β→Shared→Prop} (h:wpAny M A m (fun a s'=>wpG M A (f a) Q E s') E s):wpG M A (m >>= f) Q E s:=wpG_bind (wpG_of h)
theorem wpG_then {m:Sem α} {f:α→Sem β} {P:α→Shared→Prop} {Q:β→Shared→Prop} (h:wpG M A m P E s) (k:∀ a s',P a s'→wpG M A (f a) Q E s'):wpG M A (m >>= f) Q E s:=
  wpG_bind (wpG_mono h k fun ω ω x=>x)
theorem wpG_holding {vs:List Value} {m:Sem α} {Q:α→Shared→Prop} (h:wpG M A m Q E s):wpG M A (holding vs m) Q E s:=fun Γ p c hΓ=>by
  rw [Sem.wp_holding]; exact h Γ p c hΓ
theorem wpG_operate {vs:List Value} {m:Sem Value} {Q:Value→Shared→Prop} (h:wpG M A m Q E s):wpG M A (operate vs m) Q E s:=fun Γ p c hΓ=>by
  rw [Sem.wp_operate]; exact h Γ p c hΓ
theorem wpG_keep {vs:List Value} {m:Sem α} {Q:α→Shared→Prop} (h:wpG M A m Q E s):wpG M A (m.keep vs) Q E s:=fun Γ p c hΓ=>by
  rw [Sem.wp_keep]; exact h Γ p c hΓ
theorem wpG_onRaise {m:Sem α} {k:Value→Sem Unit} {Q:α→Shared→Prop} (h:wpG M A m Q (fun e s'=>wpG M A (k e) (fun ω s''=>E e s'') E s') s):wpG M A (m.onRaise k) Q E s:=fun Γ p c hΓ=>by
  rw [Sem.wp_onRaise]
  exact Sem.wp_mono M Γ m (fun ω ω ω h'=>h') (fun e p' s' h'=>h' Γ p' c hΓ) p s (h Γ p c hΓ)
theorem wpG_attempt {m:Sem α} {Q:Except Value α→Shared→Prop} (h:wpG M A m (fun a=>Q (.ok a)) (fun e=>Q (.error e)) s):wpG M A m.attempt Q E s:=fun Γ p c hΓ=>by
  rw [Sem.wp_attempt]; exact h Γ p c hΓ
theorem wpG_eq {t t':Sem α} {Q:α→Shared→Prop} (e:t=t') (h:wpG M A t' Q E s):wpG M A t Q E s:=e ▸ h
theorem Calm.enter {Γ:Ctx} (h:Calm Γ) (c:Code) (hd:Option Value) (p:Pos) (hc:calm c=true):Calm (Γ.enter c hd p):=
  ⟨hc,fun x hx=>by
    rcases List.mem_cons.mp hx with rfl | hx
    · exact h.code
    · exact h.below x hx⟩
theorem Calm.goto {Γ:Ctx} (h:Calm Γ) (c:Code) (hc:calm c=true):Calm (Γ.goto c):=⟨hc,h.below⟩
theorem codeG_mono {c:Code} {R R':Result→Shared→Prop} (h:codeG M A c R s) (hR:∀ r s,R r s→R' r s):codeG M A c R' s:=fun Γ p hc k hΓ=>wpCode_mono hR (h Γ p hc k hΓ)
theorem wpG_run {c:Code} {h:Option Value} {Q:Flow→Shared→Prop} (hcalm:calm c=true)
    (hc:codeG M (A.mark h) c (fun r s'=>match r with | .ok f=>Q f s' | .error e=>E e s') s) (hnb:h≠some byPass:=by intro x; cases x):wpG M A (PySem.run c h) Q E s:=
  fun Γ p k hΓ=>by rw [Sem.wp_run]; exact hc _ p rfl (k.enter c h p hcalm) (hΓ.enter c h p hnb)
theorem wpG_runValue {c:Code} {Q:Value→Shared→Prop} (hcalm:calm c=true) (hc:codeG M A c (fun r s'=>match r with | .ok (.ret v)=>Q v s' | .ok _=>False | .error e=>E e s') s):wpG M A (runValue c) Q E s:=
  fun Γ p k hΓ=>by rw [Sem.wp_runValue]; exact hc _ p rfl (k.enter c none p hcalm) (hΓ.enter c none p (by intro x; cases x))
theorem wpG_call {f:Value} {pos:List Value} {kw:List (Str × Value)} {Q:Value→Shared→Prop}
    (hc:codeG M A (.call f ⟨pos,kw⟩) (fun r s'=>match r with | .ok (.ret v)=>Q v s' | .ok _=>False | .error e=>E e s') s):wpG M A (call f pos kw) Q E s:=wpG_runValue rfl hc
theorem codeG_tree {c:Code} {R:Result→Shared→Prop}
    (h:wpG M (A.under c) (M.den c) (fun fin s'=>match fin with | .done f=>R (.ok f) s' | .again c'=>calm c'=true∧c'.quiet=true∧codeG M A c' R s') (fun e s'=>R (.error e) s') s):codeG M A c R s:=fun Γ p hc k hΓ=>by
  rw [wpCode_iff_wp,hc]
  refine Sem.wp_mono M Γ _ (fun fin p' s' h'=>?_) (fun ω ω ω h'=>h') p s (h Γ p k (hc ▸ hΓ.in))
  cases fin with
  | done f=>exact h'
  | again c'=>exact ⟨h'.2.1,h'.2.2 (Γ.goto c') p' rfl (k.goto c' h'.1) (hΓ.goto c')⟩
theorem codeG_loop {c:Code} {R:Result→Shared→Prop} (hcalm:calm c=true) (hq:c.quiet=true) (I:Nat→Shared→Prop)
    (turn:∀ n s,I n s→wpG M (A.under c) (M.den c) (fun fin s'=>match fin with | .done f=>R (.ok f) s' | .again c'=>c'=c∧∃ m,m < n∧I m s') (fun e s'=>R (.error e) s') s)
    (n:Nat) (h:I n s):codeG M A c R s:=by
  induction n using Nat.strongRecOn generalizing s with
  | ind n ih=>
    refine codeG_tree (wpG_mono (turn n s h) (fun fin s' hf=>?_) fun ω ω h'=>h')
    cases fin with
    | done f=>exact hf
    | again c'=>obtain ⟨rfl,m,hm,hI⟩:=hf; exact ⟨hcalm,hq,ih m hm hI⟩
end
section
variable {M:Model} {A:Around} {E:Value→Shared→Prop} {s:Shared} {env:Env}
theorem g_truthBool {b:Bool} {Q:Bool→Shared→Prop} (h:Q b s):wpG M A (truthy (.bool b)) Q E s:=wpG_of (wpAny_truthy_bool h)
theorem g_isTrue {e:Expr} {whole:Sem Value} {Q:Bool→Shared→Prop} (h:wpG M A whole (fun v s₁=>wpG M A (truthy v) Q E s₁) E s)
    (he:PySem.isTrue e env whole=(do let v ← whole; standAt e.pos; holding [v] (truthy v))):wpG M A (PySem.isTrue e env whole) Q E s:=
  wpG_eq he (wpG_then h fun ω ω h₁=>leaf (wpAny_standAt (wpG_holding h₁)))
theorem g_spliced_cons {x:Sem Value} {rest:List (Bool × Sem Value)} {Q:List Value→Shared→Prop} (h:wpG M A x (fun v s₁=>wpG M A (spliced rest) (fun vs s₂=>Q (v :: vs) s₂) E s₁) E s):wpG M A (spliced ((false,x) :: rest)) Q E s:=by
  rw [spliced]
  refine wpG_then h fun v s₁ h₁=>?_
  simp only [Bool.false_eq_true,if_false]
  exact leaf (wpAny_pure (wpG_bind (wpG_holding (wpG_mono h₁ (fun vs s₂ h₂=>wpG_pure h₂) fun ω ω x=>x))))
theorem g_more {e:Expr} {rest:List Expr} {pos:Pos} {Q:List Value→Shared→Prop} (h:wpG M A (eval e env) (fun v s₁=>wpG M A (spliced (backTo pos (starEach rest env))) (fun vs s₂=>Q (v :: vs) s₂) E s₁) E s)
    (he:starEach (e :: rest) env=(false,eval e env) :: starEach rest env):wpG M A (spliced (backTo pos (starEach (e :: rest) env))) Q E s:=by
  rw [he]; exact g_spliced_cons h
theorem g_none {pos:Pos} {Q:List Value→Shared→Prop} (h:Q [] s):wpG M A (spliced (backTo pos (starEach [] env))) Q E s:=wpG_of (spliced_none h)
theorem g_Tuple {elts:List Expr} {k:Nat} {pos:Pos} {Q:Value→Shared→Prop} (h:wpG M A (spliced (backTo pos (starEach elts env))) (fun vs s₁=>wpG M A (newTuple vs) Q E s₁) E s):wpG M A (eval (.Tuple elts k pos) env) Q E s:=by
  show wpG M A (do standAt pos; newTuple (← spliced (backTo pos (starEach elts env)))) Q E s
  exact leaf (wpAny_standAt (wpG_bind h))
theorem g_List {elts:List Expr} {pos:Pos} {Q:Value→Shared→Prop} (h:wpG M A (spliced (backTo pos (starEach elts env))) (fun vs s₁=>wpG M A (newList vs) Q E s₁) E s):wpG M A (eval (.List elts pos) env) Q E s:=by
  show wpG M A (do standAt pos; newList (← spliced (backTo pos (starEach elts env)))) Q E s
  exact leaf (wpAny_standAt (wpG_bind h))
theorem g_BinOp {l:Expr} {op:Operator} {r:Expr} {pos:Pos} {Q:Value→Shared→Prop} (h:wpG M A (eval l env) (fun a s₁=>wpG M A (eval r env) (fun b s₂=>wpG M A (binaryOp op a b) Q E s₂) E s₁) E s):wpG M A (eval (.BinOp l op r pos) env) Q E s:=by
  rw [eval_BinOp]
  exact wpG_then h fun a s₁ h₁=>wpG_bind (wpG_holding (wpG_mono h₁ (fun b s₂ h₂=>leaf (wpAny_standAt (wpG_operate h₂))) fun ω ω x=>x))
theorem g_UnaryOp {op:UnaryOp} {x:Expr} {pos:Pos} {Q:Value→Shared→Prop} (h:wpG M A (eval x env) (fun v s₁=>wpG M A (unaryOp op v) Q E s₁) E s):wpG M A (eval (.UnaryOp op x pos) env) Q E s:=by
  rw [arm_eval_UnaryOp]
  exact wpG_then h fun v s₁ h₁=>leaf (wpAny_standAt (wpG_holding h₁))
theorem g_Compare1 {l:Expr} {op:CmpOp} {r:Expr} {pos:Pos} {Q:Value→Shared→Prop} (h:wpG M A (eval l env) (fun a s₁=>wpG M A (eval r env) (fun b s₂=>wpG M A (compareOp op a b) Q E s₂) E s₁) E s) (hm:behindInMarks op r=false):wpG M A (eval (.Compare l [op] [r] pos) env) Q E s:=by
  rw [eval_Compare1,markedBehindIn_of_false hm]
  exact wpG_then h fun a s₁ h₁=>wpG_bind (wpG_holding (wpG_mono h₁ (fun b s₂ h₂=>leaf (wpAny_standAt (wpG_operate h₂))) fun ω ω x=>x))
theorem g_isTrue_Compare1 {l:Expr} {op:CmpOp} {r:Expr} {pos:Pos} {whole:Sem Value} {Q:Bool→Shared→Prop} (h:wpG M A (eval l env) (fun a s₁=>wpG M A (eval r env) (fun b s₂=>wpG M A (compareOp op a b) (fun c s₃=>wpG M A (truthy c) Q E s₃) E s₂) E s₁) E s) (hm:behindInMarks op r=false) :
    wpG M A (PySem.isTrue (.Compare l [op] [r] pos) env whole) Q E s:=by
  rw [isTrue_Compare1,markedBehindIn_of_false hm]
  exact wpG_then h fun a s₁ h₁=>wpG_bind (wpG_holding (wpG_mono h₁ (fun b s₂ h₂=>leaf (wpAny_standAt (wpG_bind (wpG_operate (wpG_mono h₂ (fun c s₃ h₃=>wpG_holding h₃) fun ω ω x=>x))))) fun ω ω x=>x))
theorem g_chain {l:Expr} {op₁ op₂:CmpOp} {ops:List CmpOp} {r₁ r₂:Expr} {rs:List Expr} {pos:Pos} {Q:Value→Shared→Prop}
    (h:wpG M A (eval l env) (fun a s₁=>wpG M A (compareChain pos a (op₁ :: op₂ :: ops) (eval r₁ env :: eval r₂ env :: evalEach rs env)) Q E s₁) E s) (hm:lastMarks (op₁ :: op₂ :: ops) (r₁ :: r₂ :: rs)=false):wpG M A (eval (.Compare l (op₁ :: op₂ :: ops) (r₁ :: r₂ :: rs) pos) env) Q E s:=by
  show wpG M A (do compareChain pos (← eval l env) (op₁ :: op₂ :: ops) (markedEach (op₁ :: op₂ :: ops) (r₁ :: r₂ :: rs) (evalEach (r₁ :: r₂ :: rs) env))) Q E s
  rw [markedEach_of_false _ _ _ hm]
  exact wpG_bind h
theorem g_isTrue_chain {l:Expr} {op₁ op₂:CmpOp} {ops:List CmpOp} {r₁ r₂:Expr} {rs:List Expr} {pos:Pos} {whole:Sem Value} {Q:Bool→Shared→Prop}
    (h:wpG M A (eval l env) (fun a s₁=>wpG M A (testChain pos a (op₁ :: op₂ :: ops) (eval r₁ env :: eval r₂ env :: evalEach rs env)) Q E s₁) E s) (hm:lastMarks (op₁ :: op₂ :: ops) (r₁ :: r₂ :: rs)=false):wpG M A (PySem.isTrue (.Compare l (op₁ :: op₂ :: ops) (r₁ :: r₂ :: rs) pos) env whole) Q E s:=by
  show wpG M A (do testChain pos (← eval l env) (op₁ :: op₂ :: ops) (markedEach (op₁ :: op₂ :: ops) (r₁ :: r₂ :: rs) (evalEach (r₁ :: r₂ :: rs) env))) Q E s
  rw [markedEach_of_false _ _ _ hm]
  exact wpG_bind h
theorem g_chain_link {pos:Pos} {a:Value} {op op':CmpOp} {ops:List CmpOp} {r r':Sem Value} {rs:List (Sem Value)} {Q:Value→Shared→Prop}
    (h:wpG M A r (fun b s₁=>wpG M A (compareOp op a b) (fun c s₂=>wpG M A (truthy c) (fun t s₃=>if t then wpG M A (compareChain pos b (op' :: ops) (r' :: rs)) Q E s₃ else Q c s₃) E s₂) E s₁) E s):wpG M A (compareChain pos a (op :: op' :: ops) (r :: r' :: rs)) Q E s:=by
  show wpG M A (do
    let rv ← holding [a] r
    standAt pos
    let c ← holding [a,rv] (compareOp op a rv)
    release [a,rv] [c]
    if ← holding [c,rv] (truthy c) then compareChain pos rv (op' :: ops) (r' :: rs) else pure c) Q E s
  refine wpG_bind (wpG_holding (wpG_mono h (fun b s₁ h₁=>leaf (wpAny_standAt (wpG_bind (wpG_holding (wpG_mono h₁ (fun c s₂ h₂=>leaf (wpAny_release' (wpG_bind (wpG_holding (wpG_mono h₂ (fun t s₃ h₃=>?_) fun ω ω x=>x))))) fun ω ω x=>x))))) fun ω ω x=>x))
  cases t with
  | false=>exact wpG_pure h₃
  | true=>exact h₃
theorem g_chain_last {pos:Pos} {a:Value} {op:CmpOp} {r:Sem Value} {Q:Value→Shared→Prop} (h:wpG M A r (fun b s₁=>wpG M A (compareOp op a b) Q E s₁) E s):wpG M A (compareChain pos a [op] [r]) Q E s:=by
  show wpG M A (do
    let rv ← holding [a] r
    standAt pos
    operate [a,rv] (compareOp op a rv)) Q E s
  exact wpG_bind (wpG_holding (wpG_mono h (fun b s₁ h₁=>leaf (wpAny_standAt (wpG_operate h₁))) fun ω ω x=>x))
theorem g_test_link {pos:Pos} {a:Value} {op op':CmpOp} {ops:List CmpOp} {r r':Sem Value} {rs:List (Sem Value)} {Q:Bool→Shared→Prop}
    (h:wpG M A r (fun b s₁=>wpG M A (compareOp op a b) (fun c s₂=>wpG M A (truthy c) (fun t s₃=>if t then wpG M A (testChain pos b (op' :: ops) (r' :: rs)) Q E s₃ else Q false s₃) E s₂) E s₁) E s):wpG M A (testChain pos a (op :: op' :: ops) (r :: r' :: rs)) Q E s:=by
  show wpG M A (do
    let rv ← holding [a] r
    standAt pos
    let c ← holding [a,rv] (compareOp op a rv)
    release [a,rv] [c]
    if ← holding [c,rv] (truthy c) then testChain pos rv (op' :: ops) (r' :: rs) else pure false) Q E s
  refine wpG_bind (wpG_holding (wpG_mono h (fun b s₁ h₁=>leaf (wpAny_standAt (wpG_bind (wpG_holding (wpG_mono h₁ (fun c s₂ h₂=>leaf (wpAny_release' (wpG_bind (wpG_holding (wpG_mono h₂ (fun t s₃ h₃=>?_) fun ω ω x=>x))))) fun ω ω x=>x))))) fun ω ω x=>x))
  cases t with
  | false=>exact wpG_pure h₃
  | true=>exact h₃
theorem g_test_last {pos:Pos} {a:Value} {op:CmpOp} {r:Sem Value} {Q:Bool→Shared→Prop} (h:wpG M A r (fun b s₁=>wpG M A (compareOp op a b) (fun c s₂=>wpG M A (truthy c) Q E s₂) E s₁) E s):wpG M A (testChain pos a [op] [r]) Q E s:=by
  show wpG M A (do
    let rv ← holding [a] r
    standAt pos
    let c ← operate [a,rv] (compareOp op a rv)
    holding [c] (truthy c)) Q E s
  exact wpG_bind (wpG_holding (wpG_mono h (fun b s₁ h₁=>leaf (wpAny_standAt (wpG_bind (wpG_operate (wpG_mono h₁ (fun c s₂ h₂=>wpG_holding h₂) fun ω ω x=>x))))) fun ω ω x=>x))
theorem g_IfExp {test body orelse:Expr} {pos:Pos} {Q:Value→Shared→Prop} (h:wpG M A (PySem.isTrue test env (eval test env)) (fun b s₁=>if b then wpG M A (eval body env) Q E s₁ else wpG M A (eval orelse env) Q E s₁) E s):wpG M A (eval (.IfExp test body orelse pos) env) Q E s:=by
  rw [arm_eval_IfExp]
  refine wpG_then h fun b s₁ h₁=>?_
  cases b <;> exact h₁
theorem g_isTrue_not {x:Expr} {pos:Pos} {whole:Sem Value} {Q:Bool→Shared→Prop} (h:wpG M A (PySem.isTrue x env (eval x env)) (fun c s'=>Q (!c) s') E s):wpG M A (PySem.isTrue (.UnaryOp .Not x pos) env whole) Q E s:=by
  rw [arm_isTrue_UnaryOp]
  exact wpG_then h fun b s₁ h₁=>wpG_pure h₁
theorem g_isTrue_and {x:Expr} {rest:List Expr} {pos:Pos} {whole:Sem Value} {Q:Bool→Shared→Prop} (h:wpG M A (PySem.isTrue x env (eval x env)) (fun c s'=>if c then wpG M A (PySem.isTrue (.BoolOp .And rest pos) env whole) Q E s' else Q false s') E s):wpG M A (PySem.isTrue (.BoolOp .And (x :: rest) pos) env whole) Q E s:=by
  show wpG M A (do
    match BoolOp.And,← PySem.isTrue x env (eval x env) with
    | .And,false=>pure false
    | .Or,true=>pure true
    | _,_=>allTrue .And rest env) Q E s
  refine wpG_then h fun c s' h'=>?_
  cases c with
  | false=>exact wpG_pure h'
  | true=>exact h'
theorem g_isTrue_or {x:Expr} {rest:List Expr} {pos:Pos} {whole:Sem Value} {Q:Bool→Shared→Prop} (h:wpG M A (PySem.isTrue x env (eval x env)) (fun c s'=>if c then Q true s' else wpG M A (PySem.isTrue (.BoolOp .Or rest pos) env whole) Q E s') E s):wpG M A (PySem.isTrue (.BoolOp .Or (x :: rest) pos) env whole) Q E s:=by
  show wpG M A (do
    match BoolOp.Or,← PySem.isTrue x env (eval x env) with
    | .And,false=>pure false
    | .Or,true=>pure true
    | _,_=>allTrue .Or rest env) Q E s
  refine wpG_then h fun c s' h'=>?_
  cases c with
  | false=>exact h'
  | true=>exact wpG_pure h'
theorem g_and {e₁ e₂:Expr} {rest:List Expr} {pos:Pos} {Q:Value→Shared→Prop} (h:wpG M A (eval e₁ env) (fun v s₁=>wpG M A (truthy v) (fun c s₂=>if c then wpG M A (eval (.BoolOp .And (e₂ :: rest) pos) env) Q E s₂ else Q v s₂) E s₁) E s):wpG M A (eval (.BoolOp .And (e₁ :: e₂ :: rest) pos) env) Q E s:=by
  show wpG M A (do
    let v ← eval e₁ env
    standAt pos
    let c ← holding [v] (truthy v)
    match BoolOp.And,c with
    | .And,false | .Or,true=>pure v
    | _,_=>boolOp pos .And (eval e₂ env :: evalEach rest env)) Q E s
  refine wpG_then h fun v s₁ h₁=>leaf (wpAny_standAt (wpG_bind (wpG_holding (wpG_mono h₁ (fun c s₂ h₂=>?_) fun ω ω x=>x))))
  cases c with
  | false=>exact wpG_pure h₂
  | true=>exact h₂
theorem g_or {e₁ e₂:Expr} {rest:List Expr} {pos:Pos} {Q:Value→Shared→Prop} (h:wpG M A (eval e₁ env) (fun v s₁=>wpG M A (truthy v) (fun c s₂=>if c then Q v s₂ else wpG M A (eval (.BoolOp .Or (e₂ :: rest) pos) env) Q E s₂) E s₁) E s):wpG M A (eval (.BoolOp .Or (e₁ :: e₂ :: rest) pos) env) Q E s:=by
  show wpG M A (do
    let v ← eval e₁ env
    standAt pos
    let c ← holding [v] (truthy v)
    match BoolOp.Or,c with
    | .And,false | .Or,true=>pure v
    | _,_=>boolOp pos .Or (eval e₂ env :: evalEach rest env)) Q E s
  refine wpG_then h fun v s₁ h₁=>leaf (wpAny_standAt (wpG_bind (wpG_holding (wpG_mono h₁ (fun c s₂ h₂=>?_) fun ω ω x=>x))))
  cases c with
  | false=>exact h₂
  | true=>exact wpG_pure h₂
theorem g_Slice {lower upper step:Option Expr} {p:Pos} {Q:Value→Shared→Prop}
    (h:wpG M A (evalPart lower env) (fun l s₁=>wpG M A (evalPart upper env) (fun u s₂=>wpG M A (evalPart step env) (fun st s₃=>Q (.ref s₃.heap.objs.size) { s₃ with heap:=s₃.heap.push { cls:=.type "slice",data:=.fields #[l,u,st] } }) E s₂) E s₁) E s):wpG M A (eval (.Slice lower upper step p) env) Q E s:=by
  rw [arm_eval_Slice]
  exact wpG_then h fun l s₁ h₁=>wpG_bind (wpG_holding (wpG_mono h₁ (fun u s₂ h₂=>wpG_bind (wpG_holding (wpG_mono h₂ (fun st s₃ h₃=>wpG_of (wpAny_newObj_type h₃)) fun ω ω x=>x))) fun ω ω x=>x))
theorem g_Subscript {value slice:Expr} {pos:Pos} {Q:Value→Shared→Prop} (h:wpG M A (eval value env) (fun o s₁=>wpG M A (eval slice env) (fun i s₂=>wpG M A (subscriptTail value slice o i) Q E s₂) E s₁) E s):wpG M A (eval (.Subscript value slice pos) env) Q E s:=by
  rw [eval_Subscript]
  exact wpG_then h fun o s₁ h₁=>wpG_bind (wpG_holding (wpG_mono h₁ (fun i s₂ h₂=>leaf (wpAny_standAt h₂)) fun ω ω x=>x))
theorem g_Call {func:Expr} {args:List Expr} {pos:Pos} {Q:Value→Shared→Prop} (h:wpG M A (eval func env) (fun f s₁=>wpG M A (callWith pos f [] (backTo pos (starEach args env)) []) Q E s₁) E s)
    (he:eval (.Call func args [] pos) env=(do callWith pos (← eval func env) [] (backTo pos (starEach args env)) (backToKw pos (keywordEach [] env))):=by rfl):wpG M A (eval (.Call func args [] pos) env) Q E s:=by
  rw [he]; exact wpG_bind h
theorem g_evalArgs {f:Value} {x:Sem Value} {rest:List (Bool × Sem Value)} {Q:Args→Shared→Prop} (h:wpG M A (spliced ((false,x) :: rest)) (fun vs s'=>Q ⟨vs,[]⟩ s') E s):wpG M A (evalArgs f true ((false,x) :: rest) []) Q E s:=by
  unfold evalArgs
  show wpG M A (spliced ((false,x) :: rest) >>= _) Q E s
  refine wpG_then h fun vs s' h'=>?_
  refine wpG_holding ?_
  exact leaf (wpAny_pure (leaf (wpAny_pure (wpG_pure h'))))
theorem g_ite2 {α:Type} {c:Prop} [Decidable c] {a b:Sem α} {Q:α→Shared→Prop} (h1:wpG M A a Q E s) (h2:wpG M A b Q E s):wpG M A (if c then a else b) Q E s:=by
  by_cases q:c
  · rw [if_pos q]; exact h1
  · rw [if_neg q]; exact h2
theorem g_callWith {pos:Pos} {f:Value} {first:List Value} {Q:Value→Shared→Prop} {P:Heap→Prop} {args:List (Bool × Sem Value)} (hplain:args.any (·.1)=false)
    (hk:∀ h,P h→∃ k,(k=Keeper.frame∨k=Keeper.machine∨k=Keeper.boundFrame)∧Looks M h (keeperOf f) k)
    (h:wpG M A (evalArgs f true args []) (fun a s₁=>P s₁.heap∧wpG M A (call f (first++a.pos) a.kw) Q E s₁) E s):wpG M A (callWith pos f first args []) Q E s:=by
  unfold callWith
  refine wpG_bind (wpG_holding (wpG_mono h (fun a s₁ h₁=>leaf (wpAny_standAt ?_)) fun ω ω x=>x))
  rw [hplain]
  obtain ⟨k,hk',L⟩:=hk _ h₁.1
  refine leaf (L.here ?_)
  have tail:∀ {t:Sem Value},wpG M A t Q E s₁→wpG M A (t >>= fun r=>holding [r] point >>= fun ω=>pure r) Q E s₁:=
    fun ht=>wpG_then ht fun r s₂ hr=>leaf (wpAny_holding (wpAny_point (wpG_pure hr)))
  have marked (mk:Value):wpG M A (callMarked mk f (first++a.pos) a.kw) Q E s₁:=by unfold callMarked; exact wpG_keep h₁.2
  rcases hk' with rfl | rfl | rfl <;> dsimp only <;> first | exact tail h₁.2 | exact g_ite2 (tail h₁.2) (tail (marked _))
theorem g_callK {K:Frag} {pos:Pos} {f:Value} {first:List Value} {Q:Value→Shared→Prop} {e:Expr} {rest:List Expr} (hk:keepIn K f=true) (h:wpG M A (spliced (backTo pos (starEach (e :: rest) env))) (fun vs s₁=>K.In s₁.heap∧wpG M A (call f (first++vs)) Q E s₁) E s)
    (he:starEach (e :: rest) env=(false,eval e env) :: starEach rest env) (hplain:(backTo pos (starEach rest env)).any (·.1)=false):wpG M A (callWith pos f first (backTo pos (starEach (e :: rest) env)) []) Q E s:=by
  rw [he] at h ⊢
  exact g_callWith (by show (false || (backTo pos (starEach rest env)).any (·.1))=false; rw [hplain]; rfl) (keeps_K hk) (g_evalArgs h)
theorem g_callK0 {K:Frag} {pos:Pos} {f:Value} {first:List Value} {Q:Value→Shared→Prop} (X:K.In s.heap) (hk:keepIn K f=true) (h:wpG M A (call f (first++[])) Q E s):wpG M A (callWith pos f first (backTo pos (starEach [] env)) []) Q E s:=
  g_callWith rfl (keeps_K hk) (wpG_of (evalArgs_nil3 ⟨X,h⟩))
theorem g_execs {st:Stmt} {rest:List Stmt} {Q:Flow→Shared→Prop} (h:wpG M A (exec st env) (fun f s'=>match f with | .next=>wpG M A (execs rest env) Q E s' | f=>Q f s') E s):wpG M A (execs (st :: rest) env) Q E s:=by
  rw [execs_cons]
  refine wpG_then h fun f s' h'=>?_
  cases f <;> first | exact h' | exact wpG_pure h'
theorem g_If {test:Expr} {body orelse:List Stmt} {pos:Pos} {Q:Flow→Shared→Prop} (h:wpG M A (PySem.isTrue test env (eval test env)) (fun b s₂=>if b then wpG M A (execs body env) Q E s₂ else wpG M A (execs orelse env) Q E s₂) E s):wpG M A (exec (.If test body orelse pos) env) Q E s:=by
  rw [exec_If]
  refine leaf (wpAny_standAt (wpG_then h fun b s₁ h₁=>?_))
  cases b <;> exact h₁
theorem g_Return {e:Expr} {pos:Pos} {Q:Flow→Shared→Prop} (h:wpG M A (eval e env) (fun v=>Q (.ret v)) E s):wpG M A (exec (.Return (some e) pos) env) Q E s:=by
  rw [exec_Return_some]
  exact leaf (wpAny_standAt (wpG_then h fun v s₁ h₁=>wpG_pure h₁))
theorem g_Assign_Name {x:Str} {pos':Pos} {value:Expr} {pos:Pos} {Q:Flow→Shared→Prop} (h:wpG M A (eval value env) (fun v s₁=>wpAny M A (storeName env x v) (fun ω=>Q .next) E s₁) E s) (hs:swapsWith value (some (.Name x pos')) pos.line env=pure false) :
    wpG M A (exec (.Assign [.Name x pos'] value pos) env) Q E s:=by
  have e:exec (.Assign [.Name x pos'] value pos) env=(do
      standAt pos
      if ← swapsWith value (some (.Name x pos')) pos.line env then
        evalThenUse value env (assign (.Name x pos') env)
        return .next
      let v ← eval value env
      standAt pos'
      bindName env x v
      pure .next):=rfl
  rw [e,hs]
  refine leaf (wpAny_standAt ?_)
  refine leaf (wpAny_pure ?_)
  show wpG M A (eval value env >>= _) Q E s
  exact wpG_then h fun v s₁ h₁=>leaf (wpAny_standAt (leaf (wpAny_bindName (wpAny_mono h₁ (fun ω ω q=>wpG_pure q) fun ω ω x=>x))))
end
end
section
set_option genSizeOfSpec false
inductive V where
  | none
  | bool (b:Bool)
  | int (i:Int)
  | byt (l:List UInt8)
  | tok (k:Int) (v:V)
  | tup (vs:List V)
  | lst (vs:List V)
  | lex
  | lims
  | kinds
  | exc (m:List UInt8)
  | bufref
deriving Inhabited
noncomputable def fldTab:List (List Nat × String):=[([116,101,120,116],"text"),([115,111,117,114,99,101],"source"),([99,104,117,110,107],"chunk"),([108,105,109,105,116,115],"limits"),([107,105,110,100,115],"kinds"),([97,116],"at"),([115,105,103,110],"sign"),([108,105,110,101],"line"),([108,97,115,116,95,108,105,110,101],"last_line"),([98,117,102,102,101,114],"buffer"),([99,117,114,114,101,110,116],"current"),([97,104,101,97,100],"ahead"),([107,105,110,100],"kind"),([118,97,108,117,101],"value"),([119,105,100,116,104],"width")]
noncomputable def flds:List String:=fldTab.map (·.2)
noncomputable abbrev Froz:=Addr→Option Obj
noncomputable abbrev aLex:Addr:=465
noncomputable abbrev aTok:Addr:=262
noncomputable abbrev aLim:Addr:=53
noncomputable abbrev aLSE:Addr:=87
noncomputable abbrev byteObj (l:List UInt8):Obj:={ cls:=.type "bytearray",data:=.bytearray l.toArray 0 }
noncomputable abbrev tupObj (vs:List Value):Obj:={ cls:=.type "tuple",data:=.seq vs.toArray 0 }
noncomputable abbrev lisObj (vs:List Value) (n:Nat):Obj:={ cls:=.type "list",data:=.seq vs.toArray n }
noncomputable def wordTable:List (List UInt8 × Int):=[([97,110,100],257),([98,114,101,97,107],258),([100,111],259),([101,108,115,101],260),([101,108,115,101,105,102],261),([101,110,100],262),([102,97,108,115,101],263),([102,111,114],264),([102,117,110,99,116,105,111,110],265),([105,102],266),([105,110],267),([108,111,99,97,108],268),([110,105,108],269),([110,111,116],270),([111,114],271),([114,101,112,101,97,116],272),([114,101,116,117,114,110],273),([116,104,101,110],274),([116,114,117,101],275),([117,110,116,105,108],276),([119,104,105,108,101],277)]
inductive All2 {α β:Type} (R:α→β→Prop):List α→List β→Prop
  | nil:All2 R [] []
  | cons {a:α} {b:β} {as:List α} {bs:List β}:R a b→All2 R as bs→All2 R (a :: as) (b :: bs)
noncomputable def KindsOk (P:Params) (es:List DictEntry):Prop:=
  (∀ e∈es.toArray,∃ k,isBytes k e.key=true∧e.hash=hashW P (.bytes k))∧∀ k,match wordTable.lookup k with
    | some i=>∃ t,findBy isBytes es.toArray k=some (.int i t)
    | none=>findBy isBytes es.toArray k=none
mutual
inductive Rep (P:Params) (G:Froz) (a:Addr):V→Value→Prop
  | none:Rep P G a .none .none
  | bool (b:Bool):Rep P G a (.bool b) (.bool b)
  | int (i:Int) (t:Tok):Rep P G a (.int i) (.int i t)
  | byt (l:List UInt8) (t:Tok):Rep P G a (.byt l) (.bytes l.toArray t)
  | tok {x d n:Addr} {es:List DictEntry} {k:Int} {t:Tok} {v:V} {vv:Value}:G x=some (instObj aTok d)→G d=some (dictOf es n)→getL "kind" es=some (some (.int k t))→getL "value" es=some (some vv)→Rep P G a v vv→Rep P G a (.tok k v) (.ref x)
  | tup {x:Addr} {Vs:List V} {vs:List Value}:G x=some (tupObj vs)→Reps P G a Vs vs→Rep P G a (.tup Vs) (.ref x)
  | lst {x:Addr} {n:Nat} {Vs:List V} {vs:List Value}:G x=some (lisObj vs n)→Reps P G a Vs vs→Rep P G a (.lst Vs) (.ref x)
  | lex {d:Addr}:G a=some (instObj aLex d)→Rep P G a .lex (.ref a)
  | lims {x d:Addr} {n:Nat} {es:List DictEntry} {t t':Tok}:G x=some (instObj aLim d)→G d=some (dictOf es n)→getL "width" es=some (some (.int 64 t))→getL "text" es=some (some (.int 1000000 t'))→Rep P G a .lims (.ref x)
  | kinds {x:Addr} {n:Nat} {es:List DictEntry}:G x=some (dictOf es n)→(x == sysModules)=false→KindsOk P es→Rep P G a .kinds (.ref x)
  | exc {e de:Addr} {n:Nat} {es:List DictEntry} {vs:Array Value} {sl:Array (Option Value)} {m:List UInt8} {t:Tok}:G e=some ⟨.ref aLSE,some de,.fields vs,sl⟩→G de=some (dictOf es n)→getL "value" es=some (some (.bytes m.toArray t))→Rep P G a (.exc m) (.ref e)
inductive Reps (P:Params) (G:Froz) (a:Addr):List V→List Value→Prop
  | nil:Reps P G a [] []
  | cons {v:V} {vs:List V} {w:Value} {ws:List Value}:Rep P G a v w→Reps P G a vs ws→Reps P G a (v :: vs) (w :: ws)
end
section
variable {P:Params} {G G':Froz} {a:Addr} (h:∀ b o,G b=some o→G' b=some o)
include h
theorem Rep.mono {v:V} {w:Value} (r:Rep P G a v w):Rep P G' a v w:=
  Rep.rec (motive_1:=fun v w ω=>Rep P G' a v w) (motive_2:=fun v w ω=>Reps P G' a v w) .none .bool .int .byt (fun h1 h2 h3 h4 ω r=>.tok (h _ _ h1) (h _ _ h2) h3 h4 r) (fun h1 ω r=>.tup (h _ _ h1) r) (fun h1 ω r=>.lst (h _ _ h1) r)
    (fun h1=>.lex (h _ _ h1)) (fun h1 h2 h3 h4=>.lims (h _ _ h1) (h _ _ h2) h3 h4) (fun h1 h2 h3=>.kinds (h _ _ h1) h2 h3) (fun h1 h2 h3=>.exc (h _ _ h1) (h _ _ h2) h3) .nil (fun ω ω r rs=>.cons r rs) r
theorem Reps.mono {v:List V} {w:List Value} (r:Reps P G a v w):Reps P G' a v w:=by
  induction v generalizing w with
  | nil=>cases r; exact .nil
  | cons _ _ ih=>cases r with | cons r rs=>exact .cons (Rep.mono h r) (ih rs)
end
structure LA where
  a:Addr
  d:Addr
  b:Addr
structure Lex where
  fs:List (String × V)
  buf:Option (List UInt8)
noncomputable def FldRel (P:Params) (G:Froz) (la:LA) (p:String × V) (e:DictEntry):Prop:=
  (∃ t,e.key = .str (Str.ofString p.1) t)∧match p.2 with
    | .bufref=>e.val = .ref la.b
    | v=>Rep P G la.a v e.val
inductive LV where
  | v (v:V)
  | own (vs:List V)
deriving Inhabited
structure St where
  ρ:List (String × LV)
  lx:Option Lex
structure Cx where
  w:World
  B:Heap
  mg:Str→Option Value
  mb:Str→Option Value
noncomputable abbrev Cx.P (c:Cx):Params:=c.w.params
noncomputable abbrev Cx.M (c:Cx):Model:=model pw c.w
structure Cx.Ok (c:Cx):Prop where
  K:(KF c.P).In c.B
  g:c.B.Ns mainGlobals c.mg
  b:c.B.Ns builtinsNs c.mb
  lim:c.B.NoLimit
  bi:∀ x:Str,x ≠ "__name__"→c.mb x=bootBuiltins x
structure FR where
  c:Cx
  h₀:Heap
  G₀:Froz
  M₀:List Addr
  L:Addr
  envs:List Env
  ck:Option (String × Addr)
noncomputable def FR.fs (f:FR):List Addr:=f.envs.filterMap (·.frame)
noncomputable def Liv (h:Heap) (x:Addr):Prop:=∃ o,h.get? x=some o
noncomputable def Priv (f:FR) (x:Addr):Prop:=x∈f.M₀∨f.h₀.get? x=none
noncomputable def Kin (o o':Obj):Prop:=∃ sl,o' = { o with slots:=sl }
theorem Kin.refl (o:Obj):Kin o o:=⟨o.slots,rfl⟩
theorem Kin.trans {o o' o'':Obj}:Kin o o'→Kin o' o''→Kin o o'':=fun ⟨_,e⟩ ⟨sl,e'⟩=>⟨sl,by rw [e',e]⟩
theorem Kin.data {o o':Obj}:Kin o o'→o'.data=o.data:=fun ⟨_,e⟩=>by rw [e]
structure Same (f:FR) (X:List Addr) (h h':Heap):Prop where
  ob:∀ b o,h.get? b=some o→b ∉ X→b ∉ f.fs→h'.get? b=some o
  fr:∀ b o,h.get? b=some o→b ∉ X→b∈f.fs→∃ o',h'.get? b=some o'∧Kin o o'
  lv:∀ b,Liv h b→Liv h' b
structure GNew (G G':Froz) (h h':Heap):Prop where
  mono:∀ b o,G b=some o→G' b=some o
  new:∀ b o,G' b=some o→G b=some o∨(h.get? b=none∧h'.get? b=some o)
structure Base (f:FR) (G:Froz) (h:Heap):Prop where
  bg:∀ b o,f.c.B.get? b=some o→G b=some o
  gh:∀ b o,G b=some o→h.get? b=some o
  gg:∀ b o,f.G₀ b=some o→G b=some o
  gn:∀ b o,G b=some o→f.G₀ b=some o∨f.h₀.get? b=none
  chg:∀ b o,f.h₀.get? b=some o→b ∉ f.M₀→b ∉ f.fs→h.get? b=some o
  chf:∀ b o,f.h₀.get? b=some o→b∈f.fs→∃ o',h.get? b=some o'∧Kin o o'
  sz:f.h₀.get? f.L=none
  lv:∀ b,Liv f.h₀ b→Liv h b
  lf:f.L∈f.fs
  fr:∀ L'∈f.fs,G L'=none∧Liv h L'
  fn:h.FunFrames f.c.B f.envs
  ck:∀ p,f.ck=some p→G p.2=none∧f.h₀.get? p.2=none∧p.2 ∉ f.fs∧Liv h p.2
noncomputable def LocRel (f:FR) (G:Froz) (a:Addr) (h:Heap) (l:LV) (v:Value):Prop:=match l with
  | .v V=>Rep f.c.P G a V v
  | .own vs=>∃ x ws n,v = .ref x∧h.get? x=some (lisObj ws n)∧Reps f.c.P G a vs ws∧G x=none∧f.h₀.get? x=none∧x ∉ f.fs
noncomputable def lkL:String→List (String × LV)→Option LV
  | _,[]=>none
  | x,(y,v) :: r=>if y=x then some v else lkL x r
structure Loc (f:FR) (G:Froz) (a:Addr) (h:Heap) (m:Str→Option Value) (ρ:List (String × LV)):Prop where
  rel:∀ x l,lkL x ρ=some l→∃ v,m (Str.ofString x)=some v∧LocRel f G a h l v
  apart:∀ x y vs ws v,x≠y→lkL x ρ=some (.own vs)→lkL y ρ=some (.own ws)→m (Str.ofString x)=some v→m (Str.ofString y)≠some v
noncomputable def View (f:FR) (h:Heap) (m:Str→Option Value):Prop:=match f.ck with
  | none=>h.Ns f.L m
  | some (x,c)=>∃ m₀ o,h.Ns f.L m₀∧h.IsCell c o∧m=fun y=>if y=Str.ofString x then o else m₀ y
structure BufOk (f:FR) (G:Froz) (h:Heap) (la:LA) (l:List UInt8):Prop where
  at_:h.get? la.b=some (byteObj l)
  gb:G la.b=none
  nf:la.b ∉ f.fs
  pr:Priv f la.b
structure LexRel (f:FR) (G:Froz) (h:Heap) (la:LA) (lx:Lex):Prop where
  inst:G la.a=some (instObj aLex la.d)
  dict:∃ es n,h.get? la.d=some (dictOf es n)∧All2 (FldRel f.c.P G la) lx.fs es
  gd:G la.d=none
  nf:la.d ∉ f.fs
  pr:Priv f la.d
  one:∀ p∈lx.fs,p.2 = .bufref↔p.1 = "buffer"
  buf:∀ l,lx.buf=some l→BufOk f G h la l
  has:∀ p∈lx.fs,p.2 = .bufref→lx.buf≠none
  nm:∀ p∈lx.fs,p.1∈flds
noncomputable def LexOk (f:FR) (G:Froz) (h:Heap) (la:LA):Option Lex→Prop
  | none=>True
  | some lx=>LexRel f G h la lx
structure Rel (f:FR) (G:Froz) (la:LA) (st:St) (h:Heap):Prop where
  base:Base f G h
  loc:∃ m,View f h m∧Loc f G la.a h m st.ρ
  lex:LexOk f G h la st.lx
theorem Rep.handed {P:Params} {G:Froz} {a:Addr} {v:V} {w:Value} (r:Rep P G a v w):handedIn w=true:=by
  cases r <;> rfl
theorem ofString_inj {a b:String} (h:Str.ofString a=Str.ofString b):a=b:=by
  rw [Str.ofString_eq_toList,Str.ofString_eq_toList] at h
  have h1:(a.toList.map Char.toNat)=(b.toList.map Char.toNat):=by
    have:=congrArg Str.cps h
    simpa using this
  have h2:a.toList=b.toList:=by
    apply List.ext_getElem?
    intro i
    have:=congrArg (fun l=>l[i]?) h1
    simp only [List.getElem?_map] at this
    cases ha:a.toList[i]? <;> cases hb:b.toList[i]? <;> rw [ha,hb] at this <;> simp_all
    exact Char.toNat_inj.mp this
  exact String.toList_inj.mp h2
theorem funFrames_of {B h h':Heap}:∀ {l:List Env},h.FunFrames B l→(∀ env∈l,∀ L o,env.frame=some L→h.get? L=some o→(∀ vs,o.data ≠ .fields vs)→∃ o',h'.get? L=some o'∧∀ vs,o'.data ≠ .fields vs)→h'.FunFrames B l
  | [],_,_=>trivial
  | env :: rest,⟨hk,⟨L,o,hf,hn,ho,hd⟩,hr⟩,k=>by
    obtain ⟨o',ho',hd'⟩:=k env (.head _) L o hf ho hd
    exact ⟨hk,⟨L,o',hf,hn,ho',hd'⟩,funFrames_of hr fun e he=>k e (.tail _ he)⟩
noncomputable def setG (G:Froz) (x:Addr) (o:Obj):Froz:=fun b=>if b=x then some o else G b
theorem setG_mono {G:Froz} {x:Addr} {o:Obj} (hx:G x=none):∀ b o',G b=some o'→setG G x o b=some o':=fun b o' e=>by
  unfold setG
  rw [if_neg (fun q=>by rw [q,hx] at e; cases e)]
  exact e
theorem setG_at (G:Froz) (x:Addr) (o:Obj):setG G x o x=some o:=by unfold setG; rw [if_pos rfl]
section
variable {f:FR} {G G':Froz} {h h':Heap} {X:List Addr}
theorem GNew.refl (G:Froz) (h h':Heap):GNew G G h h':=⟨fun ω ω e=>e,fun ω ω e=>.inl e⟩
theorem not_liv {b:Addr}:¬ Liv h b↔h.get? b=none:=by
  unfold Liv
  cases h.get? b with
  | none=>simp
  | some o=>simp
theorem size_new (h:Heap):h.get? h.objs.size=none:=by
  cases q:h.get? h.objs.size with
  | none=>rfl
  | some o=>exact absurd (Heap.lt_size q) (Nat.lt_irrefl _)
theorem GNew.old (g:GNew G G' h h') {b:Addr} (hb:Liv h b) (e:G b=none):G' b=none:=by
  cases q:G' b with
  | none=>rfl
  | some o=>
    rcases g.new b o q with k | ⟨k,_⟩
    · rw [e] at k; cases k
    · obtain ⟨o',ho'⟩:=hb
      rw [k] at ho'
      cases ho'
theorem Same.push (f:FR) (h:Heap) (o:Obj):Same f [] h (h.push o):=⟨fun b o' e ω ω=>Heap.get?_push_of_some _ e,fun b o' e ω ω=>⟨o',Heap.get?_push_of_some _ e,.refl _⟩,fun b ⟨o',e⟩=>⟨o',Heap.get?_push_of_some _ e⟩⟩
theorem Same.of_keeps (k:∀ b o,h.get? b=some o→h'.get? b=some o):Same f [] h h':=⟨fun b o e ω ω=>k b o e,fun b o e ω ω=>⟨o,k b o e,.refl _⟩,fun b ⟨o',e⟩=>⟨o',k b o' e⟩⟩
theorem Same.but {x:Addr} (hs:Heap.SameBut x h h') (hx:Liv h' x):Same f [x] h h':=
  ⟨fun b o e hx ω=>(hs.2 b fun q=>hx (List.mem_singleton.mpr q)).trans e,fun b o e hx ω=>⟨o,(hs.2 b fun q=>hx (List.mem_singleton.mpr q)).trans e,.refl _⟩,fun b ⟨o,e⟩=>by
    by_cases q:b=x
    · exact q ▸ hx
    · exact ⟨o,(hs.2 b q).trans e⟩⟩
theorem Same.trans {h'':Heap} (a:Same f X h h') (b:Same f X h' h''):Same f X h h'':=
  ⟨fun x o e hx hf=>b.ob x o (a.ob x o e hx hf) hx hf,fun x o e hx hf=>let ⟨o',e',k⟩:=a.fr x o e hx hf; let ⟨o'',e'',k'⟩:=b.fr x o' e' hx hf; ⟨o'',e'',k.trans k'⟩,fun x l=>b.lv x (a.lv x l)⟩
theorem Same.weak {Y:List Addr} (a:Same f X h h') (hY:∀ x∈X,x∈Y):Same f Y h h':=
  ⟨fun x o e hx hf=>a.ob x o e (fun q=>hx (hY x q)) hf,fun x o e hx hf=>a.fr x o e (fun q=>hx (hY x q)) hf,a.lv⟩
theorem GNew.one {x:Addr} {o:Obj} (hx:G x=none) (l:h.get? x=none) (e:h'.get? x=some o):GNew G (setG G x o) h h':=
  ⟨setG_mono hx,fun b o' q=>by
    unfold setG at q
    by_cases k:b=x
    · subst k; rw [if_pos rfl] at q; cases q; exact .inr ⟨l,e⟩
    · rw [if_neg k] at q; exact .inl q⟩
theorem Base.fresh (R:Base f G h) {b:Addr} (l:h.get? b=none):G b=none:=by
  cases q:G b with
  | none=>rfl
  | some o=>rw [R.gh b o q] at l; cases l
theorem Base.freshF (R:Base f G h) {b:Addr} (l:h.get? b=none):b ∉ f.fs:=fun q=>not_liv.mpr l (R.fr _ q).2
theorem Base.freshS (R:Base f G h) {b:Addr} (l:h.get? b=none):f.h₀.get? b=none:=not_liv.mp fun q=>not_liv.mpr l (R.lv b q)
theorem Base.step (R:Base f G h) (S:Same f X h h') (g:GNew G G' h h') (hX:∀ x∈X,G x=none∧Priv f x∧(x∈f.fs→x=f.L))
    (hL:f.L∈X→∃ o,h'.get? f.L=some o∧∀ vs,o.data ≠ .fields vs):Base f G' h':=by
  have nX:∀ b o,G b=some o→b ∉ X:=fun b o e q=>by rw [(hX b q).1] at e; cases e
  have nF:∀ b o,G b=some o→b ∉ f.fs:=fun b o e q=>by rw [(R.fr b q).1] at e; cases e
  refine ⟨fun b o e=>g.mono _ _ (R.bg b o e),fun b o e=>?_,fun b o e=>g.mono _ _ (R.gg b o e),fun b o e=>?_,fun b o e h1 h2=>?_,fun b o e h1=>?_,R.sz,fun b l=>S.lv b (R.lv b l),R.lf,fun L' hL'=>⟨g.old (R.fr L' hL').2 (R.fr L' hL').1,S.lv _ (R.fr L' hL').2⟩,?_,fun p hp=>?_⟩
  · rcases g.new b o e with k | ⟨_,k⟩
    · exact S.ob b o (R.gh b o k) (nX b o k) (nF b o k)
    · exact k
  · rcases g.new b o e with k | ⟨k,_⟩
    · exact R.gn b o k
    · exact .inr (R.freshS k)
  · refine S.ob b o (R.chg b o e h1 h2) (fun q=>?_) h2
    rcases (hX b q).2.1 with k | k
    · exact h1 k
    · rw [e] at k; cases k
  · obtain ⟨o',e',k⟩:=R.chf b o e h1
    have hq:b ∉ X:=fun q=>by
      have:=(hX b q).2.2 h1
      subst this
      rw [R.sz] at e; cases e
    obtain ⟨o'',e'',k'⟩:=S.fr b o' e' hq h1
    exact ⟨o'',e'',k.trans k'⟩
  · refine funFrames_of R.fn fun env he L o hf ho hd=>?_
    have hm:L∈f.fs:=List.mem_filterMap.mpr ⟨env,he,hf⟩
    by_cases q:L∈X
    · have:=(hX L q).2.2 hm
      subst this
      exact hL q
    · obtain ⟨o',e',k⟩:=S.fr L o ho q hm
      exact ⟨o',e',by rw [k.data]; exact hd⟩
  · obtain ⟨h1,h2,h3,h4⟩:=R.ck p hp
    exact ⟨g.old h4 h1,h2,h3,S.lv _ h4⟩
theorem ns_kin {a:Addr} {m:Str→Option Value} (hn:h.Ns a m) (k:∀ o,h.get? a=some o→∃ o',h'.get? a=some o'∧Kin o o'):h'.Ns a m:=by
  obtain ⟨o,es,ep,ho,hd,r⟩:=hn
  obtain ⟨o',ho',kk⟩:=k o ho
  exact ⟨o',es,ep,ho',by rw [kk.data]; exact hd,r⟩
theorem Same.ns (S:Same f X h h') (hL:f.L ∉ X) {m:Str→Option Value} (hn:h.Ns f.L m):h'.Ns f.L m:=
  ns_kin hn fun o e=>by
    by_cases q:f.L∈f.fs
    · exact S.fr _ o e hL q
    · exact ⟨o,S.ob _ o e hL q,.refl _⟩
set_option tactic.hygienic true in
theorem View.step {m:Str→Option Value} (V:View f h m) (R:Base f G h) (S:Same f X h h') (hL:f.L ∉ X) (hc:∀ x∈X,∀ v,¬ h.IsCell x v):View f h' m:=by
  unfold View at V ⊢
  split at V
  · exact S.ns hL V
  · rename_i x c hk
    obtain ⟨m₀,o,h1,h2,h3⟩:=V
    refine ⟨m₀,o,S.ns hL h1,?_,h3⟩
    obtain ⟨ob,e1,e2⟩:=h2
    exact ⟨ob,S.ob c ob e1 (fun q=>hc c q o ⟨ob,e1,e2⟩) (R.ck _ hk).2.2.1,e2⟩
theorem LocRel.step {a:Addr} {l:LV} {v:Value} (r:LocRel f G a h l v) (S:Same f X h h') (g:GNew G G' h h') (hX:∀ x∈X,∀ ws n,h.get? x≠some (lisObj ws n)):LocRel f G' a h' l v:=by
  cases l with
  | v V=>exact Rep.mono g.mono r
  | own vs=>
    obtain ⟨x,ws,n,rfl,h1,h2,h3,h4,h5⟩:=r
    exact ⟨x,ws,n,rfl,S.ob x _ h1 (fun q=>hX x q ws n h1) h5,Reps.mono g.mono h2,g.old ⟨_,h1⟩ h3,h4,h5⟩
theorem Loc.step {a:Addr} {m:Str→Option Value} {ρ:List (String × LV)} (r:Loc f G a h m ρ) (S:Same f X h h') (g:GNew G G' h h') (hX:∀ x∈X,∀ ws n,h.get? x≠some (lisObj ws n)):Loc f G' a h' m ρ:=
  ⟨fun x l e=>let ⟨v,hv,hr⟩:=r.rel x l e; ⟨v,hv,hr.step S g hX⟩,r.apart⟩
theorem FldRel.keep {P:Params} {la:LA} {p:String × V} {e:DictEntry} (r:FldRel P G la p e) (hg:∀ b o,G b=some o→G' b=some o):FldRel P G' la p e:=by
  obtain ⟨n,V⟩:=p
  obtain ⟨hk,r⟩:=r
  refine ⟨hk,?_⟩
  cases V <;> first | exact Rep.mono hg r | exact r
theorem All2.imp {α β:Type} {R S:α→β→Prop} (h:∀ a b,R a b→S a b):∀ {as:List α} {bs:List β},All2 R as bs→All2 S as bs:=by
  intro as bs r
  induction r with
  | nil=>exact .nil
  | cons x _ ih=>exact .cons (h _ _ x) ih
theorem BufOk.step {la:LA} {l:List UInt8} (r:BufOk f G h la l) (S:Same f X h h') (g:GNew G G' h h') (hb:la.b ∉ X):BufOk f G' h' la l:=
  ⟨S.ob _ _ r.at_ hb r.nf,g.old ⟨_,r.at_⟩ r.gb,r.nf,r.pr⟩
theorem LexRel.step {la:LA} {lx:Lex} (r:LexRel f G h la lx) (S:Same f X h h') (g:GNew G G' h h') (hd:la.d ∉ X) (hb:lx.buf≠none→la.b ∉ X):LexRel f G' h' la lx:=by
  obtain ⟨es,n,e1,e2⟩:=r.dict
  exact ⟨g.mono _ _ r.inst,⟨es,n,S.ob _ _ e1 hd r.nf,e2.imp fun ω ω x=>x.keep g.mono⟩,g.old ⟨_,e1⟩ r.gd,r.nf,r.pr,r.one,fun l e=>(r.buf l e).step S g (hb fun q=>by rw [q] at e; cases e),r.has,r.nm⟩
theorem LexOk.step {la:LA} {o:Option Lex} (r:LexOk f G h la o) (S:Same f X h h') (g:GNew G G' h h') (hX:∀ lx,o=some lx→la.d ∉ X∧(lx.buf≠none→la.b ∉ X)):LexOk f G' h' la o:=by
  cases o with
  | none=>trivial
  | some lx=>exact LexRel.step r S g (hX lx rfl).1 (hX lx rfl).2
theorem Rel.grow {la:LA} {st:St} (R:Rel f G la st h) (S:Same f [] h h') (g:GNew G G' h h'):Rel f G' la st h':=by
  obtain ⟨m,hV,hL⟩:=R.loc
  exact ⟨R.base.step S g (fun ω q=>nomatch q) (fun q=>nomatch q),⟨m,hV.step R.base S (fun q=>nomatch q) (fun ω q=>nomatch q),hL.step S g fun ω q=>nomatch q⟩,R.lex.step S g fun ω ω=>⟨(fun q=>nomatch q),(fun ω q=>nomatch q)⟩⟩
theorem Rel.push {la:LA} {st:St} (R:Rel f G la st h) (o:Obj):Rel f G la st (h.push o):=R.grow (.push ..) (.refl ..)
theorem Rel.new {la:LA} {st:St} (R:Rel f G la st h) (o:Obj) (hf:o.isFreed=false):Rel f (setG G h.objs.size o) la st (h.push o):=
  R.grow (.push ..) (.one (R.base.fresh (size_new _)) (size_new _) (Heap.get?_push_size h hf))
end
end
section
set_option genSizeOfSpec false
set_option genInjectivity false
inductive X where
  | cst (v:V)
  | loc (x:String)
  | tup (es:List X)
  | lstD (es:List X)
  | fld (e:X) (n:String)
  | bin (op:Operator) (a b:X)
  | neg (a:X)
  | notE (a:X)
  | andE (es:List X)
  | orE (es:List X)
  | cmp (a:X) (op:CmpOp) (b:X)
  | cmp2 (a:X) (o1:CmpOp) (b:X) (o2:CmpOp) (c:X)
  | ite (t a b:X)
  | idx (e i:X)
  | slA (e hi:X)
  | slC (e lo hi:X)
  | call (f:Addr) (args:List X)
  | mcall (e:X) (f:Addr) (args:List X)
  | bi (f:String) (args:List X)
  | isi (e:X) (T:String)
  | bm (e:X) (m:String) (args:List X)
  | newTok (k v:X)
  | newLims
  | lenB (x:String)
  | bytesB (x:String)
  | bytesCut (x:String) (lo hi:X)
  | filtNe (xs:String) (y:String) (one:String)
  | someE (x:String)
  | joinE (x:String)
  | divE (x:String)
  | dead
deriving Inhabited
inductive It where
  | e (x:X)
  | nil
inductive S where
  | asg (x:String) (e:X)
  | asgT (xs:List String) (es:List It)
  | asgU (xs:List String) (e:X)
  | setF (e:X) (n:String) (v:X)
  | clrB (x:String)
  | cutB (x:String) (hi:X)
  | augN (x:String) (e:X)
  | augF (x:String) (n:String) (e:X)
  | expr (e:X)
  | app (x:String) (e:X)
  | rev (x:String)
  | appB (x:String) (e:X)
  | ifS (t:X) (a b:List S)
  | whileS (t:X) (body:List S)
  | forR (x:String) (n:X) (body:List S)
  | ret (e:X)
  | retN
  | raise (e:X)
  | tryR (body:List S) (x:String) (e:X)
  | dead
  | brk
  | pass
inductive Fl where
  | next
  | brk
  | ret (v:V)
noncomputable def setL:String→LV→List (String × LV)→List (String × LV)
  | x,l,[]=>[(x,l)]
  | x,l,(y,m) :: r=>if y=x then (x,l) :: r else (y,m) :: setL x l r
noncomputable def setAll:List String→List LV→List (String × LV)→List (String × LV)
  | x :: xs,l :: ls,r=>setAll xs ls (setL x l r)
  | _,_,r=>r
noncomputable def delL:String→List (String × LV)→List (String × LV)
  | _,[]=>[]
  | x,(y,m) :: r=>if y=x then delL x r else (y,m) :: delL x r
noncomputable def getF:String→List (String × V)→Option V
  | _,[]=>none
  | x,(y,v) :: r=>if y=x then some v else getF x r
noncomputable def setF':String→V→List (String × V)→List (String × V)
  | x,l,[]=>[(x,l)]
  | x,l,(y,m) :: r=>if y=x then (x,l) :: r else (y,m) :: setF' x l r
noncomputable def eqL (f:V→V→Option Bool):List V→List V→Option Bool
  | [],[]=>some true
  | a :: as,b :: bs=>match f a b,eqL f as bs with
    | some x,some y=>some (x && y)
    | _,_=>none
  | _,_=>none
noncomputable def eqN:Nat→V→V→Option Bool
  | _,.none,.none=>some true
  | _,.int a,.int b=>some (a == b)
  | _,.byt a,.byt b=>some (a == b)
  | n+1,.tup a,.tup b=>eqL (eqN n) a b
  | n+1,.lst a,.lst b=>eqL (eqN n) a b
  | _,_,_=>none
noncomputable def V.eqD (a b:V):Option Bool:=eqN 6 a b
mutual
noncomputable def V.noLex:V→Bool
  | .lex=>false
  | .tok _ v=>V.noLex v
  | .tup vs=>V.noLexs vs
  | .lst vs=>V.noLexs vs
  | _=>true
noncomputable def V.noLexs:List V→Bool
  | []=>true
  | v :: r=>V.noLex v && V.noLexs r
end
noncomputable def LV.noLex:LV→Bool
  | .v u=>u.noLex
  | .own vs=>V.noLexs vs
noncomputable def V.isNone:V→Bool
  | .none=>true
  | _=>false
noncomputable def inV (a:V) (b:V):Option Bool:=match a,b with
  | .int i,.byt l=>if 0≤i∧i < 256 then some (l.any fun c=>(c.toNat:Int) == i) else none
  | .int i,.tup vs=>vs.foldr (fun v r=>match v,r with
    | .int j,some x=>some ((i == j) || x)
    | _,_=>none) (some false)
  | _,_=>none
noncomputable def cmpV (op:CmpOp) (a b:V):Option Bool:=match op,a,b with
  | .Lt,.int x,.int y=>some (decide (x < y))
  | .LtE,.int x,.int y=>some (decide (x≤y))
  | .Gt,.int x,.int y=>some (decide (x > y))
  | .GtE,.int x,.int y=>some (decide (x ≥ y))
  | .Eq,a,b=>V.eqD a b
  | .NotEq,a,b=>(V.eqD a b).map (!·)
  | .Is,a,.none=>some a.isNone
  | .IsNot,a,.none=>some (!a.isNone)
  | .In,a,b=>inV a b
  | .NotIn,a,b=>(inV a b).map (!·)
  | _,_,_=>none
noncomputable def binV (op:Operator) (a b:V) (Q:V→Prop):Prop:=match op,a,b with
  | .Add,.int x,.int y=>Q (.int (x+y))
  | .Sub,.int x,.int y=>Q (.int (x - y))
  | .Mult,.int x,.int y=>x.natAbs < 2 ^ 64∧y.natAbs < 2 ^ 64∧Q (.int (x * y))
  | .Mod,.int x,.int y=>0 < y∧y < 1000000∧Q (.int (x.fmod y))
  | .FloorDiv,.int x,.int y=>0 < y∧y < 1000000∧Q (.int (x.fdiv y))
  | .BitAnd,.int x,.int y=>Q (.int (Builtin.bitAnd x y))
  | .LShift,.int x,.int y=>0≤y∧y≤1000000∧x.natAbs < 2 ^ 64∧Q (.int (x * 2 ^ y.toNat))
  | .Add,.byt x,.byt y=>x.length+y.length≤16777216∧Q (.byt (x++y))
  | _,_,_=>False
noncomputable def attrV (v:V) (n:String) (lx:Option Lex):Option V:=match v with
  | .lex=>match lx with
    | some l=>match getF n l.fs with
      | some .bufref=>none
      | r=>r
    | none=>none
  | .tok k w=>if n = "kind" then some (.int k) else if n = "value" then some w else none
  | .lims=>if n = "width" then some (.int 64) else if n = "text" then some (.int 1000000) else none
  | .exc m=>if n = "value" then some (.byt m) else none
  | _=>none
noncomputable def idxV (e i:V) (Q:V→Prop):Prop:=match e,i with
  | .byt l,.int k=>l.length≤1099511627776∧0≤k∧k < l.length∧Q (.int (l.getD k.toNat 0).toNat)
  | .tup vs,.int k=>0≤k∧k < vs.length∧vs.length < 1000∧Q (vs.getD k.toNat .none)
  | .lst vs,.int k=>0≤k∧k < vs.length∧vs.length < 1000000∧Q (vs.getD k.toNat .none)
  | _,_=>False
noncomputable def clip (n:Nat) (k:Int):Nat:=clipAt n k
noncomputable def cutV (l:List UInt8) (lo hi:Int):List UInt8:=(l.take (clip l.length hi)).drop (clip l.length lo)
noncomputable def bytesOfV:List V→Option (List UInt8)
  | []=>some []
  | .int i :: r=>if 0≤i∧i < 256 then (bytesOfV r).map (i.toNat.toUInt8 :: ·) else none
  | _ :: _=>none
noncomputable def biV (f:String) (vs:List V) (Q:V→Prop):Prop:=match vs with
  | [.byt l]=>f = "len"∧l.length≤1099511627776∧Q (.int l.length)
  | [.lst l]=>(f = "len"∧l.length≤16777216∧Q (.int l.length))∨(f = "bytes"∧l.length≤16777216∧∃ b,bytesOfV l=some b∧Q (.byt b))
  | [.int i]=>f = "abs"∧Q (.int (if i < 0 then -i else i))
  | _=>False
noncomputable def isiV (v:V) (T:String):Option Bool:=match v with
  | .byt _=>if T = "bytes" then some true else none
  | .int _=>if T = "int" then some true else if T = "bytes" then some false else if T = "bool" then some false else none
  | _=>none
noncomputable def bmOk (v:V) (m:String):Prop:=match v with
  | .byt _=>m = "find"
  | .kinds=>m = "get"
  | _=>False
noncomputable def bmV (v:V) (m:String) (vs:List V) (Q:V→Prop):Prop:=match v,vs with
  | .byt l,[.byt [c]]=>m = "find"∧Q (.int (((Builtin.Bytes.find? l.toArray #[c] 0 l.length).map Int.ofNat).getD (-1)))
  | .kinds,[.byt w]=>m = "get"∧Q (match wordTable.lookup w with | some k=>.int k | none=>.none)
  | _,_=>False
noncomputable def bufAt (x:String) (st:St):Option (List UInt8):=match lkL x st.ρ,st.lx with
  | some (.v .lex),some l=>match getF "buffer" l.fs with
    | some .bufref=>l.buf
    | _=>none
  | _,_=>none
noncomputable def ev:X→St→Option Int
  | .cst (.int i),_=>some i
  | .loc x,st=>match lkL x st.ρ with
    | some (.v (.int i))=>some i
    | _=>none
  | .bin .Sub a b,st=>match ev a st,ev b st with
    | some i,some j=>some (i - j)
    | _,_=>none
  | .lenB x,st=>match bufAt x st with
    | some b=>if b.length≤16777216 then some b.length else none
    | none=>none
  | _,_=>none
noncomputable def bufOnce:List (String × V)→Bool
  | []=>true
  | (n,_) :: r=>if n = "buffer" then r.all (fun p=>decide (p.1 ≠ "buffer")) else bufOnce r
mutual
noncomputable def X.quiet:X→Bool
  | .cst _=>true
  | .loc _=>true
  | .tup es=>X.quiets es
  | .lstD es=>X.quiets es
  | .fld e _=>X.quiet e
  | .bin _ a b=>X.quiet a && X.quiet b
  | .neg a=>X.quiet a
  | .notE a=>X.quiet a
  | .andE es=>X.quiets es
  | .orE es=>X.quiets es
  | .cmp a _ b=>X.quiet a && X.quiet b
  | .cmp2 a _ b _ c=>X.quiet a && (X.quiet b && X.quiet c)
  | .ite t a b=>X.quiet t && (X.quiet a && X.quiet b)
  | .idx e i=>X.quiet e && X.quiet i
  | _=>false
noncomputable def X.quiets:List X→Bool
  | []=>true
  | x :: r=>X.quiet x && X.quiets r
end
noncomputable def lawPieces:List (List UInt8):=[[97,32],[97,110,100,32],[49,50,32],[48,120,103,32],[43],[46,46],[61],[39,116,39,32],[34,117],[91,91,108,93,93],[91,61,61],[45,45,99,10],[45,45,91,91,100,93,93],[10],[46,46,46],[126,61],[92],[40],[39,92,51,48,48,39,32],[120,49,61],[93,61,61,93,32],[48,120,49,101,32],[91,91,97,91,91],[91,61,91,10,93,61,93]]
noncomputable abbrev Post:=V→St→Prop
noncomputable abbrev Exc:=List UInt8→St→Prop
noncomputable abbrev Spec:=List V→Option Lex→(V→Option Lex→Prop)→(List UInt8→Prop)→Prop
noncomputable abbrev Specs:=Addr→Spec
section
variable (Γ:Specs)
mutual
noncomputable def wpX:X→Post→Exc→St→Prop
  | .cst v,Q,_,st=>Q v st
  | .loc x,Q,_,st=>match lkL x st.ρ with
    | some (.v v)=>Q v st
    | some (.own vs)=>Q (.lst vs) { st with ρ:=setL x (.v (.lst vs)) st.ρ }
    | none=>False
  | .tup es,Q,Xc,st=>wpXs es (fun vs st=>vs.length≤1000∧Q (.tup vs) st) Xc st
  | .lstD es,Q,Xc,st=>wpXs es (fun vs st=>vs.length≤1000∧Q (.lst vs) st) Xc st
  | .fld e n,Q,Xc,st=>wpX e (fun v st=>∃ r,attrV v n st.lx=some r∧Q r st) Xc st
  | .bin op a b,Q,Xc,st=>wpX a (fun va st=>wpX b (fun vb st=>binV op va vb fun v=>Q v st) Xc st) Xc st
  | .neg a,Q,Xc,st=>wpX a (fun v st=>∃ i,v = .int i∧Q (.int (-i)) st) Xc st
  | .notE a,Q,Xc,st=>wpX a (fun v st=>∃ b,v = .bool b∧Q (.bool !b) st) Xc st
  | .andE es,Q,Xc,st=>wpAnd es (fun b st=>Q (.bool b) st) Xc st
  | .orE es,Q,Xc,st=>wpOr es (fun b st=>Q (.bool b) st) Xc st
  | .cmp a op b,Q,Xc,st=>wpX a (fun va st=>wpX b (fun vb st=>∃ r,cmpV op va vb=some r∧Q (.bool r) st) Xc st) Xc st
  | .cmp2 a o1 b o2 c,Q,Xc,st=>wpX a (fun va st=>wpX b (fun vb st=>∃ r,cmpV o1 va vb=some r∧
      (r=true→wpX c (fun vc st=>∃ r,cmpV o2 vb vc=some r∧Q (.bool r) st) Xc st)∧(r=false→Q (.bool false) st)) Xc st) Xc st
  | .ite t a b,Q,Xc,st=>wpX t (fun v st=>∃ r,v = .bool r∧(r=true→wpX a Q Xc st)∧(r=false→wpX b Q Xc st)) Xc st
  | .idx e i,Q,Xc,st=>wpX e (fun ve st=>wpX i (fun vi st=>idxV ve vi fun v=>Q v st) Xc st) Xc st
  | .slA e hi,Q,Xc,st=>wpX e (fun ve st=>wpX hi (fun vh st=>∃ l h,ve = .byt l∧vh = .int h∧l.length≤16777216∧h.natAbs < 2 ^ 60∧Q (.byt (cutV l 0 h)) st) Xc st) Xc st
  | .slC e lo hi,Q,Xc,st=>wpX e (fun ve st=>wpX lo (fun vl st=>wpX hi (fun vh st=>∃ l k h,ve = .byt l∧vl = .int k∧vh = .int h∧l.length≤16777216∧k.natAbs < 2 ^ 60∧h.natAbs < 2 ^ 60∧Q (.byt (cutV l k h)) st) Xc st) Xc st) Xc st
  | .call f args,Q,Xc,st=>wpXs args (fun vs st=>Γ f vs st.lx (fun v lx=>Q v { st with lx:=lx }) (fun m=>Xc m { st with lx:=none })) Xc st
  | .mcall e f args,Q,Xc,st=>wpX e (fun v st=>v matches .lex∧(∃ l,st.lx=some l)∧wpXs args (fun vs st=>Γ f (.lex :: vs) st.lx (fun v lx=>Q v { st with lx:=lx }) (fun m=>Xc m { st with lx:=none })) Xc st) Xc st
  | .bi f args,Q,Xc,st=>wpXs args (fun vs st=>biV f vs fun v=>Q v st) Xc st
  | .isi e T,Q,Xc,st=>wpX e (fun v st=>∃ r,isiV v T=some r∧Q (.bool r) st) Xc st
  | .bm e m args,Q,Xc,st=>wpX e (fun v st=>bmOk v m∧wpXs args (fun vs st=>bmV v m vs fun v=>Q v st) Xc st) Xc st
  | .newTok k v,Q,Xc,st=>wpX k (fun vk st=>wpX v (fun vv st=>∃ i,vk = .int i∧Q (.tok i vv) st) Xc st) Xc st
  | .newLims,Q,_,st=>Q .lims st
  | .lenB x,Q,_,st=>∃ b,bufAt x st=some b∧b.length≤16777216∧Q (.int b.length) st
  | .bytesB x,Q,_,st=>∃ b,bufAt x st=some b∧b.length≤16777216∧Q (.byt b) st
  | .bytesCut x lo hi,Q,_,st=>∃ b k h,bufAt x st=some b∧ev lo st=some k∧ev hi st=some h∧b.length≤16777216∧k.natAbs < 2 ^ 60∧h.natAbs < 2 ^ 60∧Q (.byt (cutV b k h)) st
  | .filtNe xs y _,Q,_,st=>∃ (n:Nat) (k:Int) (w:V),lkL xs st.ρ=some (.own (List.replicate n (.tup [.int k,w])))∧lkL y st.ρ=some (.v (.tup [.int k,w]))∧eqN 5 w w=some true∧n≤1000∧
      Q (.lst []) { st with ρ:=setL xs (.v (.lst (List.replicate n (.tup [.int k,w])))) st.ρ }
  | .someE x,Q,_,st=>∃ ns:List Int,lkL x st.ρ=some (.v (.lst (ns.map .int)))∧ns.length≤1000∧Q (.lst (((ns.take 12).map (fun n=>if n < 0 then -n else n)++[(ns.length+2:Int)]).map .int)) st
  | .joinE x,Q,_,st=>∃ ns:List Int,lkL x st.ρ=some (.v (.lst (ns.map .int)))∧ns≠[]∧ns.length≤1000∧Q (.byt (ns.flatMap fun n=>lawPieces.getD (n.fmod 24).toNat [])) st
  | .divE x,Q,_,st=>∃ ns:List Int,lkL x st.ρ=some (.v (.lst (ns.map .int)))∧ns.length≤1000∧Q (.lst ((ns.map fun n=>n.fdiv 24).map .int)) st
  | .dead,_,_,_=>False
noncomputable def wpXs:List X→(List V→St→Prop)→Exc→St→Prop
  | [],Q,_,st=>Q [] st
  | e :: r,Q,Xc,st=>wpX e (fun v st=>wpXs r (fun vs st=>Q (v :: vs) st) Xc st) Xc st
noncomputable def wpAnd:List X→(Bool→St→Prop)→Exc→St→Prop
  | [],Q,_,st=>Q true st
  | e :: r,Q,Xc,st=>wpX e (fun v st=>∃ b,v = .bool b∧(b=true→wpAnd r Q Xc st)∧(b=false→Q false st)) Xc st
noncomputable def wpOr:List X→(Bool→St→Prop)→Exc→St→Prop
  | [],Q,_,st=>Q false st
  | e :: r,Q,Xc,st=>wpX e (fun v st=>∃ b,v = .bool b∧(b=false→wpOr r Q Xc st)∧(b=true→Q true st)) Xc st
end
noncomputable def wpIts:List It→(List LV→St→Prop)→Exc→St→Prop
  | [],Q,_,st=>Q [] st
  | .e x :: r,Q,Xc,st=>wpX Γ x (fun v st=>wpIts r (fun vs st=>Q (.v v :: vs) st) Xc st) Xc st
  | .nil :: r,Q,Xc,st=>wpIts r (fun vs st=>Q (.own [] :: vs) st) Xc st
mutual
noncomputable def wpS:S→(Fl→St→Prop)→Exc→St→Prop
  | .asg x e,Q,Xc,st=>wpX Γ e (fun v st=>Q .next { st with ρ:=setL x (.v v) st.ρ }) Xc st
  | .asgT xs es,Q,Xc,st=>wpIts Γ es (fun ls st=>Q .next { st with ρ:=setAll xs ls st.ρ }) Xc st
  | .asgU xs e,Q,Xc,st=>wpX Γ e (fun v st=>∃ vs,v = .tup vs∧vs.length=xs.length∧Q .next { st with ρ:=setAll xs (vs.map .v) st.ρ }) Xc st
  | .setF e n v,Q,Xc,st=>wpX Γ v (fun v st=>wpX Γ e (fun o st=>o matches .lex∧n ≠ "buffer"∧(¬ v matches .bufref)∧∃ l,st.lx=some l∧l.fs.length≤100∧Q .next { st with lx:=some { l with fs:=setF' n v l.fs } }) Xc st) Xc st
  | .clrB x,Q,_,st=>∃ l,(lkL x st.ρ matches some (.v .lex))∧st.lx=some l∧l.fs.length≤100∧bufOnce l.fs=true∧Q .next { st with lx:=some ⟨setF' "buffer" .bufref l.fs,some []⟩ }
  | .cutB x hi,Q,_,st=>∃ l b h,bufAt x st=some b∧ev hi st=some h∧st.lx=some l∧l.fs.length≤100∧bufOnce l.fs=true∧b.length≤16777216∧h.natAbs < 2 ^ 60∧Q .next { st with lx:=some ⟨setF' "buffer" .bufref l.fs,some (cutV b 0 h)⟩ }
  | .augN x e,Q,_,st=>∃ i j,lkL x st.ρ=some (.v (.int i))∧ev e st=some j∧Q .next { st with ρ:=setL x (.v (.int (i+j))) st.ρ }
  | .augF x n e,Q,_,st=>∃ l i j,(lkL x st.ρ matches some (.v .lex))∧st.lx=some l∧l.fs.length≤100∧getF n l.fs=some (.int i)∧n ≠ "buffer"∧ev e st=some j∧Q .next { st with lx:=some { l with fs:=setF' n (.int (i+j)) l.fs } }
  | .expr e,Q,Xc,st=>wpX Γ e (fun ω st=>Q .next st) Xc st
  | .app x e,Q,Xc,st=>∃ vs,lkL x st.ρ=some (.own vs)∧wpX Γ e (fun v st=>∃ vs,lkL x st.ρ=some (.own vs)∧vs.length < 16777216∧Q .next { st with ρ:=setL x (.own (vs++[v])) st.ρ }) Xc st
  | .rev x,Q,_,st=>∃ vs,lkL x st.ρ=some (.own vs)∧vs.length≤16777216∧Q .next { st with ρ:=setL x (.own vs.reverse) st.ρ }
  | .appB x e,Q,_,st=>∃ l b i,bufAt x st=some b∧ev e st=some i∧st.lx=some l∧0≤i∧i < 256∧b.length < 16777216∧Q .next { st with lx:=some { l with buf:=some (b++[i.toNat.toUInt8]) } }
  | .ifS t a b,Q,Xc,st=>wpX Γ t (fun v st=>∃ r,v = .bool r∧(r=true→wpSs a Q Xc st)∧(r=false→wpSs b Q Xc st)) Xc st
  | .whileS t body,Q,Xc,st=>∃ (I:St→Prop) (m:St→Nat),I st∧∀ st',I st'→wpX Γ t (fun v st=>∃ r,v = .bool r∧
      (r=true→wpSs body (fun fl st=>match fl with
        | .next=>I st∧m st < m st'
        | .brk=>Q .next st
        | .ret v=>Q (.ret v) st) Xc st)∧(r=false→Q .next st)) Xc st'
  | .forR x n body,Q,Xc,st=>wpX Γ n (fun v st=>∃ (k:Nat) (I:Nat→St→Prop),v = .int k∧k < 1000000∧I 0 st∧(∀ i st',i < k→I i st'→wpSs body (fun fl st=>match fl with
        | .next=>I (i+1) st
        | .brk=>Q .next st
        | .ret v=>Q (.ret v) st) Xc { st' with ρ:=setL x (.v (.int i)) st'.ρ })∧∀ st',I k st'→Q .next st') Xc st
  | .ret e,Q,Xc,st=>wpX Γ e (fun v st=>Q (.ret v) st) Xc st
  | .retN,Q,_,st=>Q (.ret .none) st
  | .raise e,_,Xc,st=>wpX Γ e (fun v st=>∃ m,v = .byt m∧Xc m { st with lx:=none }) Xc st
  | .tryR body x e,Q,Xc,st=>wpSs body Q (fun m st=>e.quiet=true∧wpX Γ e (fun v st=>Q (.ret v) { st with ρ:=delL x st.ρ }) (fun ω ω=>False) { ρ:=setL x (.v (.exc m)) st.ρ,lx:=none }) st
  | .dead,_,_,_=>False
  | .brk,Q,_,st=>Q .brk st
  | .pass,Q,_,st=>Q .next st
noncomputable def wpSs:List S→(Fl→St→Prop)→Exc→St→Prop
  | [],Q,_,st=>Q .next st
  | s :: r,Q,Xc,st=>wpS s (fun fl st=>match fl with
    | .next=>wpSs r Q Xc st
    | fl=>Q fl st) Xc st
end
noncomputable def wpFn (params:List String) (body:List S):Spec:=fun vs lx Q Xc=>
  vs.length=params.length∧wpSs Γ body (fun fl st=>match fl with
    | .ret v=>Q v st.lx
    | .next=>Q .none st.lx
    | .brk=>False) (fun m ω=>Xc m) { ρ:=params.zip (vs.map .v),lx:=lx }
end
end
noncomputable def vBlanks:List UInt8:=[32,9,10,11,12,13]
noncomputable def vReserved:List (List UInt8):=[[97,110,100],[98,114,101,97,107],[100,111],[101,108,115,101],[101,108,115,101,105,102],[101,110,100],[102,97,108,115,101],[102,111,114],[102,117,110,99,116,105,111,110],[105,102],[105,110],[108,111,99,97,108],[110,105,108],[110,111,116],[111,114],[114,101,112,101,97,116],[114,101,116,117,114,110],[116,104,101,110],[116,114,117,101],[117,110,116,105,108],[119,104,105,108,101]]
noncomputable def vOthers:List (List UInt8):=[[46,46],[46,46,46],[61,61],[62,61],[60,61],[126,61],[60,110,117,109,98,101,114,62],[60,110,97,109,101,62],[60,115,116,114,105,110,103,62],[60,101,111,102,62]]
noncomputable def cByt (l:List (List UInt8)):V:=.lst (l.map .byt)
noncomputable def b_is_number:List S:=[
  .ret (.andE [(.isi (.loc "value") "int"),(.notE (.isi (.loc "value") "bool"))])]
noncomputable def b_wrap:List S:=[
  .asg "low" (.bin .BitAnd (.loc "n") (.bin .Sub (.bin .LShift (.cst (.int 1)) (.loc "width")) (.cst (.int 1)))),
  .ifS (.cmp (.loc "low") .GtE (.bin .LShift (.cst (.int 1)) (.bin .Sub (.loc "width") (.cst (.int 1))))) [.ret (.bin .Sub (.loc "low") (.bin .LShift (.cst (.int 1)) (.loc "width")))] [],
  .ret (.loc "low")]
noncomputable def b_is_blank_values:List S:=[
  .ret (.cmp (.loc "octet") .In (.cst (.byt [32,9,10,11,12,13])))]
noncomputable def b_digit_of:List S:=[
  .ifS (.cmp2 (.cst (.int 48)) .LtE (.loc "octet") .LtE (.cst (.int 57))) [.ret (.bin .Sub (.loc "octet") (.cst (.int 48)))] [],
  .ifS (.cmp2 (.cst (.int 97)) .LtE (.loc "octet") .LtE (.cst (.int 122))) [.ret (.bin .Sub (.loc "octet") (.cst (.int 87)))] [],
  .ifS (.cmp2 (.cst (.int 65)) .LtE (.loc "octet") .LtE (.cst (.int 90))) [.ret (.bin .Sub (.loc "octet") (.cst (.int 55)))] [],
  .ret (.neg (.cst (.int 1)))]
noncomputable def b_read_digits0:List S:=[
  .asgT ["found","most"] [(.e (.cst (.int 0))),(.e (.bin .Sub (.bin .LShift (.cst (.int 1)) (.loc "width")) (.cst (.int 1))))],
  .whileS (.cmp (.loc "at") .Lt (.bi "len" [(.loc "text")])) [.asg "digit" (.call 117 [(.idx (.loc "text") (.loc "at"))]),.ifS (.orE [(.cmp (.loc "digit") .Lt (.cst (.int 0))),(.cmp (.loc "digit") .GtE (.loc "base"))]) [.brk] [],.asg "found" (.bin .BitAnd (.bin .Add (.bin .Mult (.loc "found") (.loc "base")) (.loc "digit")) (.loc "most")),.asg "at" (.bin .Add (.loc "at") (.cst (.int 1)))],
  .ret (.tup [(.loc "found"),(.loc "at")])]
noncomputable def b_skip_blanks:List S:=[
  .whileS (.andE [(.cmp (.loc "at") .Lt (.bi "len" [(.loc "text")])),(.call 110 [(.idx (.loc "text") (.loc "at"))])]) [.asg "at" (.bin .Add (.loc "at") (.cst (.int 1)))],
  .ret (.loc "at")]
noncomputable def b_str_to_number:List S:=[
  .ret (.call 145 [(.loc "text"),(.cst (.int 0)),(.loc "limits")])]
noncomputable def b_text_in_base:List S:=[
  .asgT ["at","is_below"] [(.e (.call 131 [(.loc "text"),(.cst (.int 0))])),(.e (.cst (.bool false)))],
  .ifS (.andE [(.cmp (.loc "at") .Lt (.bi "len" [(.loc "text")])),(.cmp (.idx (.loc "text") (.loc "at")) .In (.cst (.byt [43,45])))]) [.asg "is_below" (.cmp (.idx (.loc "text") (.loc "at")) .Eq (.cst (.int 45))),.asg "at" (.bin .Add (.loc "at") (.cst (.int 1)))] [],
  .asg "is_marked" (.andE [(.cmp (.bin .Add (.loc "at") (.cst (.int 2))) .Lt (.bi "len" [(.loc "text")])),(.cmp (.idx (.loc "text") (.loc "at")) .Eq (.cst (.int 48))),(.cmp (.idx (.loc "text") (.bin .Add (.loc "at") (.cst (.int 1)))) .In (.cst (.byt [120,88]))),(.cmp (.loc "base") .In (.tup [(.cst (.int 0)),(.cst (.int 16))]))]),
  .ifS (.andE [(.loc "is_marked"),(.cmp2 (.cst (.int 0)) .LtE (.call 117 [(.idx (.loc "text") (.bin .Add (.loc "at") (.cst (.int 2))))]) .Lt (.cst (.int 16)))]) [.asgT ["at","base"] [(.e (.bin .Add (.loc "at") (.cst (.int 2)))),(.e (.cst (.int 16)))]] [],
  .asgU ["found","end"] (.call 124 [(.loc "text"),(.loc "at"),(.ite (.cmp (.loc "base") .Eq (.cst (.int 0))) (.cst (.int 10)) (.loc "base")),(.fld (.loc "limits") "width")]),
  .ifS (.orE [(.cmp (.loc "end") .Eq (.loc "at")),(.cmp (.call 131 [(.loc "text"),(.loc "end")]) .NotEq (.bi "len" [(.loc "text")]))]) [.ret (.cst .none)] [],
  .ret (.call 103 [(.ite (.loc "is_below") (.neg (.loc "found")) (.loc "found")),(.fld (.loc "limits") "width")])]
noncomputable def b_number_text:List S:=[
  .asgT ["left","found"] [(.e (.bi "abs" [(.loc "n")])),.nil],
  .whileS (.cmp (.loc "left") .Gt (.cst (.int 9))) [.app "found" (.bin .Add (.cst (.int 48)) (.bin .Mod (.loc "left") (.cst (.int 10)))),.asg "left" (.bin .FloorDiv (.loc "left") (.cst (.int 10)))],
  .app "found" (.bin .Add (.cst (.int 48)) (.loc "left")),
  .ifS (.cmp (.loc "n") .Lt (.cst (.int 0))) [.app "found" (.cst (.int 45))] [],
  .rev "found",
  .ret (.bi "bytes" [(.loc "found")])]
noncomputable def b_to_text:List S:=[
  .ifS (.isi (.loc "value") "bytes") [.ret (.loc "value")] [],
  .ifS (.call 96 [(.loc "value")]) [.ret (.call 152 [(.loc "value")])] [],
  .ret (.cst .none)]
noncomputable def b_c_text:List S:=[
  .asg "at" (.cst (.int 0)),
  .whileS (.andE [(.cmp (.loc "at") .Lt (.bi "len" [(.loc "text")])),(.cmp (.idx (.loc "text") (.loc "at")) .NotEq (.cst (.int 0)))]) [.asg "at" (.bin .Add (.loc "at") (.cst (.int 1)))],
  .ret (.slA (.loc "text") (.loc "at"))]
noncomputable def b_chunk_id:List S:=[
  .asg "source" (.call 166 [(.loc "source")]),
  .ifS (.cmp (.slA (.loc "source") (.cst (.int 1))) .Eq (.cst (.byt [61]))) [.ret (.slC (.loc "source") (.cst (.int 1)) (.loc "size"))] [],
  .ifS (.cmp (.slA (.loc "source") (.cst (.int 1))) .Eq (.cst (.byt [64]))) [.dead,.dead] [],
  .dead,
  .ifS (.cmp (.bi "len" [(.loc "line")]) .Gt (.loc "room")) [.asg "line" (.slA (.loc "line") (.loc "room"))] [],
  .ifS (.cmp (.bi "len" [(.loc "line")]) .Lt (.bi "len" [(.loc "source")])) [.asg "line" (.bin .Add (.loc "line") (.cst (.byt [46,46,46])))] [],
  .ret (.bin .Add (.bin .Add (.cst (.byt [91,115,116,114,105,110,103,32,34])) (.loc "line")) (.cst (.byt [34,93])))]
noncomputable def b_is_digit:List S:=[
  .ret (.cmp2 (.cst (.int 48)) .LtE (.loc "sign") .LtE (.cst (.int 57)))]
noncomputable def b_is_letter:List S:=[
  .ret (.orE [(.cmp2 (.cst (.int 65)) .LtE (.loc "sign") .LtE (.cst (.int 90))),(.cmp2 (.cst (.int 97)) .LtE (.loc "sign") .LtE (.cst (.int 122))),(.cmp (.loc "sign") .Eq (.cst (.int 95)))])]
noncomputable def b_is_name_sign:List S:=[
  .ret (.orE [(.call 196 [(.loc "sign")]),(.call 189 [(.loc "sign")])])]
noncomputable def b_is_blank_lexer:List S:=[
  .ret (.orE [(.cmp (.loc "sign") .Eq (.cst (.int 32))),(.cmp2 (.cst (.int 9)) .LtE (.loc "sign") .LtE (.cst (.int 13)))])]
noncomputable def b_is_control:List S:=[
  .ret (.orE [(.cmp2 (.cst (.int 0)) .LtE (.loc "sign") .Lt (.cst (.int 32))),(.cmp (.loc "sign") .Eq (.cst (.int 127)))])]
noncomputable def b_is_newline:List S:=[
  .ret (.cmp (.loc "sign") .In (.tup [(.cst (.int 10)),(.cst (.int 13))]))]
noncomputable def b_escaped_sign:List S:=[
  .asg "at" (.bm (.cst (.byt [97,98,102,110,114,116,118])) "find" [(.bi "bytes" [(.lstD [(.loc "sign")])])]),
  .ret (.ite (.cmp (.loc "at") .Lt (.cst (.int 0))) (.cst .none) (.idx (.cst (.byt [7,8,12,10,13,9,11])) (.loc "at")))]
noncomputable def b_token_text:List S:=[
  .ifS (.cmp (.loc "kind") .Lt (.cst (.int 257))) [.ifS (.call 217 [(.loc "kind")]) [.ret (.bin .Add (.bin .Add (.cst (.byt [99,104,97,114,40])) (.call 159 [(.loc "kind")])) (.cst (.byt [41])))] [],.ret (.bi "bytes" [(.lstD [(.loc "kind")])])] [],
  .asg "at" (.bin .Sub (.loc "kind") (.cst (.int 257))),
  .ret (.ite (.cmp (.loc "at") .Lt (.bi "len" [(.cst (cByt vReserved))])) (.idx (.cst (cByt vReserved)) (.loc "at")) (.idx (.cst (cByt vOthers)) (.bin .Sub (.loc "at") (.bi "len" [(.cst (cByt vReserved))]))))]
noncomputable def b_lexer_init:List S:=[
  .setF (.loc "self") "text" (.loc "text"),
  .setF (.loc "self") "source" (.loc "chunk"),
  .setF (.loc "self") "chunk" (.call 180 [(.loc "chunk"),(.cst (.int 80))]),
  .setF (.loc "self") "limits" (.loc "limits"),
  .setF (.loc "self") "kinds" (.call 238 []),
  .setF (.loc "self") "at" (.cst (.int 0)),
  .setF (.loc "self") "sign" (.ite (.cmp (.bi "len" [(.loc "text")]) .Gt (.cst (.int 0))) (.idx (.loc "text") (.cst (.int 0))) (.cst (.int (-1)))),
  .setF (.loc "self") "line" (.cst (.int 1)),
  .setF (.loc "self") "last_line" (.cst (.int 1)),
  .clrB "self",
  .setF (.loc "self") "current" (.newTok (.cst (.int 287)) (.cst .none)),
  .setF (.loc "self") "ahead" (.cst .none)]
noncomputable def b_next:List S:=[
  .setF (.loc "self") "last_line" (.fld (.loc "self") "line"),
  .ifS (.cmp (.fld (.loc "self") "ahead") .IsNot (.cst .none)) [.setF (.loc "self") "current" (.fld (.loc "self") "ahead"),.setF (.loc "self") "ahead" (.cst .none)] [.setF (.loc "self") "current" (.mcall (.loc "self") 364 [])],
  .ret (.fld (.loc "self") "current")]
noncomputable def b_lookahead:List S:=[
  .ifS (.cmp (.fld (.loc "self") "ahead") .Is (.cst .none)) [.setF (.loc "self") "ahead" (.mcall (.loc "self") 364 [])] [],
  .ret (.fld (.loc "self") "ahead")]
noncomputable def b_error:List S:=[
  .asg "message" (.bin .Add (.bin .Add (.bin .Add (.bin .Add (.fld (.loc "self") "chunk") (.cst (.byt [58]))) (.call 159 [(.fld (.loc "self") "line")])) (.cst (.byt [58,32]))) (.loc "text")),
  .ifS (.andE [(.cmp (.loc "kind") .IsNot (.cst .none)),(.cmp (.loc "kind") .NotEq (.cst (.int 0)))]) [.asg "message" (.bin .Add (.bin .Add (.bin .Add (.loc "message") (.cst (.byt [32,110,101,97,114,32,39]))) (.mcall (.loc "self") 315 [(.loc "kind")])) (.cst (.byt [39])))] [],
  .raise (.loc "message")]
noncomputable def b_syntax_error:List S:=[
  .expr (.mcall (.loc "self") 301 [(.loc "text"),(.fld (.fld (.loc "self") "current") "kind")])]
noncomputable def b_near_text:List S:=[
  .ifS (.cmp (.loc "kind") .In (.tup [(.cst (.int 285)),(.cst (.int 286)),(.cst (.int 284))])) [.ret (.call 166 [(.bytesB "self")])] [],
  .ret (.call 245 [(.loc "kind")])]
noncomputable def b_move:List S:=[
  .augF "self" "at" (.cst (.int 1)),
  .setF (.loc "self") "sign" (.ite (.cmp (.fld (.loc "self") "at") .Lt (.bi "len" [(.fld (.loc "self") "text")])) (.idx (.fld (.loc "self") "text") (.fld (.loc "self") "at")) (.cst (.int (-1))))]
noncomputable def b_keep:List S:=[
  .ifS (.cmp (.lenB "self") .GtE (.fld (.fld (.loc "self") "limits") "text")) [.expr (.mcall (.loc "self") 301 [(.cst (.byt [108,101,120,105,99,97,108,32,101,108,101,109,101,110,116,32,116,111,111,32,108,111,110,103])),(.cst .none)])] [],
  .appB "self" (.loc "sign")]
noncomputable def b_keep_and_move:List S:=[
  .expr (.mcall (.loc "self") 329 [(.fld (.loc "self") "sign")]),
  .expr (.mcall (.loc "self") 322 [])]
noncomputable def b_keep_if:List S:=[
  .ifS (.cmp (.fld (.loc "self") "sign") .NotIn (.loc "signs")) [.ret (.cst (.bool false))] [],
  .expr (.mcall (.loc "self") 336 []),
  .ret (.cst (.bool true))]
noncomputable def b_clear:List S:=[
  .clrB "self"]
noncomputable def b_end_line:List S:=[
  .asg "first" (.fld (.loc "self") "sign"),
  .expr (.mcall (.loc "self") 322 []),
  .ifS (.andE [(.call 224 [(.fld (.loc "self") "sign")]),(.cmp (.fld (.loc "self") "sign") .NotEq (.loc "first"))]) [.expr (.mcall (.loc "self") 322 [])] [],
  .augF "self" "line" (.cst (.int 1)),
  .ifS (.cmp (.fld (.loc "self") "line") .GtE (.cst (.int 2147483645))) [.expr (.mcall (.loc "self") 308 [(.cst (.byt [99,104,117,110,107,32,104,97,115,32,116,111,111,32,109,97,110,121,32,108,105,110,101,115]))])] []]
noncomputable def b_read:List S:=[
  .expr (.mcall (.loc "self") 350 []),
  .whileS (.mcall (.loc "self") 371 []) [.pass],
  .asg "sign" (.fld (.loc "self") "sign"),
  .ifS (.cmp (.loc "sign") .Eq (.cst (.int (-1)))) [.ret (.newTok (.cst (.int 287)) (.cst .none))] [],
  .ifS (.cmp (.loc "sign") .In (.tup [(.cst (.int 34)),(.cst (.int 39))])) [.ret (.mcall (.loc "self") 448 [(.loc "sign")])] [],
  .ifS (.cmp (.loc "sign") .Eq (.cst (.int 91))) [.ret (.mcall (.loc "self") 420 [])] [],
  .ifS (.cmp (.loc "sign") .Eq (.cst (.int 46))) [.ret (.mcall (.loc "self") 399 [])] [],
  .ifS (.call 189 [(.loc "sign")]) [.ret (.mcall (.loc "self") 413 [])] [],
  .ifS (.call 196 [(.loc "sign")]) [.ret (.mcall (.loc "self") 406 [])] [],
  .ifS (.cmp (.loc "sign") .Eq (.cst (.int 45))) [.expr (.mcall (.loc "self") 322 []),.ret (.newTok (.cst (.int 45)) (.cst .none))] [],
  .ifS (.cmp (.loc "sign") .In (.tup [(.cst (.int 61)),(.cst (.int 60)),(.cst (.int 62)),(.cst (.int 126))])) [.ret (.mcall (.loc "self") 392 [(.loc "sign")])] [],
  .expr (.mcall (.loc "self") 322 []),
  .ret (.newTok (.loc "sign") (.cst .none))]
noncomputable def b_skip_blank:List S:=[
  .ifS (.call 224 [(.fld (.loc "self") "sign")]) [.expr (.mcall (.loc "self") 357 []),.ret (.cst (.bool true))] [],
  .ifS (.call 210 [(.fld (.loc "self") "sign")]) [.expr (.mcall (.loc "self") 322 []),.ret (.cst (.bool true))] [],
  .ifS (.andE [(.cmp (.fld (.loc "self") "sign") .Eq (.cst (.int 45))),(.cmp (.mcall (.loc "self") 378 []) .Eq (.cst (.int 45)))]) [.expr (.mcall (.loc "self") 385 []),.ret (.cst (.bool true))] [],
  .ret (.cst (.bool false))]
noncomputable def b_sign_behind:List S:=[
  .ret (.ite (.cmp (.bin .Add (.fld (.loc "self") "at") (.cst (.int 1))) .Lt (.bi "len" [(.fld (.loc "self") "text")])) (.idx (.fld (.loc "self") "text") (.bin .Add (.fld (.loc "self") "at") (.cst (.int 1)))) (.cst (.int (-1))))]
noncomputable def b_skip_comment:List S:=[
  .expr (.mcall (.loc "self") 322 []),
  .expr (.mcall (.loc "self") 322 []),
  .ifS (.cmp (.fld (.loc "self") "sign") .Eq (.cst (.int 91))) [.asg "level" (.mcall (.loc "self") 427 []),.expr (.mcall (.loc "self") 350 []),.ifS (.cmp (.loc "level") .GtE (.cst (.int 0))) [.expr (.mcall (.loc "self") 434 [(.loc "level"),(.cst (.bool false))]),.expr (.mcall (.loc "self") 350 []),.retN] []] [],
  .whileS (.andE [(.notE (.call 224 [(.fld (.loc "self") "sign")])),(.cmp (.fld (.loc "self") "sign") .NotEq (.cst (.int (-1))))]) [.expr (.mcall (.loc "self") 322 [])]]
noncomputable def b_read_compared:List S:=[
  .expr (.mcall (.loc "self") 322 []),
  .ifS (.cmp (.fld (.loc "self") "sign") .NotEq (.cst (.int 61))) [.ret (.newTok (.loc "sign") (.cst .none))] [],
  .expr (.mcall (.loc "self") 322 []),
  .ifS (.cmp (.loc "sign") .Eq (.cst (.int 61))) [.ret (.newTok (.cst (.int 280)) (.cst .none))] [],
  .ifS (.cmp (.loc "sign") .Eq (.cst (.int 60))) [.ret (.newTok (.cst (.int 282)) (.cst .none))] [],
  .ret (.newTok (.ite (.cmp (.loc "sign") .Eq (.cst (.int 62))) (.cst (.int 281)) (.cst (.int 283))) (.cst .none))]
noncomputable def b_read_dots:List S:=[
  .expr (.mcall (.loc "self") 336 []),
  .ifS (.mcall (.loc "self") 343 [(.tup [(.cst (.int 46))])]) [.ifS (.mcall (.loc "self") 343 [(.tup [(.cst (.int 46))])]) [.ret (.newTok (.cst (.int 279)) (.cst .none))] [],.ret (.newTok (.cst (.int 278)) (.cst .none))] [],
  .ifS (.call 189 [(.fld (.loc "self") "sign")]) [.ret (.mcall (.loc "self") 413 [])] [],
  .ret (.newTok (.cst (.int 46)) (.cst .none))]
noncomputable def b_read_word:List S:=[
  .whileS (.call 203 [(.fld (.loc "self") "sign")]) [.expr (.mcall (.loc "self") 336 [])],
  .asg "word" (.bytesB "self"),
  .asg "kind" (.bm (.fld (.loc "self") "kinds") "get" [(.loc "word")]),
  .ret (.ite (.cmp (.loc "kind") .Is (.cst .none)) (.newTok (.cst (.int 285)) (.loc "word")) (.newTok (.loc "kind") (.cst .none)))]
noncomputable def b_read_numeral:List S:=[
  .whileS (.orE [(.call 189 [(.fld (.loc "self") "sign")]),(.cmp (.fld (.loc "self") "sign") .Eq (.cst (.int 46)))]) [.expr (.mcall (.loc "self") 336 [])],
  .ifS (.mcall (.loc "self") 343 [(.tup [(.cst (.int 69)),(.cst (.int 101))])]) [.expr (.mcall (.loc "self") 343 [(.tup [(.cst (.int 43)),(.cst (.int 45))])])] [],
  .whileS (.call 203 [(.fld (.loc "self") "sign")]) [.expr (.mcall (.loc "self") 336 [])],
  .asg "value" (.call 138 [(.bytesB "self"),(.fld (.loc "self") "limits")]),
  .ifS (.cmp (.loc "value") .Is (.cst .none)) [.expr (.mcall (.loc "self") 301 [(.cst (.byt [109,97,108,102,111,114,109,101,100,32,110,117,109,98,101,114])),(.cst (.int 284))])] [],
  .ret (.newTok (.cst (.int 284)) (.loc "value"))]
noncomputable def b_read_bracket:List S:=[
  .asg "level" (.mcall (.loc "self") 427 []),
  .ifS (.cmp (.loc "level") .GtE (.cst (.int 0))) [.ret (.newTok (.cst (.int 286)) (.mcall (.loc "self") 434 [(.loc "level"),(.cst (.bool true))]))] [],
  .ifS (.cmp (.loc "level") .Lt (.neg (.cst (.int 1)))) [.expr (.mcall (.loc "self") 301 [(.cst (.byt [105,110,118,97,108,105,100,32,108,111,110,103,32,115,116,114,105,110,103,32,100,101,108,105,109,105,116,101,114])),(.cst (.int 286))])] [],
  .ret (.newTok (.cst (.int 91)) (.cst .none))]
noncomputable def b_read_level:List S:=[
  .asg "bracket" (.fld (.loc "self") "sign"),
  .asg "many" (.cst (.int 0)),
  .expr (.mcall (.loc "self") 336 []),
  .whileS (.cmp (.fld (.loc "self") "sign") .Eq (.cst (.int 61))) [.expr (.mcall (.loc "self") 336 []),.augN "many" (.cst (.int 1))],
  .ret (.ite (.cmp (.fld (.loc "self") "sign") .Eq (.loc "bracket")) (.loc "many") (.bin .Sub (.neg (.loc "many")) (.cst (.int 1))))]
noncomputable def b_read_long:List S:=[
  .expr (.mcall (.loc "self") 336 []),
  .ifS (.call 224 [(.fld (.loc "self") "sign")]) [.expr (.mcall (.loc "self") 357 [])] [],
  .asg "begin" (.lenB "self"),
  .whileS (.cst (.bool true)) [.ifS (.cmp (.fld (.loc "self") "sign") .Eq (.cst (.int (-1)))) [.expr (.mcall (.loc "self") 301 [(.ite (.loc "is_text") (.cst (.byt [117,110,102,105,110,105,115,104,101,100,32,108,111,110,103,32,115,116,114,105,110,103])) (.cst (.byt [117,110,102,105,110,105,115,104,101,100,32,108,111,110,103,32,99,111,109,109,101,110,116]))),(.cst (.int 287))])] [.ifS (.cmp (.fld (.loc "self") "sign") .Eq (.cst (.int 91))) [.expr (.mcall (.loc "self") 441 [(.loc "level")])] [.ifS (.cmp (.fld (.loc "self") "sign") .Eq (.cst (.int 93))) [.ifS (.cmp (.mcall (.loc "self") 427 []) .Eq (.loc "level")) [.expr (.mcall (.loc "self") 336 []),.ret (.bytesCut "self" (.loc "begin") (.bin .Sub (.bin .Sub (.lenB "self") (.loc "level")) (.cst (.int 2))))] []] [.ifS (.call 224 [(.fld (.loc "self") "sign")]) [.expr (.mcall (.loc "self") 329 [(.cst (.int 10))]),.expr (.mcall (.loc "self") 357 []),.ifS (.notE (.loc "is_text")) [.cutB "self" (.loc "begin")] []] [.ifS (.loc "is_text") [.expr (.mcall (.loc "self") 336 [])] [.expr (.mcall (.loc "self") 322 [])]]]]]]]
noncomputable def b_read_inner:List S:=[
  .ifS (.cmp (.mcall (.loc "self") 427 []) .Eq (.loc "level")) [.expr (.mcall (.loc "self") 336 []),.ifS (.cmp (.loc "level") .Eq (.cst (.int 0))) [.expr (.mcall (.loc "self") 301 [(.cst (.byt [110,101,115,116,105,110,103,32,111,102,32,91,91,46,46,46,93,93,32,105,115,32,100,101,112,114,101,99,97,116,101,100])),(.cst (.int 91))])] []] []]
noncomputable def b_read_string:List S:=[
  .expr (.mcall (.loc "self") 336 []),
  .whileS (.cmp (.fld (.loc "self") "sign") .NotEq (.loc "quote")) [.ifS (.cmp (.fld (.loc "self") "sign") .Eq (.cst (.int (-1)))) [.expr (.mcall (.loc "self") 301 [(.cst (.byt [117,110,102,105,110,105,115,104,101,100,32,115,116,114,105,110,103])),(.cst (.int 287))])] [.ifS (.call 224 [(.fld (.loc "self") "sign")]) [.expr (.mcall (.loc "self") 301 [(.cst (.byt [117,110,102,105,110,105,115,104,101,100,32,115,116,114,105,110,103])),(.cst (.int 286))])] [.ifS (.cmp (.fld (.loc "self") "sign") .Eq (.cst (.int 92))) [.expr (.mcall (.loc "self") 322 []),.expr (.mcall (.loc "self") 455 [])] [.expr (.mcall (.loc "self") 336 [])]]]],
  .expr (.mcall (.loc "self") 336 []),
  .ret (.newTok (.cst (.int 286)) (.bytesCut "self" (.cst (.int 1)) (.bin .Sub (.lenB "self") (.cst (.int 1)))))]
noncomputable def b_read_escape:List S:=[
  .ifS (.cmp (.fld (.loc "self") "sign") .Eq (.cst (.int (-1)))) [.retN] [],
  .ifS (.call 224 [(.fld (.loc "self") "sign")]) [.expr (.mcall (.loc "self") 329 [(.cst (.int 10))]),.expr (.mcall (.loc "self") 357 []),.retN] [],
  .ifS (.call 189 [(.fld (.loc "self") "sign")]) [.expr (.mcall (.loc "self") 462 []),.retN] [],
  .asg "told" (.call 231 [(.fld (.loc "self") "sign")]),
  .expr (.mcall (.loc "self") 329 [(.ite (.cmp (.loc "told") .Is (.cst .none)) (.fld (.loc "self") "sign") (.loc "told"))]),
  .expr (.mcall (.loc "self") 322 [])]
noncomputable def b_read_digits:List S:=[
  .asgT ["value","many"] [(.e (.cst (.int 0))),(.e (.cst (.int 0)))],
  .whileS (.andE [(.cmp (.loc "many") .Lt (.cst (.int 3))),(.call 189 [(.fld (.loc "self") "sign")])]) [.asg "value" (.bin .Sub (.bin .Add (.bin .Mult (.cst (.int 10)) (.loc "value")) (.fld (.loc "self") "sign")) (.cst (.int 48))),.augN "many" (.cst (.int 1)),.expr (.mcall (.loc "self") 322 [])],
  .ifS (.cmp (.loc "value") .Gt (.cst (.int 255))) [.expr (.mcall (.loc "self") 301 [(.cst (.byt [101,115,99,97,112,101,32,115,101,113,117,101,110,99,101,32,116,111,111,32,108,97,114,103,101])),(.cst (.int 286))])] [],
  .expr (.mcall (.loc "self") 329 [(.loc "value")])]
noncomputable def b_law_shown:List S:=[
  .ret (.tup [(.fld (.loc "token") "kind"),(.fld (.loc "token") "value")])]
noncomputable def b_all_tokens:List S:=[
  .dead,
  .asg "token" (.mcall (.loc "lexer") 287 []),
  .whileS (.cmp (.fld (.loc "token") "kind") .NotEq (.cst (.int 287))) [.app "found" (.tup [(.fld (.loc "token") "kind"),(.fld (.loc "token") "value")]),.asg "token" (.mcall (.loc "lexer") 287 [])],
  .ret (.loc "found")]
noncomputable def b_law_plain:List S:=[
  .dead,
  .tryR [.whileS (.cmp (.fld (.mcall (.loc "lexer") 287 []) "kind") .NotEq (.cst (.int 287))) [.app "found" (.call 484 [(.fld (.loc "lexer") "current")])]] "refusal" (.tup [(.loc "found"),(.fld (.loc "refusal") "value")]),
  .ret (.tup [(.loc "found"),(.cst (.byt []))])]
noncomputable def b_law_peeked:List S:=[
  .dead,
  .tryR [.whileS (.orE [(.cmp (.loc "turn") .Eq (.cst (.int 0))),(.cmp (.fld (.fld (.loc "lexer") "current") "kind") .NotEq (.cst (.int 287)))]) [.asgT ["before","seen"] [(.e (.call 484 [(.fld (.loc "lexer") "current")])),.nil],.forR "again" (.bin .Mod (.idx (.loc "looks") (.bin .Mod (.loc "turn") (.bi "len" [(.loc "looks")]))) (.cst (.int 4))) [.app "seen" (.call 484 [(.mcall (.loc "lexer") 294 [])])],.ifS (.cmp (.call 484 [(.fld (.loc "lexer") "current")]) .NotEq (.loc "before")) [.ret (.cst .none)] [],.asg "token" (.call 484 [(.mcall (.loc "lexer") 287 [])]),.ifS (.orE [(.cmp (.loc "token") .NotEq (.call 484 [(.fld (.loc "lexer") "current")])),(.cmp (.filtNe "seen" "token" "one") .NotEq (.lstD []))]) [.ret (.cst .none)] [],.ifS (.cmp (.idx (.loc "token") (.cst (.int 0))) .NotEq (.cst (.int 287))) [.app "found" (.loc "token")] [],.asg "turn" (.bin .Add (.loc "turn") (.cst (.int 1)))]] "refusal" (.tup [(.loc "found"),(.fld (.loc "refusal") "value")]),
  .expr (.mcall (.loc "lexer") 294 []),
  .ret (.ite (.andE [(.cmp (.fld (.mcall (.loc "lexer") 287 []) "kind") .Eq (.cst (.int 287))),(.cmp (.fld (.mcall (.loc "lexer") 287 []) "kind") .Eq (.cst (.int 287)))]) (.tup [(.loc "found"),(.cst (.byt []))]) (.cst .none))]
noncomputable def b_law:List S:=[
  .asg "some" (.someE "script"),
  .asg "text" (.joinE "some"),
  .asg "due" (.call 491 [(.loc "text")]),
  .ifS (.orE [(.cmp (.call 496 [(.loc "text"),(.divE "some")]) .NotEq (.loc "due")),(.cmp (.call 496 [(.loc "text"),(.lstD [(.cst (.int 1))])]) .NotEq (.loc "due")),(.cmp (.call 496 [(.loc "text"),(.lstD [(.cst (.int 0)),(.cst (.int 2))])]) .NotEq (.loc "due"))]) [.ret (.cst (.bool false))] [],
  .tryR [.ret (.andE [(.cmp (.call 476 [(.loc "text"),(.cst (.byt [61,113])),.newLims]) .Eq (.idx (.loc "due") (.cst (.int 0)))),(.cmp (.idx (.loc "due") (.cst (.int 1))) .Eq (.cst (.byt [])))])] "refusal" (.cmp (.fld (.loc "refusal") "value") .Eq (.idx (.loc "due") (.cst (.int 1))))]
section
variable {Γ:Specs} {Q:Post} {Xc:Exc} {st:St} {QS:Fl→St→Prop} {QL:List V→St→Prop} {QB:Bool→St→Prop}
theorem w_cst {v:V}:wpX Γ (.cst v) Q Xc st=Q v st:=rfl
theorem w_loc {x:String}:wpX Γ (.loc x) Q Xc st=match lkL x st.ρ with
    | some (.v v)=>Q v st
    | some (.own vs)=>Q (.lst vs) { st with ρ:=setL x (.v (.lst vs)) st.ρ }
    | none=>False:=rfl
theorem w_tup {es:List X}:wpX Γ (.tup es) Q Xc st=wpXs Γ es (fun vs st=>vs.length≤1000∧Q (.tup vs) st) Xc st:=rfl
theorem w_lstD {es:List X}:wpX Γ (.lstD es) Q Xc st=wpXs Γ es (fun vs st=>vs.length≤1000∧Q (.lst vs) st) Xc st:=rfl
theorem w_fld {e:X} {n:String}:wpX Γ (.fld e n) Q Xc st=wpX Γ e (fun v st=>∃ r,attrV v n st.lx=some r∧Q r st) Xc st:=rfl
theorem w_bin {op:Operator} {a b:X}:wpX Γ (.bin op a b) Q Xc st=wpX Γ a (fun va st=>wpX Γ b (fun vb st=>binV op va vb fun v=>Q v st) Xc st) Xc st:=rfl
theorem w_neg {a:X}:wpX Γ (.neg a) Q Xc st=wpX Γ a (fun v st=>∃ i,v = .int i∧Q (.int (-i)) st) Xc st:=rfl
theorem w_notE {a:X}:wpX Γ (.notE a) Q Xc st=wpX Γ a (fun v st=>∃ b,v = .bool b∧Q (.bool !b) st) Xc st:=rfl
theorem w_andE {es:List X}:wpX Γ (.andE es) Q Xc st=wpAnd Γ es (fun b st=>Q (.bool b) st) Xc st:=rfl
theorem w_orE {es:List X}:wpX Γ (.orE es) Q Xc st=wpOr Γ es (fun b st=>Q (.bool b) st) Xc st:=rfl
theorem w_cmp {a b:X} {op:CmpOp}:wpX Γ (.cmp a op b) Q Xc st=wpX Γ a (fun va st=>wpX Γ b (fun vb st=>∃ r,cmpV op va vb=some r∧Q (.bool r) st) Xc st) Xc st:=rfl
theorem w_cmp2 {a b c:X} {o1 o2:CmpOp}:wpX Γ (.cmp2 a o1 b o2 c) Q Xc st=wpX Γ a (fun va st=>wpX Γ b (fun vb st=>∃ r,cmpV o1 va vb=some r∧
      (r=true→wpX Γ c (fun vc st=>∃ r,cmpV o2 vb vc=some r∧Q (.bool r) st) Xc st)∧(r=false→Q (.bool false) st)) Xc st) Xc st:=rfl
theorem w_ite {t a b:X}:wpX Γ (.ite t a b) Q Xc st=wpX Γ t (fun v st=>∃ r,v = .bool r∧(r=true→wpX Γ a Q Xc st)∧(r=false→wpX Γ b Q Xc st)) Xc st:=rfl
theorem w_idx {e i:X}:wpX Γ (.idx e i) Q Xc st=wpX Γ e (fun ve st=>wpX Γ i (fun vi st=>idxV ve vi fun v=>Q v st) Xc st) Xc st:=rfl
theorem w_slA {e hi:X}:wpX Γ (.slA e hi) Q Xc st=wpX Γ e (fun ve st=>wpX Γ hi (fun vh st=>∃ l h,ve = .byt l∧vh = .int h∧l.length≤16777216∧h.natAbs < 2 ^ 60∧Q (.byt (cutV l 0 h)) st) Xc st) Xc st:=rfl
theorem w_slC {e lo hi:X}:wpX Γ (.slC e lo hi) Q Xc st=wpX Γ e (fun ve st=>wpX Γ lo (fun vl st=>wpX Γ hi (fun vh st=>∃ l k h,ve = .byt l∧vl = .int k∧vh = .int h∧l.length≤16777216∧k.natAbs < 2 ^ 60∧h.natAbs < 2 ^ 60∧Q (.byt (cutV l k h)) st) Xc st) Xc st) Xc st:=rfl
theorem w_call {f:Addr} {args:List X}:wpX Γ (.call f args) Q Xc st=wpXs Γ args (fun vs st=>Γ f vs st.lx (fun v lx=>Q v { st with lx:=lx }) (fun m=>Xc m { st with lx:=none })) Xc st:=rfl
theorem w_mcall {e:X} {f:Addr} {args:List X}:wpX Γ (.mcall e f args) Q Xc st=wpX Γ e (fun v st=>v matches .lex∧(∃ l,st.lx=some l)∧wpXs Γ args (fun vs st=>Γ f (.lex :: vs) st.lx (fun v lx=>Q v { st with lx:=lx }) (fun m=>Xc m { st with lx:=none })) Xc st) Xc st:=rfl
theorem w_bi {f:String} {args:List X}:wpX Γ (.bi f args) Q Xc st=wpXs Γ args (fun vs st=>biV f vs fun v=>Q v st) Xc st:=rfl
theorem w_isi {e:X} {T:String}:wpX Γ (.isi e T) Q Xc st=wpX Γ e (fun v st=>∃ r,isiV v T=some r∧Q (.bool r) st) Xc st:=rfl
theorem w_bm {e:X} {m:String} {args:List X}:wpX Γ (.bm e m args) Q Xc st=wpX Γ e (fun v st=>bmOk v m∧wpXs Γ args (fun vs st=>bmV v m vs fun v=>Q v st) Xc st) Xc st:=rfl
theorem w_newTok {k v:X}:wpX Γ (.newTok k v) Q Xc st=wpX Γ k (fun vk st=>wpX Γ v (fun vv st=>∃ i,vk = .int i∧Q (.tok i vv) st) Xc st) Xc st:=rfl
theorem w_newLims:wpX Γ .newLims Q Xc st=Q .lims st:=rfl
theorem w_lenB {x:String}:wpX Γ (.lenB x) Q Xc st = ∃ b,bufAt x st=some b∧b.length≤16777216∧Q (.int b.length) st:=rfl
theorem w_bytesB {x:String}:wpX Γ (.bytesB x) Q Xc st = ∃ b,bufAt x st=some b∧b.length≤16777216∧Q (.byt b) st:=rfl
theorem w_bytesCut {x:String} {lo hi:X}:wpX Γ (.bytesCut x lo hi) Q Xc st = ∃ b k h,bufAt x st=some b∧ev lo st=some k∧ev hi st=some h∧b.length≤16777216∧k.natAbs < 2 ^ 60∧h.natAbs < 2 ^ 60∧Q (.byt (cutV b k h)) st:=rfl
theorem w_filtNe {xs y one:String}:wpX Γ (.filtNe xs y one) Q Xc st = ∃ (n:Nat) (k:Int) (w:V),lkL xs st.ρ=some (.own (List.replicate n (.tup [.int k,w])))∧lkL y st.ρ=some (.v (.tup [.int k,w]))∧eqN 5 w w=some true∧n≤1000∧
      Q (.lst []) { st with ρ:=setL xs (.v (.lst (List.replicate n (.tup [.int k,w])))) st.ρ }:=rfl
theorem w_someE {x:String}:wpX Γ (.someE x) Q Xc st = ∃ ns:List Int,lkL x st.ρ=some (.v (.lst (ns.map .int)))∧ns.length≤1000∧Q (.lst (((ns.take 12).map (fun n=>if n < 0 then -n else n)++[(ns.length+2:Int)]).map .int)) st:=rfl
theorem w_joinE {x:String}:wpX Γ (.joinE x) Q Xc st = ∃ ns:List Int,lkL x st.ρ=some (.v (.lst (ns.map .int)))∧ns≠[]∧ns.length≤1000∧Q (.byt (ns.flatMap fun n=>lawPieces.getD (n.fmod 24).toNat [])) st:=rfl
theorem w_divE {x:String}:wpX Γ (.divE x) Q Xc st = ∃ ns:List Int,lkL x st.ρ=some (.v (.lst (ns.map .int)))∧ns.length≤1000∧Q (.lst ((ns.map fun n=>n.fdiv 24).map .int)) st:=rfl
theorem w_nil:wpXs Γ [] QL Xc st=QL [] st:=rfl
theorem w_cons {e:X} {r:List X}:wpXs Γ (e :: r) QL Xc st=wpX Γ e (fun v st=>wpXs Γ r (fun vs st=>QL (v :: vs) st) Xc st) Xc st:=rfl
theorem w_andN:wpAnd Γ [] QB Xc st=QB true st:=rfl
theorem w_andC {e:X} {r:List X}:wpAnd Γ (e :: r) QB Xc st=wpX Γ e (fun v st=>∃ b,v = .bool b∧(b=true→wpAnd Γ r QB Xc st)∧(b=false→QB false st)) Xc st:=rfl
theorem w_orN:wpOr Γ [] QB Xc st=QB false st:=rfl
theorem w_orC {e:X} {r:List X}:wpOr Γ (e :: r) QB Xc st=wpX Γ e (fun v st=>∃ b,v = .bool b∧(b=false→wpOr Γ r QB Xc st)∧(b=true→QB true st)) Xc st:=rfl
theorem s_asg {x:String} {e:X}:wpS Γ (.asg x e) QS Xc st=wpX Γ e (fun v st=>QS .next { st with ρ:=setL x (.v v) st.ρ }) Xc st:=rfl
theorem s_asgT {xs:List String} {es:List It}:wpS Γ (.asgT xs es) QS Xc st=wpIts Γ es (fun ls st=>QS .next { st with ρ:=setAll xs ls st.ρ }) Xc st:=rfl
theorem s_asgU {xs:List String} {e:X}:wpS Γ (.asgU xs e) QS Xc st=wpX Γ e (fun v st=>∃ vs,v = .tup vs∧vs.length=xs.length∧QS .next { st with ρ:=setAll xs (vs.map .v) st.ρ }) Xc st:=rfl
theorem s_setF {e v:X} {n:String}:wpS Γ (.setF e n v) QS Xc st=wpX Γ v (fun v st=>wpX Γ e (fun o st=>o matches .lex∧n ≠ "buffer"∧(¬ v matches .bufref)∧∃ l,st.lx=some l∧l.fs.length≤100∧QS .next { st with lx:=some { l with fs:=setF' n v l.fs } }) Xc st) Xc st:=rfl
theorem s_clrB {x:String}:wpS Γ (.clrB x) QS Xc st = ∃ l,(lkL x st.ρ matches some (.v .lex))∧st.lx=some l∧l.fs.length≤100∧bufOnce l.fs=true∧QS .next { st with lx:=some ⟨setF' "buffer" .bufref l.fs,some []⟩ }:=rfl
theorem s_cutB {x:String} {hi:X}:wpS Γ (.cutB x hi) QS Xc st = ∃ l b h,bufAt x st=some b∧ev hi st=some h∧st.lx=some l∧l.fs.length≤100∧bufOnce l.fs=true∧b.length≤16777216∧h.natAbs < 2 ^ 60∧QS .next { st with lx:=some ⟨setF' "buffer" .bufref l.fs,some (cutV b 0 h)⟩ }:=rfl
theorem s_augN {x:String} {e:X}:wpS Γ (.augN x e) QS Xc st = ∃ i j,lkL x st.ρ=some (.v (.int i))∧ev e st=some j∧QS .next { st with ρ:=setL x (.v (.int (i+j))) st.ρ }:=rfl
theorem s_augF {x n:String} {e:X}:wpS Γ (.augF x n e) QS Xc st = ∃ l i j,(lkL x st.ρ matches some (.v .lex))∧st.lx=some l∧l.fs.length≤100∧getF n l.fs=some (.int i)∧n ≠ "buffer"∧ev e st=some j∧QS .next { st with lx:=some { l with fs:=setF' n (.int (i+j)) l.fs } }:=rfl
theorem s_expr {e:X}:wpS Γ (.expr e) QS Xc st=wpX Γ e (fun ω st=>QS .next st) Xc st:=rfl
theorem s_app {x:String} {e:X}:wpS Γ (.app x e) QS Xc st = ∃ vs,lkL x st.ρ=some (.own vs)∧wpX Γ e (fun v st=>∃ vs,lkL x st.ρ=some (.own vs)∧vs.length < 16777216∧QS .next { st with ρ:=setL x (.own (vs++[v])) st.ρ }) Xc st:=rfl
theorem s_rev {x:String}:wpS Γ (.rev x) QS Xc st = ∃ vs,lkL x st.ρ=some (.own vs)∧vs.length≤16777216∧QS .next { st with ρ:=setL x (.own vs.reverse) st.ρ }:=rfl
theorem s_appB {x:String} {e:X}:wpS Γ (.appB x e) QS Xc st = ∃ l b i,bufAt x st=some b∧ev e st=some i∧st.lx=some l∧0≤i∧i < 256∧b.length < 16777216∧QS .next { st with lx:=some { l with buf:=some (b++[i.toNat.toUInt8]) } }:=rfl
theorem s_ifS {t:X} {a b:List S}:wpS Γ (.ifS t a b) QS Xc st=wpX Γ t (fun v st=>∃ r,v = .bool r∧(r=true→wpSs Γ a QS Xc st)∧(r=false→wpSs Γ b QS Xc st)) Xc st:=rfl
theorem s_ret {e:X}:wpS Γ (.ret e) QS Xc st=wpX Γ e (fun v st=>QS (.ret v) st) Xc st:=rfl
theorem s_retN:wpS Γ .retN QS Xc st=QS (.ret .none) st:=rfl
theorem s_raise {e:X}:wpS Γ (.raise e) QS Xc st=wpX Γ e (fun v st=>∃ m,v = .byt m∧Xc m { st with lx:=none }) Xc st:=rfl
theorem s_brk:wpS Γ .brk QS Xc st=QS .brk st:=rfl
theorem s_pass:wpS Γ .pass QS Xc st=QS .next st:=rfl
theorem s_nil:wpSs Γ [] QS Xc st=QS .next st:=rfl
theorem s_cons {s:S} {r:List S}:wpSs Γ (s :: r) QS Xc st=wpS Γ s (fun fl st=>match fl with
    | .next=>wpSs Γ r QS Xc st
    | fl=>QS fl st) Xc st:=rfl
theorem i_nil {QI:List LV→St→Prop}:wpIts Γ [] QI Xc st=QI [] st:=rfl
theorem i_e {QI:List LV→St→Prop} {x:X} {r:List It}:wpIts Γ (.e x :: r) QI Xc st=wpX Γ x (fun v st=>wpIts Γ r (fun vs st=>QI (.v v :: vs) st) Xc st) Xc st:=rfl
theorem i_n {QI:List LV→St→Prop} {r:List It}:wpIts Γ (.nil :: r) QI Xc st=wpIts Γ r (fun vs st=>QI (.own [] :: vs) st) Xc st:=rfl
end
section
variable {Γ:Specs} {K:Fl→St→Prop} {Xc:Exc} {st:St} {x:String} {body:List S}
theorem s_whileS {t:X}:wpS Γ (.whileS t body) K Xc st = ∃ (I:St→Prop) (m:St→Nat),I st∧∀ st',I st'→wpX Γ t (fun v st=>∃ r,v = .bool r∧
      (r=true→wpSs Γ body (fun fl st=>match fl with
        | .next=>I st∧m st < m st'
        | .brk=>K .next st
        | .ret v=>K (.ret v) st) Xc st)∧(r=false→K .next st)) Xc st':=rfl
theorem s_forR {n:X}:wpS Γ (.forR x n body) K Xc st=wpX Γ n (fun v st=>∃ (k:Nat) (I:Nat→St→Prop),v = .int k∧k < 1000000∧I 0 st∧(∀ i st',i < k→I i st'→wpSs Γ body (fun fl st=>match fl with
        | .next=>I (i+1) st
        | .brk=>K .next st
        | .ret v=>K (.ret v) st) Xc { st' with ρ:=setL x (.v (.int i)) st'.ρ })∧∀ st',I k st'→K .next st') Xc st:=rfl
theorem s_tryR {e:X}:wpS Γ (.tryR body x e) K Xc st=wpSs Γ body K (fun m st=>e.quiet=true∧wpX Γ e (fun v st=>K (.ret v) { st with ρ:=delL x st.ρ }) (fun ω ω=>False) { ρ:=setL x (.v (.exc m)) st.ρ,lx:=none }) st:=rfl
end
section
variable {x y:Int} {a b l:List UInt8} {u v:V} {vs us:List V} {Q:V→Prop}
end
noncomputable def tab:List (Addr × (List String × List S)):=[
  (96,(["value"],b_is_number)),
  (103,(["n","width"],b_wrap)),
  (110,(["octet"],b_is_blank_values)),
  (117,(["octet"],b_digit_of)),
  (124,(["text","at","base","width"],b_read_digits0)),
  (131,(["text","at"],b_skip_blanks)),
  (138,(["text","limits"],b_str_to_number)),
  (145,(["text","base","limits"],b_text_in_base)),
  (152,(["n"],b_number_text)),
  (159,(["value"],b_to_text)),
  (166,(["text"],b_c_text)),
  (180,(["source","size"],b_chunk_id)),
  (189,(["sign"],b_is_digit)),
  (196,(["sign"],b_is_letter)),
  (203,(["sign"],b_is_name_sign)),
  (210,(["sign"],b_is_blank_lexer)),
  (217,(["sign"],b_is_control)),
  (224,(["sign"],b_is_newline)),
  (231,(["sign"],b_escaped_sign)),
  (245,(["kind"],b_token_text)),
  (280,(["self","text","chunk","limits"],b_lexer_init)),
  (287,(["self"],b_next)),
  (294,(["self"],b_lookahead)),
  (301,(["self","text","kind"],b_error)),
  (308,(["self","text"],b_syntax_error)),
  (315,(["self","kind"],b_near_text)),
  (322,(["self"],b_move)),
  (329,(["self","sign"],b_keep)),
  (336,(["self"],b_keep_and_move)),
  (343,(["self","signs"],b_keep_if)),
  (350,(["self"],b_clear)),
  (357,(["self"],b_end_line)),
  (364,(["self"],b_read)),
  (371,(["self"],b_skip_blank)),
  (378,(["self"],b_sign_behind)),
  (385,(["self"],b_skip_comment)),
  (392,(["self","sign"],b_read_compared)),
  (399,(["self"],b_read_dots)),
  (406,(["self"],b_read_word)),
  (413,(["self"],b_read_numeral)),
  (420,(["self"],b_read_bracket)),
  (427,(["self"],b_read_level)),
  (434,(["self","level","is_text"],b_read_long)),
  (441,(["self","level"],b_read_inner)),
  (448,(["self","quote"],b_read_string)),
  (455,(["self"],b_read_escape)),
  (462,(["self"],b_read_digits)),
  (484,(["token"],b_law_shown)),
  (501,(["script"],b_law))]
noncomputable def wpNew (Γ:Specs) (ps:List String) (args:List X) (more:List (String × LV)) (rest:List S):Spec:=fun vs lx Q Xc=>
  lx=none∧vs.length=ps.length∧V.noLexs vs=true∧wpXs Γ args (fun us st=>st=⟨ps.zip (vs.map .v),none⟩∧V.noLexs us=true∧Γ 280 (.lex :: us) (some ⟨[],none⟩) (fun v lx'=>v = .none∧wpSs Γ rest (fun fl st=>match fl with
    | .ret v=>V.noLex v=true∧Q v none
    | _=>False) (fun m ω=>Xc m) { ρ:=setAll ("lexer" :: more.map (·.1)) (.v .lex :: more.map (·.2)) (ps.zip (vs.map .v)),lx:=lx' }) Xc) (fun ω ω=>False) ⟨ps.zip (vs.map .v),none⟩
noncomputable def a_all:List X:=[.loc "text",.loc "chunk",.loc "limits"]
noncomputable def a_law:List X:=[.loc "text",.cst (.byt [61,113]),.newLims]
noncomputable def m_two:List (String × LV):=[("found",.own [])]
noncomputable def m_three:List (String × LV):=[("found",.own []),("turn",.v (.int 0))]
noncomputable def spc (Γ:Specs) (f:Addr):Spec:=
  if f=238 then fun vs lx Q ω=>vs=[]∧Q .kinds lx
  else if f=476 then wpNew Γ ["text","chunk","limits"] a_all m_two b_all_tokens.tail
  else if f=491 then wpNew Γ ["text"] a_law m_two b_law_plain.tail
  else if f=496 then wpNew Γ ["text","looks"] a_law m_three b_law_peeked.tail
  else fun ω ω ω ω=>False
noncomputable def GG:Nat→Specs
  | 0,_=>fun ω ω ω ω=>False
  | n+1,f=>match tab.lookup f with
    | some (ps,b)=>wpFn (GG n) ps b
    | none=>spc (GG n) f
section
variable {w:World} {A:Around} {E:Value→Shared→Prop} {s:Shared} {P:Params} {G:Froz} {a:Addr}
theorem mul_ok {x y:Int} (hx:x.natAbs < 2 ^ 64):IntMulOk x y:=IntMulOk.of_left (intBits_le_64 (by omega) (by omega))
section
variable {x y:V} {Q:V→Prop}
theorem bAdd (h:binV .Add x y Q):(∃ i j,x = .int i∧y = .int j∧Q (.int (i+j)))∨∃ l m,x = .byt l∧y = .byt m∧l.length+m.length≤16777216∧Q (.byt (l++m)):=by
  cases x <;> first
    | exact False.elim h
    | (cases y <;> first | exact False.elim h | exact .inl ⟨_,_,rfl,rfl,h⟩ | exact .inr ⟨_,_,rfl,rfl,h⟩)
theorem bSub (h:binV .Sub x y Q):∃ i j,x = .int i∧y = .int j∧Q (.int (i - j)):=by
  cases x <;> first | exact False.elim h | (cases y <;> first | exact False.elim h | exact ⟨_,_,rfl,rfl,h⟩)
theorem bMul (h:binV .Mult x y Q):∃ i j,x = .int i∧y = .int j∧i.natAbs < 2 ^ 64∧j.natAbs < 2 ^ 64∧Q (.int (i * j)):=by
  cases x <;> first | exact False.elim h | (cases y <;> first | exact False.elim h | exact ⟨_,_,rfl,rfl,h⟩)
theorem bMod (h:binV .Mod x y Q):∃ i j,x = .int i∧y = .int j∧0 < j∧j < 1000000∧Q (.int (i.fmod j)):=by
  cases x <;> first | exact False.elim h | (cases y <;> first | exact False.elim h | exact ⟨_,_,rfl,rfl,h⟩)
theorem bDiv (h:binV .FloorDiv x y Q):∃ i j,x = .int i∧y = .int j∧0 < j∧j < 1000000∧Q (.int (i.fdiv j)):=by
  cases x <;> first | exact False.elim h | (cases y <;> first | exact False.elim h | exact ⟨_,_,rfl,rfl,h⟩)
theorem bAnd (h:binV .BitAnd x y Q):∃ i j,x = .int i∧y = .int j∧Q (.int (Builtin.bitAnd i j)):=by
  cases x <;> first | exact False.elim h | (cases y <;> first | exact False.elim h | exact ⟨_,_,rfl,rfl,h⟩)
theorem bShl (h:binV .LShift x y Q):∃ i j,x = .int i∧y = .int j∧0≤j∧j≤1000000∧i.natAbs < 2 ^ 64∧Q (.int (i * 2 ^ j.toNat)):=by
  cases x <;> first | exact False.elim h | (cases y <;> first | exact False.elim h | exact ⟨_,_,rfl,rfl,h⟩)
end
theorem rInt {i:Int} {v:Value} (r:Rep P G a (.int i) v):∃ t,v = .int i t:=by cases r; exact ⟨_,rfl⟩
theorem rByt {l:List UInt8} {v:Value} (r:Rep P G a (.byt l) v):∃ t,v = .bytes l.toArray t:=by cases r; exact ⟨_,rfl⟩
theorem rTup {Vs:List V} {v:Value} (r:Rep P G a (.tup Vs) v):∃ x vs,v = .ref x∧G x=some (tupObj vs)∧Reps P G a Vs vs:=by cases r; exact ⟨_,_,rfl,by assumption,by assumption⟩
theorem rLst {Vs:List V} {v:Value} (r:Rep P G a (.lst Vs) v):∃ x n vs,v = .ref x∧G x=some (lisObj vs n)∧Reps P G a Vs vs:=by cases r; exact ⟨_,_,_,rfl,by assumption,by assumption⟩
theorem rCons {V:V} {Vs:List Mine.V} {ws:List Value} (r:Reps P G a (V :: Vs) ws):∃ w vs,ws=w :: vs∧Rep P G a V w∧Reps P G a Vs vs:=by cases r; exact ⟨_,_,rfl,by assumption,by assumption⟩
theorem bin_ok {op:Operator} {x y:V} {vx vy:Value} {Q:V→Prop} {QC:Value→Shared→Prop} (rx:Rep P G a x vx) (ry:Rep P G a y vy) (h:binV op x y Q)
    (k:∀ v V tk,Q V→Rep P G a V v→QC v { s with toks:=tk }):wpAny (model pw w) A (binaryOp op vx vy) QC E s:=by
  cases op
  case Add=>
    rcases bAdd h with ⟨i,j,rfl,rfl,h⟩ | ⟨i,j,rfl,rfl,h1,h⟩
    · obtain ⟨_,rfl⟩:=rInt rx; obtain ⟨_,rfl⟩:=rInt ry; exact add_int (k _ _ _ h (.int _ _))
    · obtain ⟨_,rfl⟩:=rByt rx; obtain ⟨_,rfl⟩:=rByt ry
      exact KBy.add_bytes (by simpa using h1) fun t' kk=>by
        have:=k _ _ kk h (.byt _ t')
        simpa using this
  case Sub=>obtain ⟨i,j,rfl,rfl,h⟩:=bSub h; obtain ⟨_,rfl⟩:=rInt rx; obtain ⟨_,rfl⟩:=rInt ry; exact _root_.PySem.P.sub_int (k _ _ _ h (.int _ _))
  case Mult=>obtain ⟨i,j,rfl,rfl,h1,h2,h⟩:=bMul h; obtain ⟨_,rfl⟩:=rInt rx; obtain ⟨_,rfl⟩:=rInt ry; exact _root_.PySem.P.mul_int (k _ _ _ h (.int _ _)) (mul_ok h1)
  case Mod=>obtain ⟨i,j,rfl,rfl,h1,h2,h⟩:=bMod h; obtain ⟨_,rfl⟩:=rInt rx; obtain ⟨_,rfl⟩:=rInt ry; exact mod_int' (Int.ne_of_gt h1) (k _ _ _ h (.int _ _))
  case FloorDiv=>obtain ⟨i,j,rfl,rfl,h1,h2,h⟩:=bDiv h; obtain ⟨_,rfl⟩:=rInt rx; obtain ⟨_,rfl⟩:=rInt ry; exact floordiv_int (Int.ne_of_gt h1) (k _ _ _ h (.int _ _)) (.inl (PyProof.noPylong_small (by omega)))
  case BitAnd=>obtain ⟨i,j,rfl,rfl,h⟩:=bAnd h; obtain ⟨_,rfl⟩:=rInt rx; obtain ⟨_,rfl⟩:=rInt ry; exact and_int (k _ _ _ h (.int _ _))
  case LShift=>obtain ⟨i,j,rfl,rfl,h1,h2,h3,h⟩:=bShl h; obtain ⟨_,rfl⟩:=rInt rx; obtain ⟨_,rfl⟩:=rInt ry; exact lshift_int_small h1 h2 h3 (k _ _ _ h (.int _ _))
  all_goals exact False.elim h
theorem eqAt_bytes (x y:Array UInt8) (t u:Tok):SeqAt.EqAt A s (.bytes x t) (.bytes y u) (x.toList == y.toList):=fun prog w E Q h=>by
  unfold eqBool
  refine wpAny_holding ?_
  refine wpAny_ite_split (fun hab=>?_) (fun ω=>?_)
  · have:=eq_of_beq hab
    cases this
    rw [beq_self_eq_true] at h
    exact wpAny_bind (wpAny_rule (wpAny_pure h))
  · exact wpAny_bind (eq_bytes (wpAny_truthy_bool h))
structure EqOk (A:Around) (s:Shared) (vx vy:Value) (b:Bool):Prop where
  eq:SeqAt.EqAt A s vx vy b
  rc:SeqAt.RcAt A s vx vy b
  ne:SeqAt.RcNeAt A s vx vy (!b)
  same:vx=vy→b=true
theorem reps_len {Vs:List V} {vs:List Value} (r:Reps P G a Vs vs):Vs.length=vs.length:=by
  induction Vs generalizing vs with
  | nil=>cases r; rfl
  | cons v Vs ih=>cases r with | cons _ r=>rw [List.length_cons,List.length_cons,ih r]
theorem eqL_cons {f:V→V→Option Bool} {x y:V} {xs ys:List V} {b:Bool} (h:eqL f (x :: xs) (y :: ys)=some b):∃ b1 b2,f x y=some b1∧eqL f xs ys=some b2∧b=(b1 && b2):=by
  have h:(match f x y,eqL f xs ys with | some x,some y=>some (x && y) | _,_=>none)=some b:=h
  cases h1:f x y with
  | none=>rw [h1] at h; cases h
  | some b1=>
    cases h2:eqL f xs ys with
    | none=>rw [h1,h2] at h; cases h
    | some b2=>rw [h1,h2] at h; cases h; exact ⟨b1,b2,rfl,rfl,rfl⟩
theorem eqL_ok {f:V→V→Option Bool} {A:Around} (hf:∀ x y vx vy b,Rep P G a x vx→Rep P G a y vy→f x y=some b→EqOk A s vx vy b) {xs:List V}:∀ {ys:List V} {vs ws:List Value} {b:Bool},Reps P G a xs vs→Reps P G a ys ws→eqL f xs ys=some b→
    vs.length=ws.length∧(vs=ws→b=true)∧∃ e:Nat→Bool,(∀ j (h1:j < vs.length) (h2:j < ws.length),SeqAt.EqAt A s vs[j] ws[j] (e j))∧(List.range vs.length).all e=b:=by
  induction xs with
  | nil=>
    intro ys vs ws b r q h
    cases ys with
    | nil=>cases r; cases q; cases h; exact ⟨rfl,fun ω=>rfl,fun ω=>true,fun j h1=>absurd h1 (Nat.not_lt_zero _),rfl⟩
    | cons y ys=>cases h
  | cons x xs ih=>
    intro ys vs ws b r q h
    cases ys with
    | nil=>cases h
    | cons y ys=>
      refine bC fun ng=>?_;obtain ⟨b1,b2,h1,h2,rfl⟩:=eqL_cons h;refine ng ?_;clear ng
      cases r with | cons r rs=>
      cases q with | cons q qs=>
      refine bC fun ng=>?_;obtain ⟨hl,hs,e,he,hr⟩:=ih rs qs h2;refine ng ?_;clear ng
      have k1:=hf _ _ _ _ _ r q h1
      refine ⟨by rw [List.length_cons,List.length_cons,hl],fun hh=>?_,fun j=>Nat.casesOn j b1 e,fun j k1' k2=>?_,?_⟩
      · injection hh with hh1 hh2
        rw [k1.same hh1,hs hh2]; rfl
      · cases j with
        | zero=>exact k1.eq
        | succ j=>exact he j (Nat.lt_of_succ_lt_succ k1') (Nat.lt_of_succ_lt_succ k2)
      · rw [List.length_cons,List.range_succ_eq_map,List.all_cons,List.all_map,← hr]
        rfl
theorem eq_none:EqOk A s .none .none true:=⟨SeqAt.EqAt.same _,SeqAt.RcAt.none_none,SeqAt.RcNeAt.none_none,fun ω=>rfl⟩
theorem eq_ints (x y:Int) (t u:Tok):EqOk A s (.int x t) (.int y u) (x == y):=⟨SeqAt.EqAt.int_int _ _ _ _,SeqAt.RcAt.int_int _ _ _ _,SeqAt.RcNeAt.int_int _ _ _ _,fun h=>by injection h with h; subst h; simp⟩
theorem eq_byts (x y:List UInt8) (t u:Tok):EqOk A s (.bytes x.toArray t) (.bytes y.toArray u) (x == y):=
  ⟨eqAt_bytes _ _ _ _,fun prog w E Q h=>eq_bytes h,fun prog w E Q h=>ne_bytes (by simpa [bne] using h),fun h=>by injection h with h; have:=congrArg Array.toList h; simp at this; subst this; simp⟩
theorem eq_refs {l m:Addr} {b:Bool} (h1:SeqAt.RcAt A s (.ref l) (.ref m) b) (h2:SeqAt.RcNeAt A s (.ref l) (.ref m) (!b)) (h3:l=m→b=true):EqOk A s (.ref l) (.ref m) b:=by
  refine ⟨?_,h1,h2,fun h=>h3 (by injection h)⟩
  by_cases q:l=m
  · subst q; rw [h3 rfl]; exact SeqAt.EqAt.same _
  · exact SeqAt.EqAt.of_refs q h1
theorem eqT_ok {A:Around} {n:Nat} {i j:List V} {vx vy:Value} {b:Bool} (hG:∀ b o,G b=some o→s.heap.get? b=some o) (hu:A.units+1 < cLine) (hf:∀ x y vx vy b,Rep P G a x vx→Rep P G a y vy→eqN n x y=some b→EqOk A.in1 s vx vy b) (rx:Rep P G a (.tup i) vx) (ry:Rep P G a (.tup j) vy) (h:eqL (eqN n) i j=some b):EqOk A s vx vy b:=by
  obtain ⟨_,_,rfl,g1,r1⟩:=rTup rx
  obtain ⟨_,_,rfl,g2,r2⟩:=rTup ry
  obtain ⟨hl,hs,e,he,hr⟩:=eqL_ok hf r1 r2 h
  have T1:s.heap.IsTuple _ _:=⟨_,hG _ _ g1,rfl,0,rfl⟩
  have T2:s.heap.IsTuple _ _:=⟨_,hG _ _ g2,rfl,0,rfl⟩
  have a1:=SeqAt.RcAt.tuples (A:=A) (e:=e) T1 T2 (by omega) (fun j h1 h2=>he j h1 h2)
  have a2:=SeqAt.RcNeAt.tuples (A:=A) (e:=e) T1 T2 (by omega) (fun j h1 h2=>he j h1 h2)
  simp only [List.size_toArray,← hl,Nat.min_self,hr,beq_self_eq_true,Bool.and_true] at a1 a2
  refine eq_refs a1 a2 fun q=>?_
  subst q
  rw [g1] at g2
  cases g2
  exact hs rfl
theorem eqS_ok {A:Around} {n:Nat} {i j:List V} {vx vy:Value} {b:Bool} (hG:∀ b o,G b=some o→s.heap.get? b=some o) (hu:A.units+1 < cLine) (hf:∀ x y vx vy b,Rep P G a x vx→Rep P G a y vy→eqN n x y=some b→EqOk A.in1 s vx vy b) (rx:Rep P G a (.lst i) vx) (ry:Rep P G a (.lst j) vy) (h:eqL (eqN n) i j=some b):EqOk A s vx vy b:=by
  obtain ⟨_,_,_,rfl,g1,r1⟩:=rLst rx
  obtain ⟨_,_,_,rfl,g2,r2⟩:=rLst ry
  obtain ⟨hl,hs,e,he,hr⟩:=eqL_ok hf r1 r2 h
  have T1:s.heap.IsList _ _:=⟨_,hG _ _ g1,rfl,_,rfl⟩
  have T2:s.heap.IsList _ _:=⟨_,hG _ _ g2,rfl,_,rfl⟩
  have a1:=SeqAt.RcAt.lists (A:=A) (e:=e) T1 T2 hl (by omega) (fun j h1 h2=>he j h1 h2)
  have a2:=SeqAt.RcNeAt.lists (A:=A) (e:=e) T1 T2 hl (by omega) (fun j h1 h2=>he j h1 h2)
  simp only [List.size_toArray,hr] at a1 a2
  refine eq_refs a1 a2 fun q=>?_
  subst q
  rw [g1] at g2
  cases g2
  exact hs rfl
inductive EqC:Nat→V→V→Bool→Prop
  | none {n:Nat}:EqC n .none .none true
  | int {n:Nat} {i j:Int}:EqC n (.int i) (.int j) (i == j)
  | byt {n:Nat} {i j:List UInt8}:EqC n (.byt i) (.byt j) (i == j)
  | tup {n:Nat} {i j:List V} {b:Bool} (h:eqL (eqN n) i j=some b):EqC (n+1) (.tup i) (.tup j) b
  | lst {n:Nat} {i j:List V} {b:Bool} (h:eqL (eqN n) i j=some b):EqC (n+1) (.lst i) (.lst j) b
theorem eqN_inv {n:Nat} {x y:V} {b:Bool} (h:eqN n x y=some b):EqC n x y b:=by
  cases n
  all_goals
    cases x <;> first
      | exact (nS h)
      | (cases y <;> first
          | exact (nS h)
          | (cases h; first | exact .none | exact .int | exact .byt)
          | exact .tup h
          | exact .lst h)
theorem eqN_ok (hG:∀ b o,G b=some o→s.heap.get? b=some o):∀ (n:Nat) (A:Around) (x y:V) (vx vy:Value) (b:Bool),A.units+n < cLine→Rep P G a x vx→Rep P G a y vy→eqN n x y=some b→EqOk A s vx vy b:=by
  intro n
  induction n with
  | zero=>
    intro A x y vx vy b hu rx ry h
    cases eqN_inv h with
    | none=>cases rx; cases ry; exact eq_none
    | int=>obtain ⟨_,rfl⟩:=rInt rx; obtain ⟨_,rfl⟩:=rInt ry; exact eq_ints _ _ _ _
    | byt=>obtain ⟨_,rfl⟩:=rByt rx; obtain ⟨_,rfl⟩:=rByt ry; exact eq_byts _ _ _ _
  | succ n ih=>
    intro A x y vx vy b hu rx ry h
    have hu1:A.in1.units+n < cLine:=by show A.units+1+n < cLine; omega
    have hf:∀ x y vx vy b,Rep P G a x vx→Rep P G a y vy→eqN n x y=some b→EqOk A.in1 s vx vy b:=fun x y vx vy b=>ih A.in1 x y vx vy b hu1
    clear ih hu1
    have hu:A.units+1 < cLine:=by omega
    have h:=eqN_inv h
    generalize hk:n+1=k at h
    cases h with
    | none=>cases rx; cases ry; exact eq_none
    | int=>obtain ⟨_,rfl⟩:=rInt rx; obtain ⟨_,rfl⟩:=rInt ry; exact eq_ints _ _ _ _
    | byt=>obtain ⟨_,rfl⟩:=rByt rx; obtain ⟨_,rfl⟩:=rByt ry; exact eq_byts _ _ _ _
    | tup h=>cases hk; exact eqT_ok hG hu hf rx ry h
    | lst h=>cases hk; exact eqS_ok hG hu hf rx ry h
theorem asIndex_int (i:Int) (u:Tok):(asIndex (.int i u)).attempt=pure (.ok i):=rfl
theorem contains_any (l:List UInt8) {i:Int} (h:0≤i∧i < 256):l.toArray.contains i.toNat.toUInt8=l.any fun c=>(c.toNat:Int) == i:=by
  rw [List.contains_toArray,List.contains_eq_any_beq]
  congr 1
  funext c
  rw [Bool.eq_iff_iff,beq_iff_eq,beq_iff_eq]
  constructor
  · rintro rfl
    exact PySem.W.byte_back h.1 h.2
  · intro e
    rw [← e]
    simp
theorem gives_bytes_contains (l:List UInt8) (t:Tok) (i:Int) (u:Tok) (h:0≤i∧i < 256):Gives (Builtin.«bytes.__contains__» ⟨[.bytes l.toArray t,.int i u],[]⟩) (.val (.bool (l.any fun c=>(c.toNat:Int) == i))):=by
  refine .of_wp fun M A E s Q hq=>?_
  show wpAny M A (Builtin.Bytes.containsIn "bytes.__contains__" (.bytes l.toArray t) (.int i u) >>= fun r=>_) _ E s
  refine wpAny_bind ?_
  unfold Builtin.Bytes.containsIn
  rw [asIndex_int]
  refine wpAny_bind (wpAny_pure (wpAny_bind (wpAny_of_eq KBy.buffer_eq ?_)))
  dsimp only
  rw [if_neg (by simp; omega)]
  refine wpAny_pure (wpAny_pure ⟨_,rfl,?_⟩)
  rw [contains_any l h]
  exact hq
set_option tactic.hygienic true in
theorem in_tup {i:Int} {u:Tok}:∀ {Vs:List V} {vs:List Value} {r:Bool},Reps P G a Vs vs→(Vs.foldr (fun v r=>match v,r with
    | .int j,some x=>some ((i == j) || x)
    | _,_=>none) (some false))=some r→∃ e:Value→Bool,(∀ y∈vs,SeqAt.EqAt A.in1 s y (.int i u) (e y))∧vs.any e=r:=by
  intro Vs
  have key:∀ (Vs:List V) (vs:List Value) (r:Bool),Reps P G a Vs vs→(Vs.foldr (fun v r=>match v,r with
    | .int j,some x=>some ((i == j) || x)
    | _,_=>none) (some false))=some r→(∀ y∈vs,∃ j t,y = .int j t)∧(vs.any fun y=>match y with | .int j _=>j == i | _=>false)=r:=by
    intro Vs
    induction Vs with
    | nil=>intro vs r rr h; cases rr; cases h; exact ⟨(fun y hy=>nomatch hy),rfl⟩
    | cons v Vs ih=>
      intro vs r rr h
      cases rr with
      | cons q qs=>
        rw [List.foldr_cons] at h
        split at h
        · rename_i j x hx
          cases h
          obtain ⟨h1,h2⟩:=ih _ _ qs hx
          cases q
          refine ⟨fun y hy=>?_,?_⟩
          · rcases List.mem_cons.mp hy with rfl | hy
            · exact ⟨_,_,rfl⟩
            · exact h1 y hy
          · rw [List.any_cons,h2]
            congr 1
            rw [Bool.eq_iff_iff,beq_iff_eq,beq_iff_eq]
            exact eq_comm
        · cases h
  intro vs r rr h
  obtain ⟨h1,h2⟩:=key Vs vs r rr h
  refine ⟨_,fun y hy=>?_,h2⟩
  obtain ⟨j,t,rfl⟩:=h1 y hy
  exact SeqAt.EqAt.int_int _ _ _ _
set_option tactic.hygienic true in
theorem in_inv {x y:V} {r:Bool} (h:inV x y=some r):∃ i,x = .int i∧((∃ l,y = .byt l∧(0≤i∧i < 256)∧r=l.any fun c=>(c.toNat:Int) == i)∨∃ vs,y = .tup vs∧inV (.int i) (.tup vs)=some r):=by
  cases x <;> first
    | exact (nS h)
    | (cases y <;> first
        | exact (nS h)
        | exact ⟨_,rfl,.inr ⟨_,rfl,h⟩⟩
        | skip)
  rename_i i l
  refine ⟨i,rfl,.inl ⟨l,rfl,?_⟩⟩
  by_cases hi:0≤i∧i < 256
  · have e:inV (.int i) (.byt l)=some (l.any fun c=>(c.toNat:Int) == i):=if_pos hi
    rw [e] at h
    exact ⟨hi,(Option.some.inj h).symm⟩
  · have e:inV (.int i) (.byt l)=none:=if_neg hi
    rw [e] at h
    cases h
theorem in_ok {x y:V} {vx vy:Value} {r:Bool} {QC:Value→Shared→Prop} (hG:∀ b o,G b=some o→s.heap.get? b=some o) (rx:Rep P G a x vx) (ry:Rep P G a y vy) (h:inV x y=some r) (k:∀ q,(q=r→QC (.bool q) s)) :
    wpAny (model pw w) A (compareOp .In vx vy) QC E s:=by
  obtain ⟨i,rfl,⟨l,rfl,hi,rfl⟩ | ⟨vs,rfl,h⟩⟩:=in_inv h
  · obtain ⟨_,rfl⟩:=rInt rx; obtain ⟨_,rfl⟩:=rByt ry
    exact in_gives (typeIs_bytes s _ _) FB.slot_bytes_contains FB.entry_bytes_contains (FB.args_bytes_contains_2 _ _) (gives_bytes_contains _ _ _ _ hi) (k _ rfl)
  · obtain ⟨_,rfl⟩:=rInt rx
    obtain ⟨_,_,rfl,g,rr⟩:=rTup ry
    obtain ⟨e,he,hr⟩:=in_tup (A:=A) (s:=s) rr h
    exact SeqAt.in_tupleAt e ⟨_,hG _ _ g,rfl,0,rfl⟩ (fun y hy=>he y (List.mem_toArray.mp hy)) (k _ ((List.any_toArray ..).trans hr))
theorem notIn_ok {x y:V} {vx vy:Value} {r:Bool} {QC:Value→Shared→Prop} (hG:∀ b o,G b=some o→s.heap.get? b=some o) (rx:Rep P G a x vx) (ry:Rep P G a y vy) (h:inV x y=some r) (k:∀ q,(q=(!r)→QC (.bool q) s)) :
    wpAny (model pw w) A (compareOp .NotIn vx vy) QC E s:=by
  obtain ⟨i,rfl,⟨l,rfl,hi,rfl⟩ | ⟨vs,rfl,h⟩⟩:=in_inv h
  · obtain ⟨_,rfl⟩:=rInt rx; obtain ⟨_,rfl⟩:=rByt ry
    exact notIn_gives (typeIs_bytes s _ _) FB.slot_bytes_contains FB.entry_bytes_contains (FB.args_bytes_contains_2 _ _) (gives_bytes_contains _ _ _ _ hi) (k _ rfl)
  · obtain ⟨_,rfl⟩:=rInt rx
    obtain ⟨_,_,rfl,g,rr⟩:=rTup ry
    obtain ⟨e,he,hr⟩:=in_tup (A:=A) (s:=s) rr h
    exact SeqAt.notIn_tupleAt e ⟨_,hG _ _ g,rfl,0,rfl⟩ (fun y hy=>he y (List.mem_toArray.mp hy)) (k _ (congrArg (!·) ((List.any_toArray ..).trans hr)))
section
variable {x y:V} {r:Bool}
theorem cLt (h:cmpV .Lt x y=some r):∃ i j,x = .int i∧y = .int j∧r=decide (i < j):=by
  cases x <;> first | exact (nS h) | (cases y <;> first | exact (nS h) | exact ⟨_,_,rfl,rfl,(Option.some.inj h).symm⟩)
theorem cLe (h:cmpV .LtE x y=some r):∃ i j,x = .int i∧y = .int j∧r=decide (i≤j):=by
  cases x <;> first | exact (nS h) | (cases y <;> first | exact (nS h) | exact ⟨_,_,rfl,rfl,(Option.some.inj h).symm⟩)
theorem cGt (h:cmpV .Gt x y=some r):∃ i j,x = .int i∧y = .int j∧r=decide (i > j):=by
  cases x <;> first | exact (nS h) | (cases y <;> first | exact (nS h) | exact ⟨_,_,rfl,rfl,(Option.some.inj h).symm⟩)
theorem cGe (h:cmpV .GtE x y=some r):∃ i j,x = .int i∧y = .int j∧r=decide (i ≥ j):=by
  cases x <;> first | exact (nS h) | (cases y <;> first | exact (nS h) | exact ⟨_,_,rfl,rfl,(Option.some.inj h).symm⟩)
theorem cIs (h:cmpV .Is x y=some r):y = .none∧r=x.isNone:=by
  cases y <;> first | exact (nS h) | exact ⟨rfl,(Option.some.inj h).symm⟩
theorem cIsN (h:cmpV .IsNot x y=some r):y = .none∧r = !x.isNone:=by
  cases y <;> first | exact (nS h) | exact ⟨rfl,(Option.some.inj h).symm⟩
theorem none_or {x:V} {vx:Value} (rx:Rep P G a x vx):(vx = .none∧x.isNone=true)∨(vx ≠ .none∧PySem.plainIs vx .none=true∧x.isNone=false):=by
  cases rx <;> first | exact .inl ⟨rfl,rfl⟩ | exact .inr ⟨(fun e=>nomatch e),rfl,rfl⟩
end
theorem cmp_ok {op:CmpOp} {x y:V} {vx vy:Value} {r:Bool} {QC:Value→Shared→Prop} (hG:∀ b o,G b=some o→s.heap.get? b=some o) (hu:A.units+10 < cLine) (rx:Rep P G a x vx) (ry:Rep P G a y vy) (h:cmpV op x y=some r)
    (k:QC (.bool r) s):wpAny (model pw w) A (compareOp op vx vy) QC E s:=by
  have hu6:A.units+6 < cLine:=by omega
  cases op
  case Lt=>obtain ⟨i,j,rfl,rfl,rfl⟩:=cLt h; obtain ⟨_,rfl⟩:=rInt rx; obtain ⟨_,rfl⟩:=rInt ry; exact _root_.PySem.P.lt_int k
  case LtE=>obtain ⟨i,j,rfl,rfl,rfl⟩:=cLe h; obtain ⟨_,rfl⟩:=rInt rx; obtain ⟨_,rfl⟩:=rInt ry; exact _root_.PySem.P.le_int k
  case Gt=>obtain ⟨i,j,rfl,rfl,rfl⟩:=cGt h; obtain ⟨_,rfl⟩:=rInt rx; obtain ⟨_,rfl⟩:=rInt ry; exact _root_.PySem.P.gt_int k
  case GtE=>obtain ⟨i,j,rfl,rfl,rfl⟩:=cGe h; obtain ⟨_,rfl⟩:=rInt rx; obtain ⟨_,rfl⟩:=rInt ry; exact _root_.PySem.P.ge_int k
  case Eq=>exact cmp_ofEq ((eqN_ok hG 6 A _ _ _ _ _ hu6 rx ry h).rc _ _ _ _ k)
  case NotEq=>
    obtain ⟨b,hb,rfl⟩:=Option.map_eq_some_iff.mp (show (V.eqD x y).map (!·)=some r from h)
    exact cmp_ofNotEq ((eqN_ok hG 6 A _ _ _ _ _ hu6 rx ry hb).ne _ _ _ _ k)
  case Is=>
    obtain ⟨rfl,rfl⟩:=cIs h
    cases ry
    rcases none_or rx with ⟨rfl,e⟩ | ⟨hn,hp,e⟩
    · rw [e] at k; exact wpAny_is_self rfl k
    · rw [e] at k; exact wpAny_is_other hp hn k
  case IsNot=>
    obtain ⟨rfl,rfl⟩:=cIsN h
    cases ry
    rcases none_or rx with ⟨rfl,e⟩ | ⟨hn,hp,e⟩
    · rw [e] at k; exact wpAny_isNot_self rfl k
    · rw [e] at k; exact wpAny_isNot_other hp hn k
  case In=>exact in_ok hG rx ry h fun q e=>e ▸ k
  case NotIn=>
    obtain ⟨b,hb,rfl⟩:=Option.map_eq_some_iff.mp (show (inV x y).map (!·)=some r from h)
    exact notIn_ok hG rx ry hb fun q e=>e ▸ k
end
structure ExcIn (f:FR) (G:Froz) (h:Heap) (e:Addr) (m:List UInt8) (tb:Option Value):Prop where
  obj:∃ de vs sl es n t,h.get? e=some ⟨.ref aLSE,some de,.fields vs,sl⟩∧G de=some (dictOf es n)∧getL (Str.ofString "value") es=some (some (.bytes m.toArray t))∧
    match tb with
    | none=>vs[1]? = some .none
    | some fl=>∃ T oT ts,vs[1]? = some (.ref T)∧h.get? T=some oT∧oT.data = .fields ts∧ts[3]? = some fl∧T≠e∧G T=none∧f.h₀.get? T=none
  ge:G e=none
  fr:f.h₀.get? e=none
structure ExcP (f:FR) (G:Froz) (h:Heap) (e:Addr) (m:List UInt8) (fl:Value) (de:Addr) (vs:Array Value) (sl:Array (Option Value)) (es:List DictEntry) (n:Nat) (t:Tok) (T:Addr) (oT:Obj) (ts:Array Value):Prop where
  hex:h.get? e=some ⟨.ref aLSE,some de,.fields vs,sl⟩
  hde:G de=some (dictOf es n)
  hv:getL (Str.ofString "value") es=some (some (.bytes m.toArray t))
  h1:vs[1]? = some (.ref T)
  hT:h.get? T=some oT
  hd:oT.data = .fields ts
  h3:ts[3]? = some fl
  ne:T≠e
  gT:G T=none
  nT:f.h₀.get? T=none
theorem ExcIn.parts {f:FR} {G:Froz} {h:Heap} {e:Addr} {m:List UInt8} {fl:Value} (x:ExcIn f G h e m (some fl)):∃ de vs sl es n t T oT ts,ExcP f G h e m fl de vs sl es n t T oT ts:=by
  obtain ⟨de,vs,sl,es,n,t,h1,h2,h3,T,oT,ts,h4,h5,h6,h7,h8,h9,h10⟩:=x.obj
  exact ⟨de,vs,sl,es,n,t,T,oT,ts,h1,h2,h3,h4,h5,h6,h7,h8,h9,h10⟩
structure RelE (f:FR) (G:Froz) (a:Addr) (st:St) (h:Heap) (e:Addr) (m:List UInt8):Prop where
  base:Base f G h
  loc:∃ mm,View f h mm∧Loc f G a h mm st.ρ
  exc:∃ tb,ExcIn f G h e m tb∧(tb=none∨tb=some .none∨tb=some (rawInt f.L))
noncomputable def KeepO (vw:Bool) (o:Obj):Prop:=(o.cls = .type "range_iterator"∧∃ vs,o.data = .fields vs)∨(vw=true∧∃ ws n,o.data = .seq ws n)
structure Ext (vw:Bool) (f:FR) (G G':Froz) (h h':Heap):Prop where
  mono:∀ x o,G x=some o→G' x=some o
  new:∀ x o,G' x=some o→G x=some o∨h.get? x=none∨∃ ws n,o.data = .seq ws n
  lv:∀ b,Liv h b→Liv h' b
  view:vw=true→∀ m,View f h m→View f h' m
  keep:∀ z o,h.get? z=some o→KeepO vw o→z ∉ f.fs→h'.get? z=some o
theorem Ext.refl (vw:Bool) (f:FR) (G:Froz) (h:Heap):Ext vw f G G h h:=⟨fun ω ω e=>e,fun ω ω e=>.inl e,fun ω e=>e,fun ω ω e=>e,fun ω ω e ω ω=>e⟩
theorem Ext.trans {vw:Bool} {f:FR} {G G' G'':Froz} {h h' h'':Heap} (a:Ext vw f G G' h h') (b:Ext vw f G' G'' h' h''):Ext vw f G G'' h h'':=by
  refine ⟨fun x o e=>b.mono x o (a.mono x o e),fun x o e=>?_,fun x l=>b.lv x (a.lv x l),fun q m e=>b.view q m (a.view q m e),fun z o e k n=>b.keep z o (a.keep z o e k n) k n⟩
  rcases b.new x o e with e | e | e
  · exact a.new x o e
  · exact .inr (.inl (not_liv.mp fun q=>not_liv.mpr e (a.lv x q)))
  · exact .inr (.inr e)
theorem Ext.weak {f:FR} {G G':Froz} {h h':Heap} (a:Ext true f G G' h h'):Ext false f G G' h h':=
  ⟨a.mono,a.new,a.lv,(fun q=>nomatch q),fun z o e k n=>a.keep z o e (Or.elim k (fun q=>.inl q) fun q=>absurd q.1 (by decide)) n⟩
theorem View.keeps {f:FR} {h h':Heap} {m:Str→Option Value} (V:View f h m) (k:∀ b o,h.get? b=some o→h'.get? b=some o):View f h' m:=by
  unfold View at V ⊢
  split at V
  · exact V.keeps k
  · obtain ⟨m₀,o,h1,⟨ob,e1,e2⟩,h3⟩:=V
    exact ⟨m₀,o,h1.keeps k,⟨ob,k _ _ e1,e2⟩,h3⟩
theorem Ext.keeps {vw:Bool} {f:FR} {G:Froz} {h h':Heap} (k:∀ b o,h.get? b=some o→h'.get? b=some o):Ext vw f G G h h':=⟨fun ω ω e=>e,fun ω ω e=>.inl e,fun _ ⟨o,e⟩=>⟨o,k _ o e⟩,fun ω ω V=>V.keeps k,fun z o e ω ω=>k z o e⟩
theorem Ext.push {vw:Bool} {f:FR} {G:Froz} (h:Heap) (o:Obj):Ext vw f G G h (h.push o):=.keeps fun ω ω e=>Heap.get?_push_of_some _ e
theorem Ext.made {vw:Bool} {f:FR} {G:Froz} {h:Heap} (R:Base f G h) (o:Obj):Ext vw f G (setG G h.objs.size o) h (h.push o):=
  ⟨setG_mono (R.fresh (size_new _)),fun x o' e=>by
    unfold setG at e
    by_cases q:x=h.objs.size
    · exact .inr (.inl (q ▸ size_new _))
    · rw [if_neg q] at e; exact .inl e,(Ext.push (f:=f) (vw:=vw) (G:=G) h o).lv,(Ext.push (G:=G) h o).view,(Ext.push (G:=G) h o).keep⟩
theorem Ext.froze {vw:Bool} {f:FR} {G:Froz} {h:Heap} {z:Addr} {ws:List Value} {n:Nat} (gz:G z=none):Ext vw f G (setG G z (lisObj ws n)) h h:=
  ⟨setG_mono gz,fun x o' e=>by
    unfold setG at e
    by_cases q:x=z
    · rw [if_pos q] at e; cases e; exact .inr (.inr ⟨_,_,rfl⟩)
    · rw [if_neg q] at e; exact .inl e,fun ω e=>e,fun ω ω e=>e,fun ω ω e ω ω=>e⟩
theorem Ext.same {vw:Bool} {f:FR} {G G':Froz} {h h':Heap} {X:List Addr} (R:Base f G h) (S:Same f X h h') (g:GNew G G' h h') (hX:∀ x∈X,∃ o,h.get? x=some o∧(∀ vs,o.data ≠ .fields vs)∧(vw=true→x≠f.L∧(∀ v,o.data ≠ .cell v)∧∀ ws n,o.data ≠ .seq ws n)):Ext vw f G G' h h':=by
  refine ⟨g.mono,fun x o e=>(g.new x o e).elim .inl fun q=>.inr (.inl q.1),S.lv,fun q m V=>V.step R S (fun z=>?_) fun x hx v ⟨o,ho,hd⟩=>?_,fun z o e k n=>S.ob z o e (fun q=>?_) n⟩
  · obtain ⟨_,_,_,h3⟩:=hX _ z
    exact (h3 q).1 rfl
  · obtain ⟨o',ho',_,h3⟩:=hX _ hx
    rw [ho] at ho'
    cases ho'
    exact (h3 q).2.1 _ hd
  · obtain ⟨o',ho',h2,h3⟩:=hX _ q
    rw [e] at ho'
    cases ho'
    rcases k with ⟨_,vs,k⟩ | ⟨k,ws,n,k'⟩
    · exact h2 _ k
    · exact (h3 k).2.2 _ _ k'
noncomputable abbrev KX (f:FR) (la:LA) (s:Shared) (G:Froz) (Q:Post) (QC:Value→Shared→Prop):Prop:=
  ∀ G' b' st' v V h' tk',Ext true f G G' s.heap h'→Rel f G' { la with b:=b' } st' h'→Rep f.c.P G' la.a V v→Q V st'→QC v { s with heap:=h',toks:=tk' }
noncomputable abbrev KXs (f:FR) (la:LA) (s:Shared) (G:Froz) (Q:List V→St→Prop) (QC:List Value→Shared→Prop):Prop:=
  ∀ G' b' st' v V h' tk',Ext true f G G' s.heap h'→Rel f G' { la with b:=b' } st' h'→Reps f.c.P G' la.a V v→Q V st'→QC v { s with heap:=h',toks:=tk' }
noncomputable abbrev KB (f:FR) (la:LA) (s:Shared) (G:Froz) (Q:Bool→St→Prop) (QC:Bool→Shared→Prop):Prop:=
  ∀ G' b' st' V h' tk',Ext true f G G' s.heap h'→Rel f G' { la with b:=b' } st' h'→Q V st'→QC V { s with heap:=h',toks:=tk' }
noncomputable abbrev KE (f:FR) (la:LA) (s:Shared) (Xc:Exc) (EC:Value→Shared→Prop):Prop:=
  ∀ G' st' e m h' tk',RelE f G' la.a st' h' e m→Xc m st'→EC (.ref e) { s with heap:=h',toks:=tk' }
structure Env0 (f:FR) (sc:Scope) (env:Env) (A:Around) (H:Nat):Prop where
  c:f.c.Ok
  scope:env.scope=sc
  kind:sc.kind = .function
  loc:env.locals=f.L
  fr:env.frame=some f.L
  gl:env.globals=mainGlobals
  bi:env.builtins=builtinsNs
  cells:match f.ck with
    | none=>∀ y,sc.names.lookup y≠some .cell
    | some (x,c)=>env.cells.lookup (Str.ofString x)=some c∧sc.names.lookup (Str.ofString x)=some .cell∧∀ y,sc.names.lookup y=some .cell→y=Str.ofString x
  envs:∃ outer,f.envs=env :: outer
  frames:A.frames=some f.envs
  guards:A.guards=some []
  depth:A.depth+H < recursionLimit
  units:A.units+16 * H+40 < cLine
noncomputable def isLoc (sc:Scope) (x:String):Bool:=match sc.names.lookup (Str.ofString x) with
  | some .local=>true
  | some .cell=>true
  | _=>false
section
variable {f:FR} {G G':Froz} {la:LA} {st:St} {sc:Scope} {env:Env} {A:Around} {H:Nat} {s:Shared} {EC:Value→Shared→Prop} {h h':Heap}
theorem Rel.kIn (e:f.c.Ok) (R:Base f G h):(KF f.c.P).In h:=fun b o q=>R.gh b o (R.bg b o (e.K b o q))
theorem isLoc_inv {x:String} (h:isLoc sc x=true):sc.names.lookup (Str.ofString x)=some .local∨sc.names.lookup (Str.ofString x)=some .cell:=by
  have h:(match sc.names.lookup (Str.ofString x) with
    | some .local=>true
    | some .cell=>true
    | _=>false)=true:=h
  generalize sc.names.lookup (Str.ofString x)=e at h ⊢
  rcases e with _ | k
  · cases h
  · cases k <;> first | exact .inl rfl | exact .inr rfl | exact nomatch (show false=true from h)
set_option tactic.hygienic true in
theorem load_ok {x:String} {v:Value} {m:Str→Option Value} {QC:Value→Shared→Prop} (e:Env0 f sc env A H) (hV:View f s.heap m) (hk:isLoc sc x=true)
    (hv:m (Str.ofString x)=some v) (h:QC v s):wpAny f.c.M A (loadName env (Str.ofString x)) QC EC s:=by
  have kk:env.scope.kind = .function:=by rw [e.scope]; exact e.kind
  have ko:env.kindOf (Str.ofString x)=sc.names.lookup (Str.ofString x):=by unfold Env.kindOf; rw [e.scope]
  have hc:=e.cells
  unfold View at hV
  rcases isLoc_inv hk with hl | hl
  · skip
    have:∃ m₀,s.heap.Ns f.L m₀∧m₀ (Str.ofString x)=some v:=by
      split at hV
      · exact ⟨m,hV,hv⟩
      · rename_i y c hck
        rw [hck] at hc
        refine bC fun ng=>?_;obtain ⟨m₀,o,h1,h2,h3⟩:=hV;refine ng ?_;clear ng
        refine ⟨m₀,h1,?_⟩
        rw [h3] at hv
        dsimp only at hv
        by_cases q:Str.ofString x=Str.ofString y
        · rw [q,hc.2.1] at hl; cases hl
        · rw [if_neg q] at hv; exact hv
    obtain ⟨m₀,h1,h2⟩:=this
    exact wpAny_loadName_local kk (ko.trans hl) (by rw [e.loc]; exact h1) h2 h
  · split at hV
    · rename_i hck; rw [hck] at hc; exact absurd hl (hc _)
    · rename_i y c hck
      rw [hck] at hc
      have q:=hc.2.2 _ hl
      refine bC fun ng=>?_;obtain ⟨m₀,o,h1,h2,h3⟩:=hV;refine ng ?_;clear ng
      rw [h3] at hv
      dsimp only at hv
      rw [if_pos q] at hv
      subst hv
      exact wpAny_loadName_cell kk (ko.trans hl) (by rw [q]; exact hc.1) h2 h
set_option tactic.hygienic true in
theorem store_ok {x:String} {v:Value} {m:Str→Option Value} {QC:Unit→Shared→Prop} (e:Env0 f sc env A H) (R:Base f G s.heap) (hV:View f s.heap m) (hk:isLoc sc x=true)
    (h:∀ h' tk' X,Same f X s.heap h'→Base f G h'→View f h' (fun y=>if y=Str.ofString x then some v else m y)→(∀ y∈X,y=f.L∨∃ v,s.heap.IsCell y v)→QC () { s with heap:=h',toks:=tk' }):wpAny f.c.M A (storeName env (Str.ofString x) v) QC EC s:=by
  have kk:env.scope.kind = .function:=by rw [e.scope]; exact e.kind
  have ko:env.kindOf (Str.ofString x)=sc.names.lookup (Str.ofString x):=by unfold Env.kindOf; rw [e.scope]
  have hc:=e.cells
  have nL:G f.L=none:=(R.fr _ R.lf).1
  have XL:∀ h',Heap.SameBut f.L s.heap h'→∀ m₁,h'.Ns f.L m₁→Base f G h':=fun h' hs m₁ hN=>
    R.step (.but hs (by obtain ⟨o,es,ep,ho,_⟩:=hN; exact ⟨o,ho⟩)) (.refl ..) (fun y hy=>by rw [List.mem_singleton.mp hy]; exact ⟨nL,.inr R.sz,fun _=>rfl⟩) fun _=>by
      refine bC fun ng=>?_;obtain ⟨o,es,ep,ho,hd,_⟩:=hN;refine ng ?_;clear ng
      exact ⟨o,ho,fun vs q=>by rw [hd] at q; cases q⟩
  have kf:(env.scope.kind == ScopeKind.class || env.scope.kind == ScopeKind.module && env.locals != env.globals)=false:=by rw [kk]; rfl
  unfold View at hV h
  rcases isLoc_inv hk with hl | hl
  · skip
    split at hV
    · rename_i hck
      rw [hck] at h
      refine wpAny_storeName_local (ko.trans hl) (by rw [e.loc]; exact hV) (fun h' hN hs=>?_) kf
      rw [e.loc] at hN hs
      exact h h' _ [f.L] (.but hs (by obtain ⟨o,es,ep,ho,_⟩:=hN; exact ⟨o,ho⟩)) (XL h' hs _ hN) hN fun y hy=>.inl (List.mem_singleton.mp hy)
    · rename_i y c hck
      rw [hck] at h hc
      refine bC fun ng=>?_;obtain ⟨m₀,o,h1,h2,h3⟩:=hV;refine ng ?_;clear ng
      refine wpAny_storeName_local (ko.trans hl) (by rw [e.loc]; exact h1) (fun h' hN hs=>?_) kf
      rw [e.loc] at hN hs
      have hcL:c≠f.L:=fun q=>(R.ck _ hck).2.2.1 (q ▸ R.lf)
      refine h h' _ [f.L] (.but hs (by obtain ⟨o,es,ep,ho,_⟩:=hN; exact ⟨o,ho⟩)) (XL h' hs _ hN) ⟨_,o,hN,h2.sameBut hs hcL,?_⟩ fun y hy=>.inl (List.mem_singleton.mp hy)
      funext z
      rw [h3]
      dsimp only
      by_cases q:z=Str.ofString x
      · rw [if_pos q]
        rw [if_neg fun q'=>by rw [← q,q',hc.2.1] at hl; cases hl]
        rw [if_pos q]
      · rw [if_neg q]
        by_cases q':z=Str.ofString y
        · rw [if_pos q',if_pos q']
        · rw [if_neg q',if_neg q',if_neg q]
  · split at hV
    · rename_i hck; rw [hck] at hc; exact absurd hl (hc _)
    · rename_i y c hck
      rw [hck] at h hc
      refine bC fun ng=>?_;obtain ⟨m₀,o,h1,h2,h3⟩:=hV;refine ng ?_;clear ng
      have q:=hc.2.2 _ hl
      refine wpAny_storeName_cell kk (ko.trans hl) (by rw [q]; exact hc.1) h2 fun h' hC hs=>?_
      have hcL:f.L≠c:=fun q=>(R.ck _ hck).2.2.1 (q ▸ R.lf)
      refine h h' s.toks [c] (.but hs (by obtain ⟨o,ho,_⟩:=hC; exact ⟨o,ho⟩)) ?_ ⟨m₀,_,h1.sameBut hs hcL,hC,?_⟩ fun y hy=>.inr ⟨o,by rw [List.mem_singleton.mp hy]; exact h2⟩
      · refine R.step (.but hs (by obtain ⟨o,ho,_⟩:=hC; exact ⟨o,ho⟩)) (.refl ..) (fun z hz=>?_) fun hz=>absurd (List.mem_singleton.mp hz) hcL
        rw [List.mem_singleton.mp hz]
        exact ⟨(R.ck _ hck).1,.inr (R.ck _ hck).2.1,fun q=>absurd q (R.ck _ hck).2.2.1⟩
      · funext z
        rw [h3]
        dsimp only
        rw [q]
        by_cases q':z=Str.ofString y
        · rw [if_pos q',if_pos q']
        · rw [if_neg q',if_neg q',if_neg q']
theorem lkL_setL (x y:String) (l:LV):∀ ρ:List (String × LV),lkL y (setL x l ρ)=if y=x then some l else lkL y ρ
  | []=>by
    by_cases h:x=y
    · subst h; simp [setL,lkL]
    · have:¬ y=x:=fun e=>h e.symm
      simp [setL,lkL,h,this]
  | (z,k) :: r=>by
    have ih:=lkL_setL x y l r
    by_cases hz:z=x
    · subst hz
      by_cases h:z=y
      · subst h; simp [setL,lkL]
      · have:¬ y=z:=fun e=>h e.symm
        simp [setL,lkL,h,this]
    · by_cases h:z=y
      · subst h
        simp [setL,lkL,hz]
      · simp only [setL,if_neg hz,lkL,if_neg h,ih]
theorem Loc.set {a:Addr} {m:Str→Option Value} {ρ:List (String × LV)} {x:String} {l:LV} {v:Value} (r:Loc f G a h m ρ) (hv:LocRel f G a h l v)
    (ap:∀ vs,l = .own vs→∀ y ws,y≠x→lkL y ρ=some (.own ws)→m (Str.ofString y)≠some v):Loc f G a h (fun y=>if y=Str.ofString x then some v else m y) (setL x l ρ):=by
  have ne:∀ y,y≠x→¬ Str.ofString y=Str.ofString x:=fun y hy e=>hy (ofString_inj e)
  refine ⟨fun y k e=>?_,fun y z vs ws u hyz e1 e2 e3=>?_⟩
  · rw [lkL_setL] at e
    by_cases hy:y=x
    · subst hy
      rw [if_pos rfl] at e
      cases e
      exact ⟨v,if_pos rfl,hv⟩
    · rw [if_neg hy] at e
      obtain ⟨u,hu,hr⟩:=r.rel y k e
      exact ⟨u,by rw [if_neg (ne y hy)]; exact hu,hr⟩
  · rw [lkL_setL] at e1 e2
    by_cases hy:y=x
    · subst hy
      rw [if_pos rfl] at e1
      rw [if_neg (Ne.symm hyz)] at e2
      rw [if_pos rfl] at e3
      cases e1
      cases e3
      rw [if_neg (ne z (Ne.symm hyz))]
      exact ap vs rfl z ws (Ne.symm hyz) e2
    · rw [if_neg hy] at e1
      rw [if_neg (ne y hy)] at e3
      by_cases hz:z=x
      · subst hz
        rw [if_pos rfl] at e2
        rw [if_pos rfl]
        cases e2
        intro q
        cases q
        exact ap ws rfl y vs hy e1 e3
      · rw [if_neg hz] at e2
        rw [if_neg (ne z hz)]
        exact r.apart y z vs ws u hyz e1 e2 e3
theorem notList_of {X:List Addr} (hL:s.heap.Ns f.L m) (hX:∀ y∈X,y=f.L∨∃ v,s.heap.IsCell y v):∀ x∈X,∀ ws n,s.heap.get? x≠some (lisObj ws n):=by
  intro x hx ws n q
  rcases hX x hx with rfl | ⟨v,o,ho,hd⟩
  · obtain ⟨o,es,ep,ho,hd,_⟩:=hL
    rw [ho] at q; cases q; cases hd
  · rw [ho] at q; cases q; cases hd
theorem View.ns {m:Str→Option Value} (V:View f h m):∃ m₀,h.Ns f.L m₀:=by
  unfold View at V
  split at V
  · exact ⟨m,V⟩
  · obtain ⟨m₀,_,h1,_⟩:=V; exact ⟨m₀,h1⟩
theorem notLex_of {X:List Addr} (R:Base f G h) (hX:∀ y∈X,y=f.L∨∃ v,h.IsCell y v) {lx:Option Lex} (r:LexOk f G h la lx):∀ l,lx=some l→la.d ∉ X∧(l.buf≠none→la.b ∉ X):=by
  rintro l rfl
  have r:LexRel f G h la l:=r
  refine ⟨fun q=>?_,fun hb q=>?_⟩
  · obtain ⟨es,n,e1,_⟩:=r.dict
    rcases hX _ q with e | ⟨v,o,ho,hd⟩
    · exact r.nf (e ▸ R.lf)
    · rw [ho] at e1; cases e1; cases hd
  · cases hl:l.buf with
    | none=>exact hb hl
    | some bb=>
      have rb:=r.buf _ hl
      rcases hX _ q with e | ⟨v,o,ho,hd⟩
      · exact rb.nf (e ▸ R.lf)
      · have:=rb.at_; rw [ho] at this; cases this; cases hd
theorem ext_store {m:Str→Option Value} {X:List Addr} (R:Base f G h) (hL:h.Ns f.L m) (S:Same f X h h') (hX:∀ y∈X,y=f.L∨∃ v,h.IsCell y v):Ext false f G G h h':=
  .same R S (.refl ..) fun x hx=>by
    rcases hX x hx with rfl | ⟨v,o,ho,hd⟩
    · obtain ⟨o,es,ep,ho,hd,_⟩:=hL
      exact ⟨o,ho,(fun vs q=>by rw [hd] at q; cases q),(fun q=>nomatch q)⟩
    · exact ⟨o,ho,(fun vs q=>by rw [hd] at q; cases q),(fun q=>nomatch q)⟩
theorem Rel.store {QC:Unit→Shared→Prop} {x:String} {l:LV} {v:Value} (e:Env0 f sc env A H) (R:Rel f G la st s.heap) (hk:isLoc sc x=true) (hv:LocRel f G la.a s.heap l v)
    (ap:∀ vs m,l = .own vs→View f s.heap m→Loc f G la.a s.heap m st.ρ→∀ y ws,y≠x→lkL y st.ρ=some (.own ws)→m (Str.ofString y)≠some v)
    (h:∀ h' tk',Rel f G la { st with ρ:=setL x l st.ρ } h'→Ext false f G G s.heap h'→QC () { s with heap:=h',toks:=tk' }):wpAny f.c.M A (storeName env (Str.ofString x) v) QC EC s:=by
  obtain ⟨m,hV,hL⟩:=R.loc
  obtain ⟨m₀,hN⟩:=hV.ns
  refine store_ok e R.base hV hk fun h' tk' X S B V hX=>h h' tk' ⟨B,⟨_,V,?_⟩,R.lex.step S (.refl ..) (notLex_of R.base hX R.lex)⟩ (ext_store R.base hN S hX)
  exact (hL.set hv fun vs q y ws hy hw=>ap vs m q hV hL y ws hy hw).step S (.refl ..) (notList_of hN hX)
theorem Rel.storeV {QC:Unit→Shared→Prop} {x:String} {V:V} {v:Value} (e:Env0 f sc env A H) (R:Rel f G la st s.heap) (hk:isLoc sc x=true) (hv:Rep f.c.P G la.a V v)
    (h:∀ h' tk',Rel f G la { st with ρ:=setL x (.v V) st.ρ } h'→Ext false f G G s.heap h'→QC () { s with heap:=h',toks:=tk' }):wpAny f.c.M A (storeName env (Str.ofString x) v) QC EC s:=
  R.store (l:=.v V) e hk hv (fun ω ω q=>nomatch q) h
theorem Base.froze {d:Addr} {o:Obj} {m:Str→Option Value} (B:Base f G h) (V:View f h m) (gd:G d=none) (ho:h.get? d=some o) (h0:f.h₀.get? d=none) (nf:d ∉ f.fs) (nc:∀ v,o.data ≠ .cell v):Base f (setG G d o) h:=by
  have mono:=setG_mono (G:=G) (x:=d) (o:=o) gd
  have off:∀ {x:Addr},x≠d→G x=none→setG G d o x=none:=fun hx e=>by unfold setG; rw [if_neg hx]; exact e
  refine ⟨fun b o e=>mono b o (B.bg b o e),fun b o' e=>?_,fun b o e=>mono b o (B.gg b o e),fun b o' e=>?_,B.chg,B.chf,B.sz,B.lv,B.lf,fun L' hL=>⟨off (fun q=>nf (q ▸ hL)) (B.fr L' hL).1,(B.fr L' hL).2⟩,B.fn,fun p hp=>?_⟩
  · unfold setG at e
    by_cases q:b=d
    · rw [if_pos q] at e; cases e; exact q ▸ ho
    · rw [if_neg q] at e; exact B.gh b o' e
  · unfold setG at e
    by_cases q:b=d
    · exact .inr (q ▸ h0)
    · rw [if_neg q] at e; exact B.gn b o' e
  · obtain ⟨k1,k2,k3,k4⟩:=B.ck p hp
    refine ⟨off (fun q=>?_) k1,k2,k3,k4⟩
    unfold View at V
    rw [hp] at V
    obtain ⟨m₀,v,_,⟨ob,h2,h3⟩,_⟩:=V
    rw [q,ho] at h2
    cases h2
    exact nc _ h3
theorem Rel.froze {x:String} {vs:List V} (R:Rel f G la st h) (hx:lkL x st.ρ=some (.own vs)) :
    ∃ m G' z,View f h m∧m (Str.ofString x)=some (.ref z)∧Ext true f G G' h h∧Rel f G' la { st with ρ:=setL x (.v (.lst vs)) st.ρ } h∧Rep f.c.P G' la.a (.lst vs) (.ref z):=by
  obtain ⟨m,hN,hL⟩:=R.loc
  refine bC fun ng=>?_;obtain ⟨v,hv,z,ws,n,rfl,hz,rv,gz,nz,fz⟩:=hL.rel x _ hx;refine ng ?_;clear ng
  have mono:=setG_mono (G:=G) (x:=z) (o:=lisObj ws n) gz
  have rz:Rep f.c.P (setG G z (lisObj ws n)) la.a (.lst vs) (.ref z):=.lst (setG_at G z _) (Reps.mono mono rv)
  have ne:∀ y,(∀ ob,h.get? y=some ob→ob.data ≠ .seq ws.toArray n)→Liv h y→G y=none→setG G z (lisObj ws n) y=none:=fun y hy ω e=>by
    unfold setG
    rw [if_neg fun q:y=z=>hy _ (q ▸ hz) rfl]
    exact e
  have B:=R.base
  refine ⟨m,setG G z (lisObj ws n),z,hN,hv,.froze gz,⟨B.froze hN gz hz nz fz (fun ω q=>nomatch q),⟨m,hN,⟨fun y l e=>?_,fun y y' us us' u hy e1 e2 e3=>?_⟩⟩,?_⟩,rz⟩
  · rw [lkL_setL] at e
    by_cases hy:y=x
    · subst hy
      rw [if_pos rfl] at e
      cases e
      exact ⟨_,hv,rz⟩
    · rw [if_neg hy] at e
      obtain ⟨u,hu,hr⟩:=hL.rel y l e
      refine ⟨u,hu,?_⟩
      cases l with
      | v V=>exact Rep.mono mono hr
      | own us=>
        refine bC fun ng=>?_;obtain ⟨z',ws',n',rfl,k1,k2,k3,k4,k5⟩:=hr;refine ng ?_;clear ng
        refine ⟨z',ws',n',rfl,k1,Reps.mono mono k2,?_,k4,k5⟩
        unfold setG
        rw [if_neg fun q:z'=z=>hL.apart y x us vs _ hy e hx hu (q ▸ hv)]
        exact k3
  · rw [lkL_setL] at e1 e2
    by_cases hy':y=x
    · rw [if_pos hy'] at e1; cases e1
    · rw [if_neg hy'] at e1
      by_cases hz':y'=x
      · rw [if_pos hz'] at e2; cases e2
      · rw [if_neg hz'] at e2
        exact hL.apart y y' us us' u hy e1 e2 e3
  · have rl:=R.lex
    cases hlx:st.lx with
    | none=>trivial
    | some lx=>
      rw [hlx] at rl
      have rl:LexRel f G h la lx:=rl
      obtain ⟨es,n',e1,e2⟩:=rl.dict
      refine (show LexRel f _ h la lx from ⟨mono _ _ rl.inst,⟨es,n',e1,e2.imp fun ω ω x=>x.keep mono⟩,?_,rl.nf,rl.pr,rl.one,fun l e=>?_,rl.has,rl.nm⟩)
      · exact ne _ (fun ob e q=>by rw [e1] at e; cases e; cases q) ⟨_,e1⟩ rl.gd
      · have rb:=rl.buf l e
        exact ⟨rb.at_,ne _ (fun ob e q=>by rw [rb.at_] at e; cases e; cases q) ⟨_,rb.at_⟩ rb.gb,rb.nf,rb.pr⟩
end
noncomputable def XS (la:LA):Option Lex→List Addr
  | none=>[]
  | some lx=>la.d :: match lx.buf with
    | none=>[]
    | some _=>[la.b]
noncomputable def FnOK (fa:Addr) (S:Spec) (n:Nat):Prop:=
  ∀ {f:FR} {A:Around} {s:Shared} {G:Froz} {la:LA} {lx:Option Lex} {vs:List V} {vals:List Value} {Q:V→Option Lex→Prop} {Xc:List UInt8→Prop} {QC EC:Value→Shared→Prop},
    f.c.Ok→Base f G s.heap→LexOk f G s.heap la lx→A.frames=some f.envs→A.guards=some []→A.depth+n < recursionLimit→A.units+16 * n+40 < cLine→A.handled=none→Reps f.c.P G la.a vs vals→S vs lx Q Xc→
    (∀ G' b' lx' v V h' tk',Same f (XS la lx) s.heap h'→GNew G G' s.heap h'→Base f G' h'→LexOk f G' h' { la with b:=b' } lx'→Rep f.c.P G' la.a V v→Q V lx'→QC v { s with heap:=h',toks:=tk' })→
    (∀ G' e m h' tk',Same f (XS la lx) s.heap h'→GNew G G' s.heap h'→Base f G' h'→ExcIn f G' h' e m (some .none)→Xc m→EC (.ref e) { s with heap:=h',toks:=tk' })→
    wpG f.c.M A (call (.ref fa) vals) QC EC s
noncomputable def ΓOK (Γ:Specs) (H:Nat):Prop:=∀ fa,∃ n,n < H∧FnOK fa (Γ fa) n
section
variable {f:FR} {G G':Froz} {la:LA} {st:St} {h h':Heap}
set_option tactic.hygienic true in
theorem xs_cases {lx:Option Lex} (r:LexOk f G h la lx):∀ x∈XS la lx,∃ l,lx=some l∧LexRel f G h la l∧(x=la.d∨(x=la.b∧∃ b,l.buf=some b)):=by
  intro x hx
  cases lx with
  | none=>nomatch hx
  | some l=>
    refine ⟨l,rfl,r,?_⟩
    unfold XS at hx
    rcases List.mem_cons.mp hx with h1 | h1
    · exact .inl h1
    · split at h1
      · nomatch h1
      · rename_i b hb; exact .inr ⟨List.mem_singleton.mp h1,b,hb⟩
theorem xs_facts {lx:Option Lex} (r:LexOk f G h la lx):∀ x∈XS la lx,G x=none∧Priv f x∧x ∉ f.fs∧(∃ o,h.get? x=some o∧(∀ v,o.data ≠ .cell v)∧(∀ ws n,o.data ≠ .seq ws n)∧∀ vs,o.data ≠ .fields vs):=by
  intro x hx
  obtain ⟨l,rfl,r,rfl | ⟨rfl,b,hb⟩⟩:=xs_cases r x hx
  · obtain ⟨es,n,e1,_⟩:=r.dict
    exact ⟨r.gd,r.pr,r.nf,_,e1,(fun ω q=>nomatch q),(fun ω ω q=>nomatch q),fun ω q=>nomatch q⟩
  · have rb:=r.buf _ hb
    exact ⟨rb.gb,rb.pr,rb.nf,_,rb.at_,(fun ω q=>nomatch q),(fun ω ω q=>nomatch q),fun ω q=>nomatch q⟩
theorem Rel.back {lx':Option Lex} {b':Addr} (R:Rel f G la st h) (S:Same f (XS la st.lx) h h') (g:GNew G G' h h') (B:Base f G' h') (r:LexOk f G' h' { la with b:=b' } lx'):Rel f G' { la with b:=b' } { st with lx:=lx' } h':=by
  obtain ⟨m,hV,hL⟩:=R.loc
  have F:=xs_facts R.lex
  exact ⟨B,⟨m,hV.step R.base S (fun q=>(F _ q).2.2.1 R.base.lf) (fun x hx v ⟨o,ho,hd⟩=>by
    obtain ⟨_,_,_,o',ho',k,_⟩:=F x hx
    rw [ho] at ho'; cases ho'; exact k v hd),hL.step S g fun x hx ws n q=>by
    obtain ⟨_,_,_,o',ho',_,k,_⟩:=F x hx
    rw [q] at ho'; cases ho'; exact k _ _ rfl⟩,r⟩
theorem Rel.extB (R:Rel f G la st h) (S:Same f (XS la st.lx) h h') (g:GNew G G' h h'):Ext true f G G' h h':=
  .same R.base S g fun x hx=>by
    obtain ⟨_,_,h3,o,ho,k1,k2,k3⟩:=xs_facts R.lex x hx
    exact ⟨o,ho,k3,fun ω=>⟨fun q=>h3 (q ▸ R.base.lf),k1,k2⟩⟩
theorem Rel.backE {e:Addr} {m:List UInt8} (R:Rel f G la st h) (S:Same f (XS la st.lx) h h') (g:GNew G G' h h') (B:Base f G' h') (r:ExcIn f G' h' e m (some .none)):RelE f G' la.a { st with lx:=none } h' e m:=by
  have:=R.back (lx':=none) (b':=0) S g B trivial
  exact ⟨this.base,this.loc,_,r,.inr (.inl rfl)⟩
end
noncomputable def Snd (Γ:Specs) (sc:Scope) (H:Nat) (e:Expr) (x:X):Prop:=
  ∀ {f:FR} {env:Env} {A:Around} {s:Shared} {G:Froz} {la:LA} {st:St} {Q:Post} {Xc:Exc} {QC EC:Value→Shared→Prop},
    Env0 f sc env A H→ΓOK Γ H→(x.quiet=true∨A.handled=none)→Rel f G la st s.heap→wpX Γ x Q Xc st→KX f la s G Q QC→KE f la s Xc EC→wpG f.c.M A (eval e env) QC EC s
noncomputable def SndT (Γ:Specs) (sc:Scope) (H:Nat) (e:Expr) (x:X):Prop:=
  ∀ {f:FR} {env:Env} {A:Around} {s:Shared} {G:Froz} {la:LA} {st:St} {Q:Bool→St→Prop} {Xc:Exc} {QC:Bool→Shared→Prop} {EC:Value→Shared→Prop},
    Env0 f sc env A H→ΓOK Γ H→(x.quiet=true∨A.handled=none)→Rel f G la st s.heap→wpX Γ x (fun v st=>∃ b,v = .bool b∧Q b st) Xc st→KB f la s G Q QC→KE f la s Xc EC→wpG f.c.M A (PySem.isTrue e env (eval e env)) QC EC s
section
variable {Γ:Specs} {sc:Scope} {H:Nat} {e:Expr} {x:X}
theorem sndT_of (h:Snd Γ sc H e x) (he:∀ env,PySem.isTrue e env (eval e env)=(do let v ← eval e env; standAt e.pos; holding [v] (truthy v))):SndT Γ sc H e x:=
  fun {f env A s G la st Q Xc QC EC} E0 hΓ hq R hw K KE=>g_isTrue (h E0 hΓ hq R hw (fun G' b' st' v V h' tk' g R' r q=>by
    obtain ⟨b,rfl,q⟩:=q
    cases r
    exact g_truthBool (K G' b' st' b h' tk' g R' q)) KE) (he env)
theorem snd_none {k pos}:Snd Γ sc H (.Constant .none k pos) (.cst .none):=
  fun {f env A s G la st Q Xc QC EC} E0 hΓ hq R hw K KE=>fun ω ω ω ω=>K G la.b st .none .none s.heap s.toks (.refl ..) R .none hw
theorem snd_bool {b k pos}:Snd Γ sc H (.Constant (.bool b) k pos) (.cst (.bool b)):=
  fun {f env A s G la st Q Xc QC EC} E0 hΓ hq R hw K KE=>fun ω ω ω ω=>K G la.b st (.bool b) (.bool b) s.heap s.toks (.refl ..) R (.bool b) hw
theorem snd_int {b k pos}:Snd Γ sc H (.Constant (.int b) k pos) (.cst (.int b)):=
  fun {f env A s G la st Q Xc QC EC} E0 hΓ hq R hw K KE=>fun ω ω ω ω=>K G la.b st (.int b s.toks) (.int b) s.heap (s.toks+1) (.refl ..) R (.int b _) hw
theorem snd_bytes {b k pos}:Snd Γ sc H (.Constant (.bytes b) k pos) (.cst (.byt b)):=
  fun {f env A s G la st Q Xc QC EC} E0 hΓ hq R hw K KE=>fun ω ω ω ω=>K G la.b st (.bytes b.toArray s.toks) (.byt b) s.heap (s.toks+1) (.refl ..) R (.byt b _) hw
theorem snd_loc {n:String} {pos} (hk:isLoc sc n=true) (hd:(Str.ofString n == ("__debug__" : Str))=false):Snd Γ sc H (.Name (Str.ofString n) pos) (.loc n):=by
  intro f env A s G la st Q Xc QC EC E0 hΓ hq R hw K KE
  rw [w_loc] at hw
  refine wpG_of (wpAny_Name ?_ hd)
  cases hx:lkL n st.ρ with
  | none=>rw [hx] at hw; exact False.elim hw
  | some l=>
    rw [hx] at hw
    cases l with
    | v V=>
      obtain ⟨m,hV,hL⟩:=R.loc
      obtain ⟨v,hv,rv⟩:=hL.rel n _ hx
      exact load_ok E0 hV hk hv (K G la.b st v V s.heap s.toks (.refl ..) R rv hw)
    | own vs=>
      obtain ⟨m,G',z,hV,hv,mono,R',rv⟩:=R.froze hx
      exact load_ok E0 hV hk hv (K G' la.b _ _ _ s.heap s.toks mono R' rv hw)
noncomputable def SndL (Γ:Specs) (sc:Scope) (H:Nat) (es:List Expr) (xs:List X):Prop:=All2 (fun e x=>Snd Γ sc H e x∧SndT Γ sc H e x∧∀ env rest,starEach (e :: rest) env=(false,eval e env) :: starEach rest env) es xs
theorem quiets_cons {x:X} {xs:List X} {A:Around} (h:X.quiets (x :: xs)=true∨A.handled=none):(x.quiet=true∨A.handled=none)∧(X.quiets xs=true∨A.handled=none):=by
  rcases h with h | h
  · have h:=Bool.and_eq_true_iff.mp (show (x.quiet && X.quiets xs)=true from h); exact ⟨.inl h.1,.inl h.2⟩
  · exact ⟨.inr h,.inr h⟩
theorem sndL_spliced {pos:Pos} {es:List Expr} {xs:List X} (h:SndL Γ sc H es xs) :
    ∀ {f:FR} {env:Env} {A:Around} {s:Shared} {G:Froz} {la:LA} {st:St} {Q:List V→St→Prop} {Xc:Exc} {QC:List Value→Shared→Prop} {EC:Value→Shared→Prop},
    Env0 f sc env A H→ΓOK Γ H→(X.quiets xs=true∨A.handled=none)→Rel f G la st s.heap→wpXs Γ xs Q Xc st→KXs f la s G Q QC→KE f la s Xc EC→wpG f.c.M A (spliced (backTo pos (starEach es env))) QC EC s:=by
  induction h with
  | nil=>
    intro f env A s G la st Q Xc QC EC E0 hΓ hq R hw K KE
    exact g_none (K G la.b st [] [] s.heap s.toks (.refl ..) R .nil hw)
  | cons hh hs ih=>
    intro f env A s G la st Q Xc QC EC E0 hΓ hq R hw K KE
    rw [w_cons] at hw
    obtain ⟨q1,q2⟩:=quiets_cons hq
    refine g_more ?_ (hh.2.2 env _)
    refine hh.1 E0 hΓ q1 R hw (fun G1 b1 st1 v V hp1 tk1 g1 R1 r1 hw1=>?_) KE
    refine ih E0 hΓ q2 R1 hw1 (fun G2 b2 st2 vs Vs hp2 tk2 g2 R2 r2 hw2=>?_) (fun G' st' e m h' tk'=>KE G' st' e m h' tk')
    exact K G2 b2 st2 (v :: vs) (V :: Vs) hp2 tk2 (g1.trans g2) R2 (.cons (Rep.mono g2.mono r1) r2) hw2
theorem snd_tup {es:List Expr} {xs:List X} {k pos} (h:SndL Γ sc H es xs):Snd Γ sc H (.Tuple es k pos) (.tup xs):=by
  intro f env A s G la st Q Xc QC EC E0 hΓ hq R hw K KE
  rw [w_tup] at hw
  refine g_Tuple ?_
  refine sndL_spliced h E0 hΓ hq R hw (fun G1 b1 st1 vs Vs hp1 tk1 g1 R1 r1 hw1=>?_) KE
  obtain ⟨hz,hw1⟩:=hw1
  refine wpG_of (wpAny_newTuple ?_ (by rw [← reps_len r1,sizeLine_eq]; omega))
  exact K _ b1 st1 _ (.tup Vs) _ tk1 (g1.trans (Ext.made R1.base _)) (R1.new _ rfl) (.tup (setG_at _ _ _) (Reps.mono (setG_mono (R1.base.fresh (size_new _))) r1)) hw1
theorem snd_lst {es:List Expr} {xs:List X} {pos} (h:SndL Γ sc H es xs):Snd Γ sc H (.List es pos) (.lstD xs):=by
  intro f env A s G la st Q Xc QC EC E0 hΓ hq R hw K KE
  rw [w_lstD] at hw
  refine g_List ?_
  refine sndL_spliced h E0 hΓ hq R hw (fun G1 b1 st1 vs Vs hp1 tk1 g1 R1 r1 hw1=>?_) KE
  obtain ⟨hz,hw1⟩:=hw1
  refine wpG_of (wpAny_newList ?_ (by rw [← reps_len r1,sizeLine_eq]; omega))
  exact K _ b1 st1 _ (.lst Vs) _ tk1 (g1.trans (Ext.made R1.base _)) (R1.new _ rfl) (.lst (setG_at _ _ _) (Reps.mono (setG_mono (R1.base.fresh (size_new _))) r1)) hw1
theorem quiet2 {p q:Bool} {A:Around} (h:(p && q)=true∨A.handled=none):(p=true∨A.handled=none)∧(q=true∨A.handled=none):=by
  rcases h with h | h
  · rw [Bool.and_eq_true] at h; exact ⟨.inl h.1,.inl h.2⟩
  · exact ⟨.inr h,.inr h⟩
theorem snd_bin {a b:Expr} {op:Operator} {pos} {xa xb:X} (ha:Snd Γ sc H a xa) (hb:Snd Γ sc H b xb):Snd Γ sc H (.BinOp a op b pos) (.bin op xa xb):=by
  intro f env A s G la st Q Xc QC EC E0 hΓ hq R hw K KE
  rw [w_bin] at hw
  obtain ⟨q1,q2⟩:=quiet2 hq
  refine g_BinOp ?_
  refine ha E0 hΓ q1 R hw (fun G1 b1 st1 v1 V1 hp1 tk1 g1 R1 r1 hw1=>?_) KE
  refine hb E0 hΓ q2 R1 hw1 (fun G2 b2 st2 v2 V2 hp2 tk2 g2 R2 r2 hw2=>?_) (fun G' st' e m h' tk'=>KE G' st' e m h' tk')
  exact wpG_of (bin_ok (Rep.mono g2.mono r1) r2 hw2 fun v V tk hQ rv=>K G2 b2 st2 v V hp2 tk (g1.trans g2) R2 rv hQ)
theorem snd_neg {a:Expr} {pos} {xa:X} (ha:Snd Γ sc H a xa):Snd Γ sc H (.UnaryOp .USub a pos) (.neg xa):=by
  intro f env A s G la st Q Xc QC EC E0 hΓ hq R hw K KE
  rw [w_neg] at hw
  refine g_UnaryOp ?_
  refine ha E0 hΓ hq R hw (fun G1 b1 st1 v1 V1 hp1 tk1 g1 R1 r1 hw1=>?_) KE
  obtain ⟨i,rfl,hw1⟩:=hw1
  cases r1
  exact wpG_of (neg_int (K G1 b1 st1 _ _ hp1 _ g1 R1 (.int _ _) hw1))
theorem snd_not {a:Expr} {pos} {xa:X} (ha:SndT Γ sc H a xa):SndT Γ sc H (.UnaryOp .Not a pos) (.notE xa):=by
  intro f env A s G la st Q Xc QC EC E0 hΓ hq R hw K KE
  rw [w_notE] at hw
  refine g_isTrue_not ?_
  refine ha (Q:=fun b st=>Q (!b) st) E0 hΓ hq R ?_ (fun G1 b1 st1 V1 hp1 tk1 g1 R1 hw1=>K G1 b1 st1 _ hp1 tk1 g1 R1 hw1) KE
  have e:(fun v st=>∃ b,v=V.bool b∧∃ b_1,V.bool (!b)=V.bool b_1∧Q b_1 st)=(fun v st=>∃ b,v=V.bool b∧Q (!b) st):=by
    funext v st
    refine propext ⟨fun ⟨b,h1,b',h2,h3⟩=>⟨b,h1,by injection h2 with h2; rw [h2]; exact h3⟩,fun ⟨b,h1,h2⟩=>⟨b,h1,!b,rfl,h2⟩⟩
  rw [e] at hw
  exact hw
theorem snd_notV {a:Expr} {pos} {xa:X} (ha:Snd Γ sc H a xa):Snd Γ sc H (.UnaryOp .Not a pos) (.notE xa):=by
  intro f env A s G la st Q Xc QC EC E0 hΓ hq R hw K KE
  rw [w_notE] at hw
  refine g_UnaryOp ?_
  refine ha E0 hΓ hq R hw (fun G1 b1 st1 v1 V1 hp1 tk1 g1 R1 r1 hw1=>?_) KE
  obtain ⟨i,rfl,hw1⟩:=hw1
  cases r1
  exact wpG_of (wpAny_bind (wpAny_truthy_bool (wpAny_pure (K G1 b1 st1 _ _ hp1 _ g1 R1 (.bool _) hw1))))
theorem snd_cmp {a b:Expr} {op:CmpOp} {pos} {xa xb:X} (ha:Snd Γ sc H a xa) (hb:Snd Γ sc H b xb) (hm:behindInMarks op b=false):Snd Γ sc H (.Compare a [op] [b] pos) (.cmp xa op xb):=by
  intro f env A s G la st Q Xc QC EC E0 hΓ hq R hw K KE
  rw [w_cmp] at hw
  obtain ⟨q1,q2⟩:=quiet2 hq
  refine g_Compare1 ?_ hm
  refine ha E0 hΓ q1 R hw (fun G1 b1 st1 v1 V1 hp1 tk1 g1 R1 r1 hw1=>?_) KE
  refine hb E0 hΓ q2 R1 hw1 (fun G2 b2 st2 v2 V2 hp2 tk2 g2 R2 r2 hw2=>?_) (fun G' st' e m h' tk'=>KE G' st' e m h' tk')
  obtain ⟨r,hr,hw2⟩:=hw2
  exact wpG_of (cmp_ok R2.base.gh (by have:=E0.units; omega) (Rep.mono g2.mono r1) r2 hr (K G2 b2 st2 _ _ hp2 tk2 (g1.trans g2) R2 (.bool r) hw2))
theorem sndT_cmp {a b:Expr} {op:CmpOp} {pos} {xa xb:X} (ha:Snd Γ sc H a xa) (hb:Snd Γ sc H b xb) (hm:behindInMarks op b=false):SndT Γ sc H (.Compare a [op] [b] pos) (.cmp xa op xb):=by
  intro f env A s G la st Q Xc QC EC E0 hΓ hq R hw K KE
  rw [w_cmp] at hw
  obtain ⟨q1,q2⟩:=quiet2 hq
  refine g_isTrue_Compare1 ?_ hm
  refine ha E0 hΓ q1 R hw (fun G1 b1 st1 v1 V1 hp1 tk1 g1 R1 r1 hw1=>?_) KE
  refine hb E0 hΓ q2 R1 hw1 (fun G2 b2 st2 v2 V2 hp2 tk2 g2 R2 r2 hw2=>?_) (fun G' st' e m h' tk'=>KE G' st' e m h' tk')
  obtain ⟨r,hr,_,hb',hw2⟩:=hw2
  cases hb'
  exact wpG_of (cmp_ok R2.base.gh (by have:=E0.units; omega) (Rep.mono g2.mono r1) r2 hr (g_truthBool (K G2 b2 st2 _ hp2 tk2 (g1.trans g2) R2 hw2)))
theorem quiet3 {p q r:Bool} {A:Around} (h:(p && (q && r))=true∨A.handled=none):(p=true∨A.handled=none)∧(q=true∨A.handled=none)∧(r=true∨A.handled=none):=by
  obtain ⟨h1,h2⟩:=quiet2 h
  exact ⟨h1,quiet2 h2⟩
theorem snd_cmp2 {a b c:Expr} {o1 o2:CmpOp} {pos} {xa xb xc:X} (ha:Snd Γ sc H a xa) (hb:Snd Γ sc H b xb) (hc:Snd Γ sc H c xc) (hm:lastMarks [o1,o2] [b,c]=false):Snd Γ sc H (.Compare a [o1,o2] [b,c] pos) (.cmp2 xa o1 xb o2 xc):=by
  intro f env A s G la st Q Xc QC EC E0 hΓ hq R hw K KE
  rw [w_cmp2] at hw
  obtain ⟨q1,q2,q3⟩:=quiet3 hq
  refine g_chain ?_ hm
  refine ha E0 hΓ q1 R hw (fun G1 b1 st1 v1 V1 hp1 tk1 g1 R1 r1 hw1=>?_) KE
  refine g_chain_link ?_
  refine hb E0 hΓ q2 R1 hw1 (fun G2 b2 st2 v2 V2 hp2 tk2 g2 R2 r2 hw2=>?_) (fun G' st' e m h' tk'=>KE G' st' e m h' tk')
  obtain ⟨r,hr,k1,k2⟩:=hw2
  refine wpG_of (cmp_ok R2.base.gh (by have:=E0.units; omega) (Rep.mono g2.mono r1) r2 hr (g_truthBool ?_))
  cases r with
  | true=>
    refine (show wpG _ _ _ _ _ _ from ?_)
    refine g_chain_last ?_
    refine hc E0 hΓ q3 R2 (k1 rfl) (fun G3 b3 st3 v3 V3 hp3 tk3 g3 R3 r3 hw3=>?_) (fun G' st' e m h' tk'=>KE G' st' e m h' tk')
    obtain ⟨r',hr',hw3⟩:=hw3
    exact wpG_of (cmp_ok R3.base.gh (by have:=E0.units; omega) (Rep.mono g3.mono r2) r3 hr' (K G3 b3 st3 _ _ hp3 tk3 ((g1.trans g2).trans g3) R3 (.bool r') hw3))
  | false=>exact K G2 b2 st2 _ _ hp2 tk2 (g1.trans g2) R2 (.bool false) (k2 rfl)
theorem sndT_cmp2 {a b c:Expr} {o1 o2:CmpOp} {pos} {xa xb xc:X} (ha:Snd Γ sc H a xa) (hb:Snd Γ sc H b xb) (hc:Snd Γ sc H c xc) (hm:lastMarks [o1,o2] [b,c]=false):SndT Γ sc H (.Compare a [o1,o2] [b,c] pos) (.cmp2 xa o1 xb o2 xc):=by
  intro f env A s G la st Q Xc QC EC E0 hΓ hq R hw K KE
  rw [w_cmp2] at hw
  obtain ⟨q1,q2,q3⟩:=quiet3 hq
  refine g_isTrue_chain ?_ hm
  refine ha E0 hΓ q1 R hw (fun G1 b1 st1 v1 V1 hp1 tk1 g1 R1 r1 hw1=>?_) KE
  refine g_test_link ?_
  refine hb E0 hΓ q2 R1 hw1 (fun G2 b2 st2 v2 V2 hp2 tk2 g2 R2 r2 hw2=>?_) (fun G' st' e m h' tk'=>KE G' st' e m h' tk')
  obtain ⟨r,hr,k1,k2⟩:=hw2
  refine wpG_of (cmp_ok R2.base.gh (by have:=E0.units; omega) (Rep.mono g2.mono r1) r2 hr (g_truthBool ?_))
  cases r with
  | true=>
    refine (show wpG _ _ _ _ _ _ from ?_)
    refine g_test_last ?_
    refine hc E0 hΓ q3 R2 (k1 rfl) (fun G3 b3 st3 v3 V3 hp3 tk3 g3 R3 r3 hw3=>?_) (fun G' st' e m h' tk'=>KE G' st' e m h' tk')
    obtain ⟨r',hr',b',hb',hw3⟩:=hw3
    cases hb'
    exact wpG_of (cmp_ok R3.base.gh (by have:=E0.units; omega) (Rep.mono g3.mono r2) r3 hr' (g_truthBool (K G3 b3 st3 _ hp3 tk3 ((g1.trans g2).trans g3) R3 hw3)))
  | false=>
    obtain ⟨b',hb',hw3⟩:=k2 rfl
    cases hb'
    exact K G2 b2 st2 _ hp2 tk2 (g1.trans g2) R2 hw3
theorem snd_ite {t a b:Expr} {pos} {xt xa xb:X} (ht:SndT Γ sc H t xt) (ha:Snd Γ sc H a xa) (hb:Snd Γ sc H b xb):Snd Γ sc H (.IfExp t a b pos) (.ite xt xa xb):=by
  intro f env A s G la st Q Xc QC EC E0 hΓ hq R hw K KE
  rw [w_ite] at hw
  obtain ⟨q1,q2,q3⟩:=quiet3 hq
  refine g_IfExp ?_
  refine ht (Q:=fun r st=>(r=true→wpX Γ xa Q Xc st)∧(r=false→wpX Γ xb Q Xc st)) E0 hΓ q1 R hw (fun G1 b1 st1 v1 hp1 tk1 g1 R1 hw1=>?_) KE
  cases v1 with
  | true=>exact ha E0 hΓ q2 R1 (hw1.1 rfl) (fun G2 b2 st2 v2 V2 hp2 tk2 g2 R2 r2 hw2=>K G2 b2 st2 v2 V2 hp2 tk2 (g1.trans g2) R2 r2 hw2) (fun G' st' e m h' tk'=>KE G' st' e m h' tk')
  | false=>exact hb E0 hΓ q3 R1 (hw1.2 rfl) (fun G2 b2 st2 v2 V2 hp2 tk2 g2 R2 r2 hw2=>K G2 b2 st2 v2 V2 hp2 tk2 (g1.trans g2) R2 r2 hw2) (fun G' st' e m h' tk'=>KE G' st' e m h' tk')
theorem sndT_and {pos} {es:List Expr} {xs:List X} (h:SndL Γ sc H es xs):SndT Γ sc H (.BoolOp .And es pos) (.andE xs):=by
  induction h with
  | nil=>
    intro f env A s G la st Q Xc QC EC E0 hΓ hq R hw K KE
    obtain ⟨b,hb,hw⟩:=hw
    cases hb
    exact wpG_of (isTrue_and_nil (K G la.b st true s.heap s.toks (.refl ..) R hw))
  | cons hh hs ih=>
    obtain ⟨_,h2,_⟩:=hh
    intro f env A s G la st Q Xc QC EC E0 hΓ hq R hw K KE
    rw [w_andE,w_andC] at hw
    obtain ⟨q1,q2⟩:=quiets_cons hq
    refine g_isTrue_and ?_
    refine h2 E0 hΓ q1 R hw (fun G1 b1 st1 v1 hp1 tk1 g1 R1 hw1=>?_) KE
    cases v1 with
    | true=>
      exact ih (Q:=Q) E0 hΓ q2 R1 (hw1.1 rfl) (fun G2 b2 st2 v2 hp2 tk2 g2 R2 hw2=>K G2 b2 st2 v2 hp2 tk2 (g1.trans g2) R2 hw2) (fun G' st' e m h' tk'=>KE G' st' e m h' tk')
    | false=>
      obtain ⟨b,hb,hw2⟩:=hw1.2 rfl
      cases hb
      exact K G1 b1 st1 _ hp1 tk1 g1 R1 hw2
theorem sndT_or {pos} {es:List Expr} {xs:List X} (h:SndL Γ sc H es xs):SndT Γ sc H (.BoolOp .Or es pos) (.orE xs):=by
  induction h with
  | nil=>
    intro f env A s G la st Q Xc QC EC E0 hΓ hq R hw K KE
    obtain ⟨b,hb,hw⟩:=hw
    cases hb
    exact wpG_of (isTrue_or_nil (K G la.b st false s.heap s.toks (.refl ..) R hw))
  | cons hh hs ih=>
    obtain ⟨_,h2,_⟩:=hh
    intro f env A s G la st Q Xc QC EC E0 hΓ hq R hw K KE
    rw [w_orE,w_orC] at hw
    obtain ⟨q1,q2⟩:=quiets_cons hq
    refine g_isTrue_or ?_
    refine h2 E0 hΓ q1 R hw (fun G1 b1 st1 v1 hp1 tk1 g1 R1 hw1=>?_) KE
    cases v1 with
    | false=>
      exact ih (Q:=Q) E0 hΓ q2 R1 (hw1.1 rfl) (fun G2 b2 st2 v2 hp2 tk2 g2 R2 hw2=>K G2 b2 st2 v2 hp2 tk2 (g1.trans g2) R2 hw2) (fun G' st' e m h' tk'=>KE G' st' e m h' tk')
    | true=>
      obtain ⟨b,hb,hw2⟩:=hw1.2 rfl
      cases hb
      exact K G1 b1 st1 _ hp1 tk1 g1 R1 hw2
theorem wpAnd_one {x:X} {Q:Bool→St→Prop} {Xc:Exc} {st:St} (h:wpAnd Γ [x] Q Xc st):wpX Γ x (fun v st=>∃ b,v = .bool b∧Q b st) Xc st:=by
  rw [w_andC] at h
  have e:(fun v st=>∃ b,v=V.bool b∧(b=true→wpAnd Γ [] Q Xc st)∧(b=false→Q false st))=(fun v st=>∃ b,v=V.bool b∧Q b st):=by
    funext v st
    refine propext ⟨fun ⟨b,h1,h2,h3⟩=>⟨b,h1,by cases b <;> first | exact h2 rfl | exact h3 rfl⟩,fun ⟨b,h1,h2⟩=>⟨b,h1,fun q=>(q ▸ h2:Q true st),fun q=>q ▸ h2⟩⟩
  rw [e] at h
  exact h
theorem wpOr_one {x:X} {Q:Bool→St→Prop} {Xc:Exc} {st:St} (h:wpOr Γ [x] Q Xc st):wpX Γ x (fun v st=>∃ b,v = .bool b∧Q b st) Xc st:=by
  rw [w_orC] at h
  have e:(fun v st=>∃ b,v=V.bool b∧(b=false→wpOr Γ [] Q Xc st)∧(b=true→Q true st))=(fun v st=>∃ b,v=V.bool b∧Q b st):=by
    funext v st
    refine propext ⟨fun ⟨b,h1,h2,h3⟩=>⟨b,h1,by cases b <;> first | exact h2 rfl | exact h3 rfl⟩,fun ⟨b,h1,h2⟩=>⟨b,h1,fun q=>(q ▸ h2:Q false st),fun q=>q ▸ h2⟩⟩
  rw [e] at h
  exact h
theorem snd_and {pos} {es:List Expr}:∀ {e:Expr} {xs:List X},SndL Γ sc H (e :: es) xs→Snd Γ sc H (.BoolOp .And (e :: es) pos) (.andE xs):=by
  induction es with
  | nil=>
    intro e xs h
    cases h with | cons hh hs=>
    cases hs
    obtain ⟨h1,_,_⟩:=hh
    intro f env A s G la st Q Xc QC EC E0 hΓ hq R hw K KE
    rw [w_andE] at hw
    refine (show wpG _ _ (eval e env) _ _ _ from ?_)
    refine h1 E0 hΓ (quiets_cons hq).1 R (wpAnd_one hw) (fun G1 b1 st1 v1 V1 hp1 tk1 g1 R1 r1 hw1=>?_) KE
    obtain ⟨b,rfl,hw1⟩:=hw1
    exact K G1 b1 st1 v1 _ hp1 tk1 g1 R1 r1 hw1
  | cons e' es ih=>
    intro e xs h
    cases h with | cons hh hs=>
    obtain ⟨h1,_,_⟩:=hh
    intro f env A s G la st Q Xc QC EC E0 hΓ hq R hw K KE
    rw [w_andE,w_andC] at hw
    obtain ⟨q1,q2⟩:=quiets_cons hq
    refine g_and ?_
    refine h1 E0 hΓ q1 R hw (fun G1 b1 st1 v1 V1 hp1 tk1 g1 R1 r1 hw1=>?_) KE
    obtain ⟨b,rfl,k1,k2⟩:=hw1
    cases r1
    refine g_truthBool ?_
    cases b with
    | true=>
      exact ih hs (Q:=Q) E0 hΓ q2 R1 (k1 rfl) (fun G2 b2 st2 v2 V2 hp2 tk2 g2 R2 r2 hw2=>K G2 b2 st2 v2 V2 hp2 tk2 (g1.trans g2) R2 r2 hw2) (fun G' st' e m h' tk'=>KE G' st' e m h' tk')
    | false=>exact K G1 b1 st1 _ _ hp1 tk1 g1 R1 (.bool false) (k2 rfl)
theorem snd_or {pos} {es:List Expr}:∀ {e:Expr} {xs:List X},SndL Γ sc H (e :: es) xs→Snd Γ sc H (.BoolOp .Or (e :: es) pos) (.orE xs):=by
  induction es with
  | nil=>
    intro e xs h
    cases h with | cons hh hs=>
    cases hs
    obtain ⟨h1,_,_⟩:=hh
    intro f env A s G la st Q Xc QC EC E0 hΓ hq R hw K KE
    rw [w_orE] at hw
    refine (show wpG _ _ (eval e env) _ _ _ from ?_)
    refine h1 E0 hΓ (quiets_cons hq).1 R (wpOr_one hw) (fun G1 b1 st1 v1 V1 hp1 tk1 g1 R1 r1 hw1=>?_) KE
    obtain ⟨b,rfl,hw1⟩:=hw1
    exact K G1 b1 st1 v1 _ hp1 tk1 g1 R1 r1 hw1
  | cons e' es ih=>
    intro e xs h
    cases h with | cons hh hs=>
    obtain ⟨h1,_,_⟩:=hh
    intro f env A s G la st Q Xc QC EC E0 hΓ hq R hw K KE
    rw [w_orE,w_orC] at hw
    obtain ⟨q1,q2⟩:=quiets_cons hq
    refine g_or ?_
    refine h1 E0 hΓ q1 R hw (fun G1 b1 st1 v1 V1 hp1 tk1 g1 R1 r1 hw1=>?_) KE
    obtain ⟨b,rfl,k1,k2⟩:=hw1
    cases r1
    refine g_truthBool ?_
    cases b with
    | false=>
      exact ih hs (Q:=Q) E0 hΓ q2 R1 (k1 rfl) (fun G2 b2 st2 v2 V2 hp2 tk2 g2 R2 r2 hw2=>K G2 b2 st2 v2 V2 hp2 tk2 (g1.trans g2) R2 r2 hw2) (fun G' st' e m h' tk'=>KE G' st' e m h' tk')
    | true=>exact K G1 b1 st1 _ _ hp1 tk1 g1 R1 (.bool true) (k2 rfl)
end
noncomputable abbrev clsL:List Addr:=[465,262,53,87]
theorem attr_all (P:Params):(flds.all fun n=>clsL.all fun C=>findIn (KF P) (.ref C) (Str.ofString n) == some none)=true:=by kernel_rfl
noncomputable abbrev clsP:List Addr:=[465,262,53]
theorem cls_all (P:Params):(clsP.all fun C=>plainGet (KF P) C ⟨#[]⟩ && hasDictIn (KF P) C)=true:=by kernel_rfl
theorem attr_none (P:Params) {n:String} {C:Addr} (hn:n∈flds) (hC:C∈clsL):findIn (KF P) (.ref C) (Str.ofString n)=some none:=
  beq_iff_eq.mp (List.all_eq_true.mp (List.all_eq_true.mp (attr_all P) n hn) C hC)
theorem cls_facts (P:Params) {C:Addr} (hC:C∈clsP):(findIn (KF P) (.ref C) "__getattribute__" = some (some (.builtin "object.__getattribute__"))∧findIn (KF P) (.ref C) "__getattr__" = some none)∧hasDictIn (KF P) C=true:=by
  obtain ⟨h1,h2⟩:=Bool.and_eq_true_iff.mp (List.all_eq_true.mp (cls_all P) C hC)
  exact ⟨plainGet_of h1,h2⟩
section
variable {w:World} {A:Around} {E:Value→Shared→Prop} {s:Shared} {P:Params} {G:Froz} {la:LA}
theorem get_attr {x d C:Addr} {dat:Data} {sl:Array (Option Value)} {es:List DictEntry} {k:Nat} {n:String} {v:Value} {Q:Value→Shared→Prop} (X:(KF P).In s.heap) (hx:s.heap.get? x=some ⟨.ref C,some d,dat,sl⟩) (hnc:notCls ⟨.ref C,some d,dat,sl⟩=true)
    (hd:s.heap.get? d=some (dictOf es k)) (hC:C∈clsP) (hn:n∈flds) (hl:getL (Str.ofString n) es=some (some v)) (hh:handedIn v=true) (h:Q v { s with toks:=s.toks+1 }):wpAny (model pw w) A (getAttr (.ref x) (Str.ofString n) true) Q E s:=
  have F:=cls_facts P hC
  get_value X (od:=some (dictOf es k)) ⟨hx,rfl,hnc,hd⟩ F.1.1 (findObj_own F.2 (attr_none P hn (List.mem_append_left [87] hC)) rfl (by rw [lookIn_dict]; exact hl)) hh h
theorem lse_get (P:Params):findIn (KF P) (.ref aLSE) "__getattribute__" = some (some (.builtin "BaseException.__getattribute__"))∧findIn (KF P) (.ref aLSE) "__getattr__" = some none∧hasDictIn (KF P) aLSE=true∧mroIn (KF P) aLSE (.type "BaseException")=some true:=⟨by kernel_rfl,by kernel_rfl,by kernel_rfl,by kernel_rfl⟩
theorem ga_slot:builtinKind "BaseException.__getattribute__" = some .slot∧splitId "BaseException.__getattribute__" = some ("BaseException","__getattribute__")∧plainId "BaseException.__getattribute__" = true:=⟨by decide +kernel,by decide +kernel,by decide +kernel⟩
theorem ga_bind (self:Value):bindSpecial (.builtin "BaseException.__getattribute__") self=pure (.builtin "BaseException.__getattribute__",[self]):=by
  have e:typeOf (.builtin "BaseException.__getattribute__")=pure (.type "wrapper_descriptor"):=by
    show builtinType _=_
    rw [builtinType_eq_fast]
    kernel_rfl
  unfold bindSpecial
  rw [e]
  rfl
theorem get_exc {x d:Addr} {vs:Array Value} {sl:Array (Option Value)} {es:List DictEntry} {k:Nat} {v:Value} {Q:Value→Shared→Prop} (X:(KF w.params).In s.heap) (hx:s.heap.get? x=some ⟨.ref aLSE,some d,.fields vs,sl⟩)
    (hd:s.heap.get? d=some (dictOf es k)) (hl:getL "value" es=some (some v)) (hv:handedIn v=true) (h:Q v { s with toks:=s.toks+1 }):wpAny (model pw w) A (getAttr (.ref x) "value" true) Q E s:=by
  obtain ⟨f1,f2,f3,f4⟩:=lse_get w.params
  have I:InstAt s.heap x ⟨.ref aLSE,some d,.fields vs,sl⟩ aLSE (some (dictOf es k)):=⟨hx,rfl,rfl,hd⟩
  have t1:Looks (model pw w) s.heap (typeOf (.ref x)) (.ref aLSE):=I.type
  have L1:=looks_find (M:=model pw w) X I (findObj_own (name:="value") f3 (attr_none w.params (n:="value") (by decide) (C:=87) (by decide)) rfl (by rw [lookIn_dict]; exact hl))
  have sub:Looks (model pw w) s.heap (isInstance (.ref x) (.type "BaseException")) true:=t1.andThen (looks_mroIn X f4)
  unfold getAttr getAttrBy
  refine wpAny_bind (wpAny_mkText (wpAny_holding (wpAny_bind (t1.at (wpAny_bind ((looks_findIn X f1).at ?_))))))
  refine bm_if_false (by decide +kernel) ?_
  unfold getAttrByItsOwn hookBefore
  refine wpAny_bind (wpAny_ite ?_)
  rw [if_pos (by decide)]
  refine (looks_findIn X f2).at ?_
  refine wpAny_bind (wpAny_attempt (wpAny_holding ?_))
  unfold callGetattribute
  refine bm_if_false (by decide +kernel) ?_
  unfold boundAndCalled
  rw [ga_bind]
  refine wpAny_bind (wpAny_pure ?_)
  refine wpAny_call ?_
  refine codeAny_call_builtin ga_slot.2.2 F.entry_bexc_ga (@check_slot (model pw w) _ _ { s with toks:=s.toks+1 } "BaseException.__getattribute__" "BaseException" "__getattribute__" (.ref x) [.str "value" s.toks] [] _ ga_slot.1 ga_slot.2.1 sub (F.args_bexc_ga _ _) ?_)
  show wpAny _ _ (Builtin.«object.__getattribute__» ⟨[.ref x,.str "value" s.toks],[]⟩) _ _ _
  unfold Builtin.«object.__getattribute__»
  refine wpAny_bind (wpAny_of_eq (a:=(.ref x,[.str "value" s.toks])) rfl ?_)
  refine wpAny_bind (wpAny_of_eq (a:=Str.ofString "value") rfl ?_)
  refine wpAny_bind (t1.at ?_)
  refine wpAny_bind (L1.at ?_)
  refine wpAny_pure ?_
  show wpAny _ _ (handedOut v) _ _ _
  rw [handedOut_of hv]
  exact wpAny_pure h
theorem rel_val {n:String} {U:V} {e:DictEntry} (r:FldRel P G la (n,U) e):handedIn e.val=true∧(U = .bufref→e.val = .ref la.b)∧(U ≠ .bufref→Rep P G la.a U e.val):=by
  obtain ⟨_,r⟩:=r
  by_cases q:U = .bufref
  · subst q
    have r:e.val = .ref la.b:=r
    exact ⟨by rw [r]; rfl,fun ω=>r,fun h=>absurd rfl h⟩
  · have r:Rep P G la.a U e.val:=by cases U <;> first | exact r | exact absurd rfl q
    exact ⟨r.handed,fun h=>absurd h q,fun ω=>r⟩
theorem getL_hit {n:Str} {e:DictEntry} {es:List DictEntry} (h:e.key.isStr n=true):getL n (e :: es)=some (some e.val):=by
  unfold getL
  rw [List.find?_cons_of_pos (by exact h)]
theorem getL_miss {n:Str} {e:DictEntry} {es:List DictEntry} {v:Value} (h:e.key.isStr n=false) (h1:getL n es=some (some v)):getL n (e :: es)=some (some v):=by
  unfold getL at h1 ⊢
  rw [List.find?_cons_of_neg (by rw [h]; decide)]
  cases he:List.find? (fun x=>x.key.isStr n) es with
  | some e'=>rw [he] at h1; exact h1
  | none=>
    rw [he] at h1
    by_cases q:es.any (·.refKey)=true
    · rw [if_pos q] at h1; cases h1
    · rw [if_neg q] at h1; cases h1
theorem fld_get {n:String} {fs:List (String × V)} {es:List DictEntry} (h:All2 (FldRel P G la) fs es) {V:Mine.V} (hg:getF n fs=some V):∃ v,getL (Str.ofString n) es=some (some v)∧handedIn v=true∧(V = .bufref→v = .ref la.b)∧(V ≠ .bufref→Rep P G la.a V v):=by
  induction h with
  | nil=>cases hg
  | @cons p e fs es hh hs ih=>
    obtain ⟨m,U⟩:=p
    have r:=rel_val hh
    obtain ⟨⟨t,hk⟩,_⟩:=hh
    have hs:e.key.isStr (Str.ofString n)=(Str.ofString m == Str.ofString n):=by rw [hk]; rfl
    have hg:(if m=n then some U else getF n fs)=some V:=hg
    by_cases q:m=n
    · subst q
      rw [if_pos rfl] at hg
      cases hg
      exact ⟨e.val,getL_hit (by rw [hs]; exact beq_self_eq_true _),r⟩
    · rw [if_neg q] at hg
      obtain ⟨v,h1,h2⟩:=ih hg
      exact ⟨v,getL_miss (by rw [hs]; exact beq_eq_false_iff_ne.mpr fun e=>q (ofString_inj e)) h1,h2⟩
end
def AttrB (value:Expr):Prop:=∀ (attr:Str) (pos:Pos) (env:Env),eval (.Attribute value attr pos) env=(do
      let o ← eval value env
      standAt pos.atName
      let r ← holding [o] (getAttr o attr true)
      letTemporaryGo value o r
      pure r)
theorem abN {x:Str} {p:Pos}:AttrB (.Name x p):=fun ω ω ω=>by with_unfolding_all rfl
theorem abA {e:Expr} {x:Str} {p:Pos}:AttrB (.Attribute e x p):=fun ω ω ω=>by with_unfolding_all rfl
theorem abM {e:Expr} {x:Str} {p q:Pos} {es:List Expr} {ks:List Keyword}:AttrB (.Call (.Attribute e x q) es ks p):=fun ω ω ω=>by with_unfolding_all rfl
section
variable {Γ:Specs} {sc:Scope} {H:Nat} {e:Expr} {x:X}
theorem attr_lex {n:String} {l:Lex} {r:V} (h:attrV .lex n (some l)=some r):getF n l.fs=some r∧r ≠ .bufref:=by
  have h:(match getF n l.fs with
    | some .bufref=>none
    | r=>r)=some r:=h
  cases e:getF n l.fs with
  | none=>rw [e] at h; cases h
  | some w=>
    rw [e] at h
    clear e
    cases w <;> first | exact nS h | (cases h; exact ⟨rfl,fun q=>nomatch q⟩)
theorem two_if {α:Type} {n x y:String} {a b r:α} (h:(if n=x then some a else if n=y then some b else none)=some r):(n=x∧r=a)∨(n=y∧r=b):=by
  rcases Classical.em (n=x) with q | q
  · rw [if_pos q] at h; cases h; exact .inl ⟨q,rfl⟩
  · rw [if_neg q] at h
    rcases Classical.em (n=y) with q | q
    · rw [if_pos q] at h; cases h; exact .inr ⟨q,rfl⟩
    · rw [if_neg q] at h; cases h
theorem attr_ok {f:FR} {A:Around} {s:Shared} {EC:Value→Shared→Prop} {G:Froz} {la:LA} {st:St} {n:String} {V r:Mine.V} {v:Value} {QC:Value→Shared→Prop} (c:f.c.Ok) (R:Rel f G la st s.heap) (hn:n∈flds) (rv:Rep f.c.P G la.a V v) (h:attrV V n st.lx=some r)
    (k:∀ v,Rep f.c.P G la.a r v→QC v { s with toks:=s.toks+1 }):wpAny f.c.M A (getAttr v (Str.ofString n) true) QC EC s:=by
  have X:=Rel.kIn c R.base
  cases rv with
  | lex _=>
    cases hlx:st.lx with
    | none=>rw [hlx] at h; cases h
    | some l=>
      rw [hlx] at h
      have rl:=R.lex
      rw [hlx] at rl
      have rl:LexRel f G s.heap la l:=rl
      obtain ⟨es,k',e1,e2⟩:=rl.dict
      obtain ⟨h,hne⟩:=attr_lex h
      refine bC fun ng=>?_;obtain ⟨u,h1,h2,h3,h4⟩:=fld_get e2 h;refine ng ?_;clear ng
      exact get_attr X (R.base.gh _ _ rl.inst) rfl e1 (.head _) hn h1 h2 (k u (h4 hne))
  | tok g1 g2 g3 g4 r'=>
    rcases two_if h with ⟨rfl,rfl⟩ | ⟨rfl,rfl⟩
    · exact get_attr X (R.base.gh _ _ g1) rfl (R.base.gh _ _ g2) (.tail _ (.head _)) hn g3 rfl (k _ (.int _ _))
    · exact get_attr X (R.base.gh _ _ g1) rfl (R.base.gh _ _ g2) (.tail _ (.head _)) hn g4 r'.handed (k _ r')
  | lims g1 g2 g3 g4=>
    rcases two_if h with ⟨rfl,rfl⟩ | ⟨rfl,rfl⟩
    · exact get_attr X (R.base.gh _ _ g1) rfl (R.base.gh _ _ g2) (.tail _ (.tail _ (.head _))) hn g3 rfl (k _ (.int _ _))
    · exact get_attr X (R.base.gh _ _ g1) rfl (R.base.gh _ _ g2) (.tail _ (.tail _ (.head _))) hn g4 rfl (k _ (.int _ _))
  | exc g1 g2 g3=>
    rcases Classical.em (n = "value") with q | q
    · have h:=(if_pos q).symm.trans h
      cases h
      subst q
      exact get_exc X (R.base.gh _ _ g1) (R.base.gh _ _ g2) g3 rfl (k _ (.byt _ _))
    · exact nomatch ((if_neg q).symm.trans h:Option.none=some r)
  | _=>exact nS h
theorem Rel.tok {f:FR} {G:Froz} {la:LA} {st:St} {s:Shared} (R:Rel f G la st s.heap) (t:Nat):Rel f G la st ({ s with toks:=t }:Shared).heap:=R
theorem g_Attr {w:World} {A:Around} {E:Value→Shared→Prop} {s:Shared} {env:Env} {value:Expr} {attr:Str} {pos:Pos} {Q:Value→Shared→Prop} (h:wpG (model pw w) A (eval value env) (fun o s₁=>wpAny (model pw w) A (getAttr o attr true) Q E s₁) E s) (hb:AttrB value) :
    wpG (model pw w) A (eval (.Attribute value attr pos) env) Q E s:=by
  rw [hb attr pos env]
  exact wpG_then h fun o s₁ h₁=>leaf (wpAny_standAt (leaf (wpAny_holding (wpAny_mono h₁ (fun r s₂ h₂=>leaf (wpAny_letTemporaryGo (wpG_pure h₂))) fun ω ω x=>x))))
theorem snd_fld {e:Expr} {n:String} {pos} {x:X} (he:Snd Γ sc H e x) (hb:AttrB e) (hn:n∈flds):Snd Γ sc H (.Attribute e (Str.ofString n) pos) (.fld x n):=by
  intro f env A s G la st Q Xc QC EC E0 hΓ hq R hw K KE
  rw [w_fld] at hw
  refine g_Attr ?_ hb
  refine he E0 hΓ hq R hw (fun G1 b1 st1 v1 V1 hp1 tk1 g1 R1 r1 hw1=>?_) KE
  obtain ⟨r,hr,hw1⟩:=hw1
  exact attr_ok E0.c R1 hn r1 hr fun v rv=>K G1 b1 st1 v r hp1 _ g1 R1 rv hw1
set_option tactic.hygienic true in
theorem sub_ops (slice:Expr) (o i:Value):∃ ops,subscripted slice false o i=operate ops (getItem o i):=by
  cases slice <;> first | exact ⟨_,rfl⟩ | (rename_i c _; cases c <;> exact ⟨_,rfl⟩)
theorem getL_of {P:Params} {G:Froz} {a:Addr} {xs:List V} {vs:List Value} (h:Reps P G a xs vs) {i:Nat} (hi:i < xs.length):∃ v,vs.toArray[i]? = some v∧Rep P G a (xs.getD i .none) v:=by
  induction xs generalizing vs i with
  | nil=>exact absurd hi (Nat.not_lt_zero _)
  | cons x xs ih=>
    cases h with | cons r rs=>
    cases i with
    | zero=>exact ⟨_,rfl,r⟩
    | succ i=>
      obtain ⟨v,h1,h2⟩:=ih rs (Nat.lt_of_succ_lt_succ hi)
      exact ⟨v,by simpa using h1,h2⟩
theorem idx_inv {u v:V} {Q:V→Prop} (h:idxV u v Q):∃ k,v = .int k∧((∃ l,u = .byt l∧l.length≤1099511627776∧0≤k∧k < l.length∧Q (.int (l.getD k.toNat 0).toNat))∨
    (∃ vs,u = .tup vs∧0≤k∧k < vs.length∧vs.length < 1000∧Q (vs.getD k.toNat .none))∨∃ vs,u = .lst vs∧0≤k∧k < vs.length∧vs.length < 1000000∧Q (vs.getD k.toNat .none)):=by
  cases u <;> first
    | exact False.elim h
    | (cases v <;> first | exact False.elim h | exact ⟨_,rfl,.inl ⟨_,rfl,h⟩⟩ | exact ⟨_,rfl,.inr (.inl ⟨_,rfl,h⟩)⟩ | exact ⟨_,rfl,.inr (.inr ⟨_,rfl,h⟩)⟩)
theorem snd_idx {e i:Expr} {pos} {xe xi:X} (he:Snd Γ sc H e xe) (hi:Snd Γ sc H i xi):Snd Γ sc H (.Subscript e i pos) (.idx xe xi):=by
  intro f env A s G la st Q Xc QC EC E0 hΓ hq R hw K KE
  rw [w_idx] at hw
  obtain ⟨q1,q2⟩:=quiet2 hq
  refine g_Subscript ?_
  refine he E0 hΓ q1 R hw (fun G1 b1 st1 v1 V1 hp1 tk1 g1 R1 r1 hw1=>?_) KE
  refine hi E0 hΓ q2 R1 hw1 (fun G2 b2 st2 v2 V2 hp2 tk2 g2 R2 r2 hw2=>?_) (fun G' st' e m h' tk'=>KE G' st' e m h' tk')
  replace r1:=Rep.mono g2.mono r1
  replace K:=fun v V tk=>K G2 b2 st2 v V hp2 tk (g1.trans g2) R2
  obtain ⟨ops,hops⟩:=sub_ops i v1 v2
  refine wpG_of ?_
  clear hw E0 hΓ hq R KE R1 g1 g2 he hi
  obtain ⟨k,rfl,⟨l,rfl,hz,h0,h1,hQ⟩ | ⟨us,rfl,h0,h1,hz,hQ⟩ | ⟨us,rfl,h0,h1,hz,hQ⟩⟩:=idx_inv hw2
  · obtain ⟨_,rfl⟩:=rByt r1; obtain ⟨_,rfl⟩:=rInt r2
    exact tail_any (typeIs_bytes _ _ _) FB.slot_bytes_getitem.lookup (getItem_bytes hz h0 h1 (K _ _ _ (.int _ _) hQ)) hops
  · obtain ⟨_,rfl⟩:=rInt r2
    refine bC fun ng=>?_;obtain ⟨_,_,rfl,h,rs⟩:=rTup r1;refine ng ?_;clear ng
    obtain ⟨v,hv,rv⟩:=getL_of rs (i:=k.toNat) (by omega)
    have ho:=R2.base.gh _ _ h
    have hl:=reps_len rs
    refine tail_any (T:="tuple") ⟨_,ho,rfl⟩ F.slot_tuple_getitem.lookup ?_ hops
    refine PyProof.Rows.getItem_tuple (j:=k.toNat) ⟨_,ho,rfl,_,rfl⟩ (by omega) (by omega) ?_ hv (K _ _ _ rv hQ)
    exact seqIndex_of h0 (by rw [List.size_toArray,← hl]; exact h1)
  · obtain ⟨_,rfl⟩:=rInt r2
    refine bC fun ng=>?_;obtain ⟨_,_,_,rfl,h,rs⟩:=rLst r1;refine ng ?_;clear ng
    obtain ⟨v,hv,rv⟩:=getL_of rs (i:=k.toNat) (by omega)
    have ho:=R2.base.gh _ _ h
    exact tail_any (T:="list") ⟨_,ho,rfl⟩ F.slot_list_getitem.lookup (wpAny_getItem_list ⟨_,ho,rfl,_,rfl⟩ h0 (by omega) hv (K _ _ _ rv hQ)) hops
theorem clip0 (n:Nat):clip n 0=0:=by
  unfold clip clipAt
  rw [if_neg (Int.lt_irrefl 0),Int.min_eq_left (Int.natCast_nonneg n)]
  rfl
theorem clipn (n:Nat):clip n n=n:=by
  unfold clip clipAt
  rw [if_neg (Int.not_lt.mpr (Int.natCast_nonneg n)),Int.min_eq_left (Int.le_refl _),Int.max_eq_right (Int.natCast_nonneg n)]
  exact Int.toNat_natCast n
theorem cut_eq (l:List UInt8) (lo hi:Option Int):KBy.picked l.toArray lo hi=(cutV l (lo.elim 0 id) (hi.elim l.length id)).toArray:=by
  rw [KBc.picked_eq]
  have hl:lo.elim 0 (clipAt l.toArray.size)=clip l.length (lo.elim 0 id):=by
    cases lo with
    | none=>exact (clip0 _).symm
    | some i=>rfl
  have hh:hi.elim l.toArray.size (clipAt l.toArray.size)=clip l.length (hi.elim l.length id):=by
    cases hi with
    | none=>exact (clipn _).symm
    | some i=>rfl
  rw [hl,hh]
  unfold cutV
  rw [List.drop_take]
theorem slice_tail {w:World} {A:Around} {E:Value→Shared→Prop} {s:Shared} {value slice:Expr} {b:List UInt8} {t:Tok} {l u:Value} {lo hi:Option Int} {Q:Value→Shared→Prop} (hl:IsPart l lo) (hu:IsPart u hi) (hz:b.length≤16777216)
    (h:∀ t' k,Q (.bytes (cutV b (lo.elim 0 id) (hi.elim b.length id)).toArray t') { s with heap:=s.heap.push { cls:=.type "slice",data:=.fields #[l,u,.none] },toks:=k }) :
    wpAny (model pw w) A (subscriptTail value slice (.bytes b.toArray t) (.ref s.heap.objs.size)) Q E { s with heap:=s.heap.push { cls:=.type "slice",data:=.fields #[l,u,.none] } }:=by
  obtain ⟨ops,hops⟩:=sub_ops slice (.bytes b.toArray t) (.ref s.heap.objs.size)
  refine tail_any (typeIs_bytes _ _ _) FB.slot_bytes_getitem.lookup (getItem_meets (typeIs_bytes _ _ _) (by decide) FB.slot_bytes_getitem FB.entry_bytes_getitem (FB.args_bytes_getitem_2 _ _) (KBc.meets_slice2 b.toArray t _ hl hu)
    ⟨Heap.IsSliceOf.new _ _ _ _,?_,fun t' k=>?_⟩) hops
  · refine Nat.le_trans (KBc.size_picked_le _ lo hi) ?_
    rw [List.size_toArray,sizeLine_eq]
    exact hz
  · rw [cut_eq]
    exact h t' k
theorem snd_slA {e i:Expr} {pos p} {xe xi:X} (he:Snd Γ sc H e xe) (hi:Snd Γ sc H i xi):Snd Γ sc H (.Subscript e (.Slice none (some i) none p) pos) (.slA xe xi):=by
  intro f env A s G la st Q Xc QC EC E0 hΓ hq R hw K KE
  rw [w_slA] at hw
  have hq:A.handled=none:=hq.resolve_left (fun e=>Bool.noConfusion (show false=true from e))
  refine g_Subscript ?_
  refine he E0 hΓ (.inr hq) R hw (fun G1 b1 st1 v1 V1 hp1 tk1 g1 R1 r1 hw1=>?_) KE
  refine g_Slice (wpG_pure ?_)
  refine hi E0 hΓ (.inr hq) R1 hw1 (fun G2 b2 st2 v2 V2 hp2 tk2 g2 R2 r2 hw2=>?_) (fun G' st' e m h' tk'=>KE G' st' e m h' tk')
  refine wpG_pure ?_
  refine bC fun ng=>?_;obtain ⟨l,h,rfl,rfl,hz,hb,hQ⟩:=hw2;refine ng ?_;clear ng
  cases r1; cases r2
  exact wpG_of (slice_tail .none (.int _ _) hz fun t' k=>K G2 b2 st2 _ _ _ k ((g1.trans g2).trans (.push _ _)) (R2.push _) (.byt _ _) hQ)
theorem snd_slC {e i j:Expr} {pos p} {xe xi xj:X} (he:Snd Γ sc H e xe) (hi:Snd Γ sc H i xi) (hj:Snd Γ sc H j xj):Snd Γ sc H (.Subscript e (.Slice (some i) (some j) none p) pos) (.slC xe xi xj):=by
  intro f env A s G la st Q Xc QC EC E0 hΓ hq R hw K KE
  rw [w_slC] at hw
  have hq:A.handled=none:=hq.resolve_left (fun e=>Bool.noConfusion (show false=true from e))
  refine g_Subscript ?_
  refine he E0 hΓ (.inr hq) R hw (fun G1 b1 st1 v1 V1 hp1 tk1 g1 R1 r1 hw1=>?_) KE
  refine g_Slice ?_
  refine hi E0 hΓ (.inr hq) R1 hw1 (fun G2 b2 st2 v2 V2 hp2 tk2 g2 R2 r2 hw2=>?_) (fun G' st' e m h' tk'=>KE G' st' e m h' tk')
  refine hj E0 hΓ (.inr hq) R2 hw2 (fun G3 b3 st3 v3 V3 hp3 tk3 g3 R3 r3 hw3=>?_) (fun G' st' e m h' tk'=>KE G' st' e m h' tk')
  refine wpG_pure ?_
  refine bC fun ng=>?_;obtain ⟨l,k,h,rfl,rfl,rfl,hz,hb,hc,hQ⟩:=hw3;refine ng ?_;clear ng
  cases r1; cases r2; cases r3
  exact wpG_of (slice_tail (.int _ _) (.int _ _) hz fun t' k=>K G3 b3 st3 _ _ _ k (((g1.trans g2).trans g3).trans (.push _ _)) (R3.push _) (.byt _ _) hQ)
end
section
variable {Γ:Specs} {sc:Scope} {H:Nat} {e:Expr} {x:X}
theorem Base.keeps {f:FR} {G:Froz} {h:Heap} (R:Base f G h):∀ b o,f.c.B.get? b=some o→h.get? b=some o:=fun b o e=>R.gh b o (R.bg b o e)
theorem Base.ns {f:FR} {G:Froz} {h:Heap} (R:Base f G h) {a:Addr} {m:Str→Option Value} (hn:f.c.B.Ns a m):h.Ns a m:=by
  obtain ⟨o,es,ep,ho,r⟩:=hn
  exact ⟨o,es,ep,R.keeps _ _ ho,r⟩
theorem load_glob {f:FR} {env:Env} {A:Around} {s:Shared} {EC:Value→Shared→Prop} {G:Froz} {x:Str} {v:Value} {pos:Pos} {QC:Value→Shared→Prop} (E0:Env0 f sc env A H) (R:Base f G s.heap) (hk:sc.names.lookup x=some .globalImplicit) (hd:(x == ("__debug__" : Str))=false)
    (hv:f.c.mg x=some v) (h:QC v s):wpAny f.c.M A (eval (.Name x pos) env) QC EC s:=by
  refine wpAny_Name ?_ hd
  have kk:env.scope.kind = .function:=by rw [E0.scope]; exact E0.kind
  have ko:env.kindOf x=some .globalImplicit:=by unfold Env.kindOf; rw [E0.scope]; exact hk
  have kb:env.blockKind = .function:=by unfold Env.blockKind; rw [kk]; rfl
  unfold loadName
  rw [kb,ko,kk]
  refine bm_if_false rfl ?_
  exact loadGlobal_global (by rw [E0.gl]; exact R.ns E0.c.g) hv h
theorem load_bi {f:FR} {env:Env} {A:Around} {s:Shared} {EC:Value→Shared→Prop} {G:Froz} {x:Str} {v:Value} {pos:Pos} {QC:Value→Shared→Prop} (E0:Env0 f sc env A H) (R:Base f G s.heap) (hk:sc.names.lookup x=some .globalImplicit) (hd:(x == ("__debug__" : Str))=false)
    (hg:f.c.mg x=none) (hv:f.c.mb x=some v) (h:QC v s):wpAny f.c.M A (eval (.Name x pos) env) QC EC s:=by
  refine wpAny_Name ?_ hd
  have kk:env.scope.kind = .function:=by rw [E0.scope]; exact E0.kind
  have ko:env.kindOf x=some .globalImplicit:=by unfold Env.kindOf; rw [E0.scope]; exact hk
  have kb:env.blockKind = .function:=by unfold Env.blockKind; rw [kk]; rfl
  unfold loadName
  rw [kb,ko,kk]
  refine bm_if_false rfl ?_
  exact loadGlobal_builtin (by rw [E0.gl]; exact R.ns E0.c.g) hg (by rw [E0.bi]; exact R.ns E0.c.b) hv h
noncomputable def GRep (x:Str) (V:V):Prop:=∀ (c:Cx) (G:Froz) (a:Addr),c.Ok→(∀ b o,c.B.get? b=some o→G b=some o)→∃ v,c.mg x=some v∧Rep c.P G a V v
theorem snd_glob {x:Str} {V:V} {pos} (hk:sc.names.lookup x=some .globalImplicit) (hd:(x == ("__debug__" : Str))=false) (hg:GRep x V):Snd Γ sc H (.Name x pos) (.cst V):=by
  intro f env A s G la st Q Xc QC EC E0 hΓ hq R hw K KE
  rw [w_cst] at hw
  obtain ⟨v,hv,rv⟩:=hg f.c G la.a E0.c R.base.bg
  exact wpG_of (load_glob E0 R.base hk hd hv (K G la.b st v V s.heap s.toks (.refl ..) R rv hw))
theorem plain_any {pos:Pos} {env:Env} {es:List Expr} {xs:List X} (h:SndL Γ sc H es xs):(backTo pos (starEach es env)).any (·.1)=false:=by
  induction h with
  | nil=>rfl
  | cons hh hs ih=>
    rw [hh.2.2 env]
    show (false || (backTo pos (starEach _ env)).any (·.1))=false
    rw [ih]; rfl
theorem args_K {f:FR} {env:Env} {A:Around} {s:Shared} {G:Froz} {la:LA} {st:St} {Q:List V→St→Prop} {Xc:Exc} {QC EC:Value→Shared→Prop} {pos:Pos} {es:List Expr} {xs:List X} {fv:Value} {first:List Value} (hs:SndL Γ sc H es xs)
    (E0:Env0 f sc env A H) (hΓ:ΓOK Γ H) (hq:A.handled=none) (R:Rel f G la st s.heap) (hw:wpXs Γ xs Q Xc st) (hk:keepIn (KF f.c.P) fv=true)
    (K:KXs f la s G Q fun vs s₁=>wpG f.c.M A (call fv (first++vs)) QC EC s₁) (KE:KE f la s Xc EC):wpG f.c.M A (callWith pos fv first (backTo pos (starEach es env)) []) QC EC s:=by
  cases hs with
  | nil=>
    exact g_callK0 (Rel.kIn E0.c R.base) hk (K G la.b st [] [] s.heap s.toks (.refl ..) R .nil hw)
  | cons hh hs=>
    refine g_callK hk ?_ (hh.2.2 env _) (plain_any hs)
    refine sndL_spliced (.cons hh hs) E0 hΓ (.inr hq) R hw (fun G1 b1 st1 v1 V1 hp1 tk1 g1 R1 r1 hw1=>?_) KE
    exact ⟨Rel.kIn E0.c R1.base,K G1 b1 st1 v1 V1 hp1 tk1 g1 R1 r1 hw1⟩
theorem call_fn {f:FR} {env:Env} {A:Around} {s:Shared} {G:Froz} {la:LA} {st:St} {fa:Addr} {vs:List V} {vals:List Value} {Q:Post} {Xc:Exc} {QC EC:Value→Shared→Prop} (E0:Env0 f sc env A H) (hΓ:ΓOK Γ H) (hq:A.handled=none) (R:Rel f G la st s.heap) (r:Reps f.c.P G la.a vs vals)
    (hw:Γ fa vs st.lx (fun v lx=>Q v { st with lx:=lx }) (fun m=>Xc m { st with lx:=none })) (K:KX f la s G Q QC) (KE:KE f la s Xc EC):wpG f.c.M A (call (.ref fa) vals) QC EC s:=by
  obtain ⟨n,hn,ok⟩:=hΓ fa
  have hd:=E0.depth
  have hu:=E0.units
  refine ok E0.c R.base R.lex E0.frames E0.guards (by omega) (by omega) hq r hw (fun G' b' lx' v V h' tk' S g B L rv q=>?_) fun G' e m h' tk' S g B ex q=>?_
  · exact K G' b' _ v V h' tk' (R.extB S g) (R.back S g B L) rv q
  · exact KE G' _ e m h' tk' (R.backE S g B ex) q
theorem snd_call {x:Str} {fa:Addr} {xp pos:Pos} {es:List Expr} {xs:List X} (hk:sc.names.lookup x=some .globalImplicit) (hd:(x == ("__debug__" : Str))=false) (hg:∀ P,nsIn (KF P) mainGlobals x=some (some (.ref fa))) (hf:∀ P,keepIn (KF P) (.ref fa)=true) (hs:SndL Γ sc H es xs) :
    Snd Γ sc H (.Call (.Name x xp) es [] pos) (.call fa xs):=by
  intro f env A s G la st Q Xc QC EC E0 hΓ hq R hw K KE
  rw [w_call] at hw
  have hq:A.handled=none:=hq.resolve_left (fun e=>Bool.noConfusion (show false=true from e))
  refine g_Call ?_
  refine wpG_of (load_glob E0 R.base hk hd (mg_of E0.c.K E0.c.g (hg _)) ?_)
  refine args_K hs E0 hΓ hq R hw (hf _) (fun G1 b1 st1 v1 V1 hp1 tk1 g1 R1 r1 hw1=>?_) KE
  exact call_fn E0 hΓ hq R1 r1 hw1 (fun G2 b2 st2 v2 V2 hp2 tk2 g2 R2 r2 hw2=>K G2 b2 st2 v2 V2 hp2 tk2 (g1.trans g2) R2 r2 hw2) (fun G' st' e m h' tk'=>KE G' st' e m h' tk')
set_option tactic.hygienic true in
theorem fld_none {P:Params} {G:Froz} {la:LA} {n:Str} {fs:List (String × V)} {es:List DictEntry} (h:All2 (FldRel P G la) fs es) (hn:∀ p∈fs,Str.ofString p.1≠n):getL n es=some none:=by
  unfold getL
  induction h with
  | nil=>rfl
  | cons hh hs ih=>
    rename_i p e fs es
    obtain ⟨⟨t,hk⟩,_⟩:=hh
    have hs':e.key.isStr n=false:=by rw [hk]; exact beq_eq_false_iff_ne.mpr (hn p (.head _))
    have ih:=ih fun q hq=>hn q (.tail _ hq)
    rw [List.find?_cons_of_neg (by rw [hs']; decide)]
    have hr:e.refKey=false:=by unfold DictEntry.refKey; rw [hk]
    rw [List.any_cons,hr,Bool.false_or]
    exact ih
def MethB (e:Expr):Prop:=∀ (name:Str) (apos pos:Pos) (args:List Expr) (env:Env),eval (.Call (.Attribute e name apos) args [] pos) env=(do
      let ov ← eval e env
      standAt apos.atName
      methodCall e name apos pos env ov (args.length+0) (backTo pos (starEach args env)) [])
theorem mbN {x:Str} {p:Pos}:MethB (.Name x p):=fun ω ω ω ω ω=>by with_unfolding_all rfl
theorem mbA {e:Expr} {x:Str} {p:Pos}:MethB (.Attribute e x p):=fun ω ω ω ω ω=>by with_unfolding_all rfl
theorem mbC {c:Const} {k:Nat} {p:Pos}:MethB (.Constant c k p):=fun ω ω ω ω ω=>by with_unfolding_all rfl
def methOk (e:Expr) (apos pos:Pos):Prop:=MethB e∧(apos.endLine == pos.line)=true
theorem any_fst {l:List (Bool × Sem Value)} (h:l.any (·.1)=false):(l.all fun x=>!x.1)=true:=by
  induction l with
  | nil=>rfl
  | cons a l ih=>
    rw [List.any_cons,Bool.or_eq_false_iff] at h
    rw [List.all_cons,h.1,ih h.2]; rfl
theorem meth_eq {e:Expr} {name:Str} {apos pos:Pos} {args:List Expr} {env:Env} (ho:methOk e apos pos) (hp:(backTo pos (starEach args env)).any (·.1)=false) (hl:args.length < 30) :
    eval (.Call (.Attribute e name apos) args [] pos) env=(do
      let ov ← eval e env
      standAt apos.atName
      let (f,first) ← holding [ov] (getMethod ov name (do return (← importBound e env).getD true))
      callWith pos f first (backTo pos (starEach args env)) []):=by
  obtain ⟨h1,h2⟩:=ho
  have hf:methodCallForm args.length (backTo pos (starEach args env)) []=true:=by
    unfold methodCallForm
    rw [any_fst hp]
    simp [hl]
  rw [h1,Nat.add_zero]
  unfold methodCall calleeOf methodCallPos
  rw [hf,h2]
  rfl
theorem g_meth {w:World} {A:Around} {E:Value→Shared→Prop} {s:Shared} {env:Env} {e:Expr} {name:Str} {apos pos:Pos} {args:List Expr} {Q:Value→Shared→Prop} (ho:methOk e apos pos) (hp:(backTo pos (starEach args env)).any (·.1)=false) (hl:args.length < 30)
    (h:wpG (model pw w) A (eval e env) (fun ov s₁=>wpAny (model pw w) A (getMethod ov name (do return (← importBound e env).getD true)) (fun fx s₂=>wpG (model pw w) A (callWith pos fx.1 fx.2 (backTo pos (starEach args env)) []) Q E s₂) E s₁) E s) :
    wpG (model pw w) A (eval (.Call (.Attribute e name apos) args [] pos) env) Q E s:=by
  rw [meth_eq ho hp hl]
  exact wpG_then h fun ov s₁ h₁=>leaf (wpAny_standAt (leaf (wpAny_holding (wpAny_mono h₁ (fun fx s₂ h₂=>h₂) fun ω ω x=>x))))
theorem snd_mcall {e:Expr} {name:Str} {fa:Addr} {apos pos:Pos} {es:List Expr} {xe:X} {xs:List X} (he:Snd Γ sc H e xe) (ho:methOk e apos pos) (hl:es.length < 30) (hf:∀ P,findIn (KF P) (.ref aLex) name=some (some (.ref fa))) (ht:∀ P,typeIn (KF P) (.ref fa)=some (.type "function")) (hk:∀ P,keepIn (KF P) (.ref fa)=true)
    (hn:∀ n∈flds,Str.ofString n≠name) (hs:SndL Γ sc H es xs):Snd Γ sc H (.Call (.Attribute e name apos) es [] pos) (.mcall xe fa xs):=by
  intro f env A s G la st Q Xc QC EC E0 hΓ hq R hw K KE
  rw [w_mcall] at hw
  have hq:A.handled=none:=hq.resolve_left (fun e=>Bool.noConfusion (show false=true from e))
  refine g_meth ho (plain_any hs) hl ?_
  refine he E0 hΓ (.inr hq) R hw (fun G1 b1 st1 v1 V1 hp1 tk1 g1 R1 r1 hw1=>?_) KE
  obtain ⟨hv,⟨l,hlx⟩,hw1⟩:=hw1
  have hV:V1 = .lex:=by cases V1 <;> first | rfl | (cases hv; done)
  subst hV
  have rl:=R1.lex
  rw [hlx] at rl
  have rl:LexRel f G1 hp1 { la with b:=b1 } l:=rl
  obtain ⟨ds,k',e1,e2⟩:=rl.dict
  cases r1 with | lex hi=>
  have hd:=rl.inst
  have F:=cls_facts f.c.P (C:=465) (.head _)
  have X:=Rel.kIn E0.c R1.base
  refine method_fn X (od:=some (dictOf ds k')) ⟨R1.base.gh _ _ hd,rfl,rfl,e1⟩ F.1.1 F.1.2 (hf _) (ht _) ?_ ?_
  · show (lookIn name (dictOf ds k')).map _=_
    rw [lookIn_dict,fld_none e2 fun p hp=>hn _ (rl.nm p hp)]
    rfl
  · refine args_K hs E0 hΓ hq R1 hw1 (hk _) (fun G2 b2 st2 v2 V2 hp2 tk2 g2 R2 r2 hw2=>?_) (fun G' st' e m h' tk'=>KE G' st' e m h' tk')
    refine call_fn E0 hΓ hq R2 (.cons (.lex (g2.mono _ _ hi)) r2) hw2 (fun G3 b3 st3 v3 V3 hp3 tk3 g3 R3 r3 hw3=>K G3 b3 st3 v3 V3 hp3 tk3 ((g1.trans g2).trans g3) R3 r3 hw3) (fun G' st' e m h' tk'=>KE G' st' e m h' tk')
end
section
variable {Γ:Specs} {sc:Scope} {H:Nat} {e:Expr} {x:X}
theorem keep_plain {M:Model} {fv:Value} (hf:∀ a,fv ≠ .ref a) (h:Heap) (_:True):∃ k,(k=Keeper.frame∨k=Keeper.machine∨k=Keeper.boundFrame)∧Looks M h (keeperOf fv) k:=by
  refine ⟨.machine,.inr (.inl rfl),?_⟩
  cases fv <;> first | exact absurd rfl (hf _) | exact Looks.of_pure rfl
theorem args_P {f:FR} {env:Env} {A:Around} {s:Shared} {G:Froz} {la:LA} {st:St} {Q:List V→St→Prop} {Xc:Exc} {QC EC:Value→Shared→Prop} {pos:Pos} {es:List Expr} {xs:List X} {fv:Value} {first:List Value} (hs:SndL Γ sc H es xs)
    (E0:Env0 f sc env A H) (hΓ:ΓOK Γ H) (hq:A.handled=none) (R:Rel f G la st s.heap) (hw:wpXs Γ xs Q Xc st) (hk:∀ a,fv ≠ .ref a)
    (K:KXs f la s G Q fun vs s₁=>wpG f.c.M A (call fv (first++vs)) QC EC s₁) (KE:KE f la s Xc EC):wpG f.c.M A (callWith pos fv first (backTo pos (starEach es env)) []) QC EC s:=by
  cases hs with
  | nil=>
    exact g_callWith rfl (keep_plain hk) (wpG_of (evalArgs_nil3 ⟨trivial,K G la.b st [] [] s.heap s.toks (.refl ..) R .nil hw⟩))
  | cons hh hs=>
    rw [hh.2.2 env]
    refine g_callWith (by show (false || (backTo pos (starEach _ env)).any (·.1))=false; rw [plain_any hs]; rfl) (keep_plain hk) ?_
    refine g_evalArgs ?_
    have:=sndL_spliced (pos:=pos) (Q:=Q) (Xc:=Xc) (QC:=fun vs s₁=>True∧wpG f.c.M A (call fv (first++vs)) QC EC s₁) (EC:=EC) (.cons hh hs) E0 hΓ (.inr hq) R hw (fun G1 b1 st1 v1 V1 hp1 tk1 g1 R1 r1 hw1=>⟨trivial,K G1 b1 st1 v1 V1 hp1 tk1 g1 R1 r1 hw1⟩) KE
    rw [hh.2.2 env] at this
    exact this
noncomputable def biVal (n:String):Option Value:=if n = "len" then some (.builtin "len") else if n = "abs" then some (.builtin "abs") else if n = "bytes" then some (.type "bytes") else none
theorem bi_at {c:Cx} (ok:c.Ok) {x:Str} {v:Value} (hg:nsIn (KF c.P) mainGlobals x=some none) (hb:bootBuiltins x=some v) (hn:x ≠ "__name__"):c.mg x=none∧c.mb x=some v:=
  ⟨mg_none_of ok.K ok.g hg,(ok.bi x hn).trans hb⟩
set_option tactic.hygienic true in
theorem bytesOf_cons {v:V} {r:List V} {b:List UInt8} (h:bytesOfV (v :: r)=some b):∃ i b',v = .int i∧(0≤i∧i < 256)∧bytesOfV r=some b'∧b=i.toNat.toUInt8 :: b':=by
  cases v <;> first | exact (nS h) | skip
  rename_i i
  by_cases hi:0≤i∧i < 256
  · have e:bytesOfV (.int i :: r)=(bytesOfV r).map (i.toNat.toUInt8 :: ·):=if_pos hi
    rw [e] at h
    obtain ⟨b',hb',rfl⟩:=Option.map_eq_some_iff.mp h
    exact ⟨i,b',rfl,hi,hb',rfl⟩
  · have e:bytesOfV (.int i :: r)=none:=if_neg hi
    rw [e] at h
    cases h
theorem bytesOf_facts {P:Params} {G:Froz} {a:Addr} {l:List V}:∀ {vs:List Value} {b:List UInt8},Reps P G a l vs→bytesOfV l=some b→∃ ns,IntsAre vs ns∧(∀ n∈ns,0≤n∧n < 256)∧b=ns.map fun n=>n.toNat.toUInt8:=by
  induction l with
  | nil=>intro vs b r h; cases r; cases h; exact ⟨[],.nil,(fun ω q=>nomatch q),rfl⟩
  | cons v l ih=>
    intro vs b r h
    obtain ⟨i,b',rfl,hi,hb',rfl⟩:=bytesOf_cons h
    replace r:=rCons r
    obtain ⟨_,_,rfl,r,rs⟩:=r
    obtain ⟨t,rfl⟩:=rInt r
    obtain ⟨ns,h1,h2,rfl⟩:=ih rs hb'
    refine ⟨i :: ns,.cons i t h1,fun n hn=>?_,rfl⟩
    rcases List.mem_cons.mp hn with rfl | hn
    · exact hi
    · exact h2 n hn
theorem bi_inv {f:String} {vs:List V} {Q:V→Prop} (h:biV f vs Q):(∃ l,vs=[.byt l]∧f = "len"∧l.length≤1099511627776∧Q (.int l.length))∨
    (∃ l,vs=[.lst l]∧((f = "len"∧l.length≤16777216∧Q (.int l.length))∨(f = "bytes"∧l.length≤16777216∧∃ b,bytesOfV l=some b∧Q (.byt b))))∨∃ i,vs=[.int i]∧f = "abs"∧Q (.int (if i < 0 then -i else i)):=by
  cases vs with
  | nil=>exact False.elim h
  | cons v r=>
    cases r with
    | cons w r=>cases v <;> exact False.elim h
    | nil=>cases v <;> first | exact False.elim h | exact .inl ⟨_,rfl,h⟩ | exact .inr (.inl ⟨_,rfl,h⟩) | exact .inr (.inr ⟨_,rfl,h⟩)
theorem snd_bi {n:String} {v:Value} {xp pos:Pos} {es:List Expr} {xs:List X} (hv:biVal n=some v) (hk:sc.names.lookup (Str.ofString n)=some .globalImplicit) (hd:(Str.ofString n == ("__debug__" : Str))=false)
    (hg:∀ P,nsIn (KF P) mainGlobals (Str.ofString n)=some none) (hb:bootBuiltins (Str.ofString n)=some v) (hn:Str.ofString n ≠ "__name__") (hs:SndL Γ sc H es xs):Snd Γ sc H (.Call (.Name (Str.ofString n) xp) es [] pos) (.bi n xs):=by
  intro f env A s G la st Q Xc QC EC E0 hΓ hq R hw K KE
  rw [w_bi] at hw
  have hq0:A.handled=none:=hq.resolve_left (fun e=>Bool.noConfusion (show false=true from e))
  clear hq
  obtain ⟨hm,hbm⟩:=bi_at E0.c (hg _) hb hn
  refine g_Call ?_
  refine wpG_of (load_bi E0 R.base hk hd hm hbm ?_)
  have hv':∀ a,v ≠ .ref a:=by
    intro a q
    subst q
    by_cases h1:n = "len"
    · subst h1; cases hv
    by_cases h2:n = "abs"
    · subst h2; cases hv
    by_cases h3:n = "bytes"
    · subst h3; cases hv
    have e:biVal n=none:=by
      unfold biVal
      rw [if_neg h1,if_neg h2,if_neg h3]
    rw [e] at hv
    cases hv
  refine args_P hs E0 hΓ hq0 R hw hv' (fun G1 b1 st1 v1 V1 hp1 tk1 g1 R1 r1 hw1=>?_) KE
  refine wpG_of ?_
  rcases bi_inv hw1 with ⟨l,rfl,rfl,hz,hQ⟩ | ⟨l,rfl,⟨rfl,hz,hQ⟩ | ⟨rfl,hz,b,hbb,hQ⟩⟩ | ⟨i,rfl,rfl,hQ⟩
  · refine bC fun ng=>?_;obtain ⟨_,_,rfl,r,rs⟩:=rCons r1;refine ng ?_;clear ng
    cases rs
    obtain ⟨t,rfl⟩:=rByt r
    cases hv
    exact len_bytes hz (K G1 b1 st1 _ _ hp1 (tk1+1+1) g1 R1 (.int _ (tk1+1)) hQ)
  · refine bC fun ng=>?_;obtain ⟨_,_,rfl,r,rs⟩:=rCons r1;refine ng ?_;clear ng
    cases rs
    refine bC fun ng=>?_;obtain ⟨_,_,_,rfl,h,rs⟩:=rLst r;refine ng ?_;clear ng
    cases hv
    refine PyProof.Rows.len_list ⟨_,R1.base.gh _ _ h,rfl,_,rfl⟩ ?_ ?_
    · rw [List.size_toArray,← reps_len rs]; omega
    · have:=K G1 b1 st1 _ _ hp1 (tk1+1+1) g1 R1 (.int _ (tk1+1)) hQ
      rw [reps_len rs] at this
      exact this
  · refine bC fun ng=>?_;obtain ⟨_,_,rfl,r,rs⟩:=rCons r1;refine ng ?_;clear ng
    cases rs
    refine bC fun ng=>?_;obtain ⟨_,_,_,rfl,h,rs⟩:=rLst r;refine ng ?_;clear ng
    cases hv
    obtain ⟨ns,h1,h2,rfl⟩:=bytesOf_facts rs hbb
    refine call_bytes_ints ⟨_,R1.base.gh _ _ h,rfl,_,rfl⟩ h1 h2 (by rw [← reps_len rs,sizeLine_eq]; exact hz) hq0 fun h' t k keep=>?_
    exact K G1 b1 st1 _ _ h' k (g1.trans (.keeps keep)) (R1.grow (.of_keeps keep) (.refl ..)) (.byt _ _) hQ
  · refine bC fun ng=>?_;obtain ⟨_,_,rfl,r,rs⟩:=rCons r1;refine ng ?_;clear ng
    cases rs
    obtain ⟨t,rfl⟩:=rInt r
    cases hv
    exact call_abs_int fun u tk=>K G1 b1 st1 _ _ hp1 tk g1 R1 (.int _ u) hQ
end
section
variable {Γ:Specs} {sc:Scope} {H:Nat} {e:Expr} {x:X}
theorem isi_ok {w:World} {A:Around} {E:Value→Shared→Prop} {s:Shared} {P:Params} {G:Froz} {a:Addr} {V:V} {v:Value} {T:String} {r:Bool} {Q:Value→Shared→Prop} (rv:Rep P G a V v) (h:isiV V T=some r) (k:∀ tk,Q (.bool r) { s with toks:=tk }) :
    wpAny (model pw w) A (call (.builtin "isinstance") [v,.type T]) Q E s:=by
  cases rv with
  | byt l _=>
    rcases Classical.em (T = "bytes") with q | q
    · have h:=(if_pos q).symm.trans h
      cases h
      subst q
      exact call_isinstance (isinstance_true (Tx:="bytes") F.isi_meta_bytes F.sub_bytes_bytes) ⟨rfl,k s.toks⟩
    · exact nomatch ((if_neg q).symm.trans h:Option.none=some r)
  | int i _=>
    rcases Classical.em (T = "int") with q | q
    · have h:=(if_pos q).symm.trans h
      cases h; subst q; exact IsiPair.int_int (k s.toks)
    rcases Classical.em (T = "bytes") with q2 | q2
    · have h:=(if_pos q2).symm.trans ((if_neg q).symm.trans h)
      cases h; subst q2; exact IsiPair.int_bytes (k _)
    rcases Classical.em (T = "bool") with q3 | q3
    · have h:=(if_pos q3).symm.trans ((if_neg q2).symm.trans ((if_neg q).symm.trans h))
      cases h; subst q3; exact IsiPair.int_bool (k _)
    · exact nomatch ((if_neg q3).symm.trans ((if_neg q2).symm.trans ((if_neg q).symm.trans h)):Option.none=some r)
  | _=>exact nS h
theorem snd_isi {e:Expr} {xe:X} {T:String} {xp tp pos:Pos} {n t:Str} (he:Snd Γ sc H e xe) (hst:∀ env rest,starEach (e :: rest) env=(false,eval e env) :: starEach rest env)
    (hk:sc.names.lookup n=some .globalImplicit) (hd:(n == ("__debug__" : Str))=false) (hg:∀ P,nsIn (KF P) mainGlobals n=some none) (hb:bootBuiltins n=some (.builtin "isinstance")) (hn:n ≠ "__name__")
    (hk':sc.names.lookup t=some .globalImplicit) (hd':(t == ("__debug__" : Str))=false) (hg':∀ P,nsIn (KF P) mainGlobals t=some none) (hb':bootBuiltins t=some (.type T)) (hn':t ≠ "__name__") :
    Snd Γ sc H (.Call (.Name n xp) [e,.Name t tp] [] pos) (.isi xe T):=by
  intro f env A s G la st Q Xc QC EC E0 hΓ hq R hw K KE
  rw [w_isi] at hw
  have hq:A.handled=none:=hq.resolve_left (fun e=>Bool.noConfusion (show false=true from e))
  obtain ⟨hm,hbm⟩:=bi_at E0.c (hg _) hb hn
  obtain ⟨hm',hbm'⟩:=bi_at E0.c (hg' _) hb' hn'
  refine g_Call ?_
  refine wpG_of (load_bi E0 R.base hk hd hm hbm ?_)
  rw [hst]
  refine g_callWith rfl (keep_plain fun a q=>nomatch q) ?_
  refine g_evalArgs ?_
  have:=g_more (M:=f.c.M) (A:=A) (E:=EC) (s:=s) (env:=env) (e:=e) (rest:=[.Name t tp]) (pos:=pos) (Q:=fun vs s'=>True∧wpG f.c.M A (call (.builtin "isinstance") ([]++vs)) QC EC s') ?_ (hst env _)
  · rw [hst] at this; exact this
  refine he E0 hΓ (.inr hq) R hw (fun G1 b1 st1 v1 V1 hp1 tk1 g1 R1 r1 hw1=>?_) KE
  refine g_more ?_ rfl
  refine wpG_of (load_bi E0 R1.base hk' hd' hm' hbm' ?_)
  refine g_none ⟨trivial,?_⟩
  obtain ⟨r,hr,hQ⟩:=hw1
  exact wpG_of (isi_ok r1 hr fun tk=>K G1 b1 st1 _ _ hp1 tk g1 R1 (.bool r) hQ)
end
section
open Builtin Builtin.Bytes
theorem slot_ba_len:Slot "bytearray" "__len__" "bytearray.__len__":=
  .of (owner:="bytearray") (n:="__len__") (by rw [typeLookup_type,builtinLookup_eq_fast]; kernel_rfl) (by decide +kernel) (by decide +kernel) (by decide +kernel)
    (by first | exact .inl (by decide +kernel) | exact .inr (by decide +kernel)) (by rw [isSubtype_type]; kernel_rfl)
theorem entry_ba_len:entryFor table "bytearray.__len__" = some Builtin.«bytearray.__len__»:=entryFor_of_tree (by kernel_rfl)
theorem args_ba_len (a:Value):argsOk "bytearray.__len__" ⟨[a],[]⟩:=by unfold argsOk; kernel_rfl
theorem slot_ba_getitem:Slot "bytearray" "__getitem__" "bytearray.__getitem__":=
  .of (owner:="bytearray") (n:="__getitem__") (by rw [typeLookup_type,builtinLookup_eq_fast]; kernel_rfl) (by decide +kernel) (by decide +kernel) (by decide +kernel)
    (by first | exact .inl (by decide +kernel) | exact .inr (by decide +kernel)) (by rw [isSubtype_type]; kernel_rfl)
theorem entry_ba_getitem:entryFor table "bytearray.__getitem__" = some Builtin.«bytearray.__getitem__»:=entryFor_of_tree (by kernel_rfl)
theorem args_ba_getitem (a b:Value):argsOk "bytearray.__getitem__" ⟨[a,b],[]⟩:=by unfold argsOk; kernel_rfl
theorem slot_ba_append:Slot "bytearray" "append" "bytearray.append":=
  .of (owner:="bytearray") (n:="append") (by rw [typeLookup_type,builtinLookup_eq_fast]; kernel_rfl) (by decide +kernel) (by decide +kernel) (by decide +kernel)
    (by first | exact .inl (by decide +kernel) | exact .inr (by decide +kernel)) (by rw [isSubtype_type]; kernel_rfl)
theorem entry_ba_append:entryFor table "bytearray.append" = some Builtin.«bytearray.append»:=entryFor_of_tree (by kernel_rfl)
theorem args_ba_append (a b:Value):argsOk "bytearray.append" ⟨[a,b],[]⟩:=by unfold argsOk; kernel_rfl
theorem type_ba_append:typeOf (.builtin "bytearray.append")=pure (.type "method_descriptor"):=by show builtinType _=_; rw [builtinType_eq_fast]; kernel_rfl
theorem plainAttrs_ba:PlainAttrs "bytearray":=
  ⟨⟨"bytearray.__getattribute__",by rw [typeLookup_type,builtinLookup_eq_fast]; kernel_rfl,by decide +kernel⟩,by rw [typeLookup_type,builtinLookup_eq_fast]; kernel_rfl⟩
theorem ba_no_index:typeLookup (.type "bytearray") "__index__" = pure none:=by rw [typeLookup_type,builtinLookup_eq_fast]; kernel_rfl
theorem ba_no_bytes:typeLookup (.type "bytearray") "__bytes__" = pure none:=by rw [typeLookup_type,builtinLookup_eq_fast]; kernel_rfl
theorem ba_buffer:typeLookup (.type "bytearray") "__buffer__" = pure (some (.builtin "bytearray.__buffer__")):=by rw [typeLookup_type,builtinLookup_eq_fast]; kernel_rfl
theorem ba_release:typeLookup (.type "bytearray") "__release_buffer__" = pure (some (.builtin "bytearray.__release_buffer__")):=by rw [typeLookup_type,builtinLookup_eq_fast]; kernel_rfl
theorem ba_mro:mroOf (.type "bytearray")=pure [.type "bytearray",.type "object"]:=by rw [mroOf_type]; kernel_rfl
theorem ba_new:typeLookup (.type "bytearray") "__new__" = pure (some (.builtin "bytearray.__new__")):=by rw [typeLookup_type,builtinLookup_eq_fast]; kernel_rfl
theorem ba_slot_init:Slot "bytearray" "__init__" "bytearray.__init__":=
  .of (owner:="bytearray") (n:="__init__") (by rw [typeLookup_type,builtinLookup_eq_fast]; kernel_rfl) (by decide +kernel) (by decide +kernel) (by decide +kernel)
    (by first | exact .inl (by decide +kernel) | exact .inr (by decide +kernel)) (by rw [isSubtype_type]; kernel_rfl)
theorem ba_called:TypeCalled "bytearray" "bytearray.__new__" "bytearray.__init__":=
  ⟨by decide +kernel,by decide +kernel,⟨_,_,ba_mro⟩,madeBy_type ba_mro ba_new (by decide +kernel),by decide +kernel,by rw [isSubtype_type]; kernel_rfl,ba_slot_init⟩
end
section
open Builtin Builtin.Bytes PySem.Spec
theorem ba_len_meets (b:Addr) (l:List UInt8):Meets (Builtin.«bytearray.__len__» ⟨[.ref b],[]⟩) (fun ω R s=>s.heap.get? b=some (byteObj l)∧R (.ok (.ret (.int (l.toArray.size:Nat) s.toks))) { s with toks:=s.toks+1 }):=
  .of_wp fun prog w A R s h=>by
    obtain ⟨hp,g,d,tk,os⟩:=s; obtain ⟨hl,h⟩:=h
    wp_walk; exact ⟨_,rfl,h⟩
theorem den_ba_append {w:World} (args:Args):(model pw w).den (.builtin "bytearray.append" args)=Builtin.«bytearray.append» args:=by
  show (match entryFor table "bytearray.append" with | some b=>b args | none=>unsupported ((withoutEnding? "bytearray.append" "#data").getD "bytearray.append"))=_
  rw [entry_ba_append]
theorem g_stackAny {M:Model} {A:Around} {E:Value→Shared→Prop} {s:Shared} {f:Code × Pos→Bool} {Q:Bool→Shared→Prop} (hg:A.guards=some []) (hf:∀ c p,c.isGuard=false→calm c=true→f (c,p)=false) (h:Q false s):wpG M A (do return (← stack).any f) Q E s:=fun Γ p k hΓ=>by
  show Q (((Γ.code,p) :: Γ.below).any f) s
  have hgs:Γ.code.guards++guardsOf Γ.below=[]:=hΓ.2.2.2.1 [] hg
  have e:((Γ.code,p) :: Γ.below).any f=false:=by
    rw [List.any_eq_false]
    rintro ⟨c,q⟩ hx
    rw [Bool.not_eq_true]
    have hm:c∈((Γ.code,p) :: Γ.below).map (·.1):=List.mem_map.mpr ⟨_,hx,rfl⟩
    have hng:c.isGuard=false:=by
      cases hc:c.isGuard with
      | false=>rfl
      | true=>
        have:c∈guardsOf ((Γ.code,p) :: Γ.below):=List.mem_filter.mpr ⟨hm,hc⟩
        rw [guardsOf_cons,hgs] at this
        cases this
    refine hf c q hng ?_
    rcases List.mem_cons.mp hx with e | hx
    · cases e; exact k.code
    · exact k.below _ hx
  rw [e]; exact h
theorem calm_append:(!decodersThatHold.contains "bytearray.append")=true:=by decide +kernel
section
variable {w:World} {A:Around} {E:Value→Shared→Prop} {s:Shared}
theorem ba_len {b:Addr} {l:List UInt8} {Q:Value→Shared→Prop} (hb:s.heap.get? b=some (byteObj l)) (hz:l.length≤16777216) (h:∀ t tk,Q (.int l.length t) { s with toks:=tk }):wpAny (model pw w) A (call (.builtin "len") [.ref b]) Q E s:=by
  refine call_len_meets (T:="bytearray") (n:=((l.toArray.size:Nat):Int)) ⟨_,hb,rfl⟩ slot_ba_len entry_ba_len (args_ba_len _) (ba_len_meets b l) (by omega) (by rw [List.size_toArray]; omega) (fun Q' hQ=>⟨hb,hQ⟩) ?_
  have:=h (s.toks+1) (s.toks+1+1)
  simpa using this
theorem g_exported {M:Model} {α:Type} {b:Addr} {l:List UInt8} {f:Bool→Sem α} {Q:α→Shared→Prop} (hg:A.guards=some []) (hb:s.heap.get? b=some (byteObj l)) (h:wpG M A (f false) Q E s):wpG M A ((exported (.ref b) <||> (do return (← exportsOf (.ref b)) > 0)) >>= f) Q E s:=by
  refine wpG_bind ?_
  unfold orM
  refine wpG_bind ?_
  unfold exported
  refine g_stackAny hg (fun c p h1 h2=>?_) ?_
  · cases c with
    | builtin id args=>
      rcases Classical.em (id = "bytearray.__contains__") with e | e1
      · subst e; cases h1
      rcases Classical.em (id = "bytearray.__mod__") with e | e2
      · subst e; cases h1
      rcases Classical.em (id = "bytearray.__rmod__") with e | e3
      · subst e; cases h1
      rcases Classical.em (id = "_struct.pack_into.held") with e | e4
      · subst e; cases h1
      rcases Classical.em (id = "bytearray.find.held") with e | e5
      · subst e; cases h1
      have h3:decodersThatHold.contains id=false:=(Bool.not_eq_true' _).mp h2
      clear h1 h2
      rcases args with ⟨_ | ⟨v,r⟩,kw⟩
      · delta PySem.Builtin.Bytes.exported.match_1
        refine (dif_neg e1).trans ?_
        refine (dif_neg e2).trans ?_
        refine (dif_neg e3).trans ?_
        refine (dif_neg e4).trans ?_
        exact dif_neg e5
      · delta PySem.Builtin.Bytes.exported.match_1
        refine (dif_neg e1).trans ?_
        refine (dif_neg e2).trans ?_
        refine (dif_neg e3).trans ?_
        refine (dif_neg e4).trans ?_
        refine (dif_neg e5).trans ?_
        show (Bytes.sameRef v (.ref b) && decodersThatHold.contains id)=false
        rw [h3,Bool.and_false]
    | _=>rfl
  · show wpG _ _ (exportsOf (.ref b) >>= fun n=>pure (decide (n > 0))) _ _ _
    unfold exportsOf
    refine leaf (wpAny_bind (wpAny_load hb (wpAny_pure ?_)))
    exact wpG_pure h
theorem ba_append_G {b:Addr} {l:List UInt8} {i:Int} {t:Tok} {Q:Value→Shared→Prop} (hg:A.guards=some []) (hb:s.heap.get? b=some (byteObj l)) (hz:l.length < 16777216) (h0:0≤i) (h1:i < 256)
    (h:∀ h' tk,Heap.SameBut b s.heap h'→h'.get? b=some (byteObj (l++[i.toNat.toUInt8]))→Q .none { s with heap:=h',toks:=tk }):wpG (model pw w) A (call (.builtin "bytearray.append") [.ref b,.int i t]) Q E s:=by
  have hT:s.TypeIs (.ref b) "bytearray":=⟨_,hb,rfl⟩
  refine wpG_call (codeG_tree ?_)
  show wpG _ A.in1 (do checkBuiltinCall "bytearray.append" ⟨[.ref b,.int i t],[]⟩; again (.builtin "bytearray.append" ⟨[.ref b,.int i t],[]⟩)) _ _ s
  refine leaf (slot_ba_append.check _ _ _ _ _ _ _ _ hT (args_ba_append _ _) (wpG_pure ⟨calm_append,plainId_quiet slot_ba_append.plain _,codeG_tree ?_⟩))
  rw [den_ba_append,Around.under_plainId slot_ba_append.plain]
  unfold Builtin.«bytearray.append»
  refine leaf (wpAny_of_eq (a:=(.ref b,.int i t)) rfl ?_)
  dsimp only
  refine leaf ?_
  unfold byteValue
  refine wpAny_bind (wpAny_of_eq (a:=i) rfl ?_)
  refine bm_if_false (by simp only [Bool.or_eq_false_iff,decide_eq_false_iff_not]; omega) ?_
  refine wpAny_pure ?_
  refine wpG_bind ?_
  unfold checkResize
  refine g_exported (A:=A.in1) hg hb ?_
  show wpG _ _ (pure ()) _ _ _
  refine wpG_pure ?_
  refine leaf ?_
  show wpAny _ _ (updateBytearray b fun x=>x.push i.toNat.toUInt8) _ _ _
  unfold updateBytearray
  refine wpAny_bind (wpAny_load hb ?_)
  show wpAny _ _ (update b (Obj.mapBytearray fun x=>x.push i.toNat.toUInt8) >>= fun ω=>lookBehind b) _ _ _
  refine wpAny_bind (wpAny_update hb ?_)
  have hb':(s.heap.update b (Obj.mapBytearray fun x=>x.push i.toNat.toUInt8)).get? b=some (byteObj (l++[i.toNat.toUInt8])):=by
    have:=Heap.get?_update_self (Obj.mapBytearray fun x=>x.push i.toNat.toUInt8) hb rfl
    rw [this]
    exact congrArg (fun z=>some ({ cls:=.type "bytearray",data:=.bytearray z 0 }:Obj)) (List.push_toArray _ _)
  refine wpAny_lookBehind hb' ?_ ?_
  · show (if (l++[i.toNat.toUInt8]).toArray.size > sizeLine then some "bytearray:memory" else none)=none
    rw [if_neg]
    rw [List.size_toArray,List.length_append,sizeLine_eq]
    simp
    omega
  · exact wpG_pure (h _ _ (Heap.SameBut.update ..) hb')
theorem sliceParts_ok {M:Model} {a:Addr} {o:Obj} {l u:Value} {lo hi:Option Int} {Q:Value × Value × Value→Shared→Prop} (ho:s.heap.get? a=some o) (hd:o.data = .fields #[l,u,.none]) (hl:IsPart l lo) (hu:IsPart u hi) (h:Q (rawPart lo,rawPart hi,.none) s):wpAny M A (sliceParts (.ref a)) Q E s:=by
  unfold sliceParts
  refine wpAny_bind (wpAny_field (x:=.none) ho hd rfl ?_)
  kby_none
  refine wpAny_ite (KBy.ite_no (show ¬ ((Value.none == rawInt 0)=true) from Bool.false_ne_true) ?_)
  refine wpAny_bind (wpAny_field (x:=l) ho hd rfl ?_)
  cases hl <;> cases hu
  · kby_none; refine wpAny_bind (wpAny_field (x:=.none) ho hd rfl ?_); kby_none; exact wpAny_pure h
  · kby_none; refine wpAny_bind (wpAny_field (x:=.int _ _) ho hd rfl ?_); kby_int; exact wpAny_pure h
  · kby_int; refine wpAny_bind (wpAny_field (x:=.none) ho hd rfl ?_); kby_none; exact wpAny_pure h
  · kby_int; refine wpAny_bind (wpAny_field (x:=.int _ _) ho hd rfl ?_); kby_int; exact wpAny_pure h
theorem ba_slice_meets (b a:Addr) (l:List UInt8) {lv uv:Value} {lo hi:Option Int} (pl:IsPart lv lo) (pu:IsPart uv hi):Meets (Builtin.«bytearray.__getitem__» ⟨[.ref b,.ref a],[]⟩)
    (fun ω R s=>s.heap.get? b=some (byteObj l)∧s.heap.IsSliceOf a lv uv .none∧l.length≤16777216∧R (.ok (.ret (.ref s.heap.objs.size))) { s with heap:=s.heap.push (byteObj (KBy.picked l.toArray lo hi).toList) }):=
  .of_wp fun prog w A R s h=>by
    refine bC fun ng=>?_;obtain ⟨hl,⟨o,ho,hc,hd⟩,hz,h⟩:=h;refine ng ?_;clear ng
    have hT:s.TypeIs (.ref a) "slice":=⟨o,ho,hc⟩
    unfold Builtin.«bytearray.__getitem__»
    refine wpAny_bind (wpAny_of_eq (a:=(.ref b,[.ref a])) rfl ?_)
    refine wpAny_bind ?_
    unfold Bytes.subscript?
    refine wpAny_bind (wpAny_specialOf hT slice_no_index (wpAny_pure ?_))
    refine wpAny_bind (wpAny_typeOf hT ?_)
    refine wpAny_ite (KBy.ite_no (by decide) ?_)
    refine wpAny_bind (sliceParts_ok ho hd pl pu ?_)
    dsimp only
    refine wpAny_bind ?_
    unfold payload payload?
    refine wpAny_bind (wpAny_bind (wpAny_load hl (wpAny_pure (wpAny_pure ?_))))
    refine wpAny_bind (wpAny_of_eq (sliceIndices_raw lo hi none l.toArray.size (fun e=>nomatch e)) ?_)
    refine wpAny_bind ?_
    unfold newBytearray
    refine wpAny_newObj_type ?_ ?_
    · refine wpAny_pure ⟨_,rfl,?_⟩
      rw [Array.toArray_toList] at h
      exact h
    · show (KBy.picked l.toArray lo hi).size≤sizeLine
      refine Nat.le_trans (KBc.size_picked_le _ lo hi) ?_
      rw [List.size_toArray,sizeLine_eq]
      exact hz
theorem ba_sub:isSubtype (.type "bytearray") (.type "bytearray")=pure true:=by rw [isSubtype_type]; kernel_rfl
theorem own_ba {M:Model} {b:Addr} {name id:String} {Q:Bool→Shared→Prop} (hT:s.TypeIs (.ref b) "bytearray") (hl:typeLookup (.type "bytearray") (Str.ofString name)=pure (some (.builtin id))) (he:id.endsWith ("." ++ name)=true) (hd:(id.dropRight (name.length+1)) = "bytearray") (h:Q true s):wpAny M A (slotIsOwn (.ref b) name) Q E s:=by
  unfold slotIsOwn
  refine wpAny_bind (wpAny_specialOf hT hl ?_)
  dsimp only
  refine bm_if_false (by rw [he]; rfl) ?_
  rw [hd]
  exact wpAny_isInstance hT ba_sub h
theorem own_buffer {M:Model} {b:Addr} {Q:Bool→Shared→Prop} (hT:s.TypeIs (.ref b) "bytearray") (h:Q true s):wpAny M A (slotIsOwn (.ref b) "__buffer__") Q E s:=
  own_ba hT ba_buffer (by decide +kernel) (by decide +kernel) h
theorem own_release {M:Model} {b:Addr} {Q:Bool→Shared→Prop} (hT:s.TypeIs (.ref b) "bytearray") (h:Q false s):wpAny M A (ownRelease (.ref b)) Q E s:=by
  unfold ownRelease
  exact wpAny_bind (own_ba hT ba_release (by decide +kernel) (by decide +kernel) (wpAny_pure h))
theorem buffer_ba {M:Model} {id:String} {full:Bool} {b:Addr} {l:List UInt8} {Q:Option (Array UInt8)→Shared→Prop} (hb:s.heap.get? b=some (byteObj l)) (h:Q (some l.toArray) s):wpAny M A (buffer? id (.ref b) full) Q E s:=by
  have hT:s.TypeIs (.ref b) "bytearray":=⟨_,hb,rfl⟩
  unfold buffer?
  refine wpAny_bind (wpAny_specialOf hT ba_buffer ?_)
  refine wpAny_bind (own_buffer hT ?_)
  refine bm_if_false rfl ?_
  refine wpAny_bind (wpAny_specialOf hT ba_buffer ?_)
  refine wpAny_bind (own_release hT ?_)
  refine bm_if_false rfl ?_
  refine wpAny_bind ?_
  unfold payload payload?
  exact wpAny_bind (wpAny_bind (wpAny_load hb (wpAny_pure (wpAny_pure (wpAny_pure h)))))
theorem ba_bytes_new {b:Addr} {l:List UInt8} {Q:Value→Shared→Prop} (hb:s.heap.get? b=some (byteObj l)) (hz:l.length≤16777216) (h:∀ t tk,Q (.bytes l.toArray t) { s with toks:=tk }) :
    codeAny (model pw w) A (.call (.builtin "bytes.__new__") ⟨[.type "bytes",.ref b],[]⟩) (wants Q E) s:=by
  refine codeAny_of_tree ?_
  show wpAny _ A.in1 (do checkBuiltinCall "bytes.__new__" ⟨[.type "bytes",.ref b],[]⟩; again (.builtin "bytes.__new__" ⟨[.type "bytes",.ref b],[]⟩)) _ _ s
  refine wpAny_bind (wpAny_of_eq (F.bm_newCall _) (wpAny_pure ⟨plainId_quiet F.bm_plain _,codeAny_builtin F.bm_entry ?_⟩))
  rw [Around.under_plainId F.bm_plain _]
  have hT:s.TypeIs (.ref b) "bytearray":=⟨_,hb,rfl⟩
  unfold Builtin.«bytes.__new__»
  refine wpAny_bind (wpAny_of_eq (a:=true) rfl ?_)
  refine bm_if_false rfl ?_
  refine wpAny_bind (wpAny_of_eq F.bm_sub ?_)
  refine bm_if_false rfl ?_
  refine wpAny_bind (wpAny_of_eq (F.bm_bind _) ?_)
  refine wpAny_bind (wpAny_of_eq (a:=()) rfl ?_)
  refine wpAny_bind (wpAny_of_eq (a:=()) rfl ?_)
  refine bm_if_false rfl ?_
  refine wpAny_bind (wpAny_specialOf hT ba_no_bytes ?_)
  refine wpAny_bind (wpAny_bind ?_)
  show wpAny _ _ (load b >>= _) _ _ _
  refine wpAny_bind (wpAny_load hb ?_)
  refine wpAny_pure (wpAny_pure ?_)
  refine bm_if_false rfl ?_
  refine wpAny_bind (wpAny_specialOf hT ba_no_index ?_)
  refine bm_if_true rfl ?_
  show wpAny _ _ (buffer? "bytes.__new__" (.ref b) true >>= _) _ _ _
  refine wpAny_bind (buffer_ba hb ?_)
  refine wpAny_bind (wpAny_rule ?_)
  refine wpAny_bind (wpAny_mkBytes ?_ (by rw [List.size_toArray,sizeLine_eq]; exact hz))
  show wpAny _ _ (if (Value.type "bytes" == Value.type "bytes")=true then _ else _) _ _ _
  refine bm_if_true (by decide) ?_
  exact wpAny_pure (h _ _)
theorem ba_bytes {b:Addr} {l:List UInt8} {Q:Value→Shared→Prop} (hb:s.heap.get? b=some (byteObj l)) (hz:l.length≤16777216) (h:∀ t tk,Q (.bytes l.toArray t) { s with toks:=tk }):wpAny (model pw w) A (call (.type "bytes") [.ref b]) Q E s:=by
  refine callType_codes (Q₁:=fun obj s₁=>s₁.TypeIs obj "bytes"∧Q obj s₁) F.bm_called (F.bm_typeCall _) F.entry_object_init
    (ba_bytes_new hb hz fun t tk=>⟨PySem.W.typeIs_bytes _ _ _,h t tk⟩) fun obj s₁ h₁=>?_
  exact ⟨h₁.1,F.args_object_init_2 obj _,object_init_meets F.bm_called.init.lookup F.bm_called.made (by decide) pw w A.in1 _ s₁ ⟨h₁.1,rfl,h₁.2⟩⟩
theorem ba_slice {b a:Addr} {l:List UInt8} {lv uv:Value} {lo hi:Option Int} {Q:Value→Shared→Prop} (pl:IsPart lv lo) (pu:IsPart uv hi) (hb:s.heap.get? b=some (byteObj l)) (ha:s.heap.IsSliceOf a lv uv .none) (hz:l.length≤16777216)
    (h:Q (.ref s.heap.objs.size) { s with heap:=s.heap.push (byteObj (KBy.picked l.toArray lo hi).toList) }):wpAny (model pw w) A (getItem (.ref b) (.ref a)) Q E s:=
  getItem_meets (T:="bytearray") ⟨_,hb,rfl⟩ (by decide) slot_ba_getitem entry_ba_getitem (args_ba_getitem _ _) (ba_slice_meets b a l pl pu) ⟨hb,ha,hz,h⟩
end
end
section
open Builtin
theorem g_if_false {α:Type} {M:Model} {A:Around} {E:Value→Shared→Prop} {s:Shared} {c:Bool} {a b:Sem α} {Q:α→Shared→Prop} (hc:c=false) (h:wpG M A b Q E s):wpG M A (if c=true then a else b) Q E s:=by
  subst hc; exact h
theorem g_if_true {α:Type} {M:Model} {A:Around} {E:Value→Shared→Prop} {s:Shared} {c:Bool} {a b:Sem α} {Q:α→Shared→Prop} (hc:c=true) (h:wpG M A a Q E s):wpG M A (if c=true then a else b) Q E s:=by
  subst hc; exact h
theorem den_of {w:World} {id:String} {b:Builtin} (hb:entryFor table id=some b) (args:Args):(model pw w).den (.builtin id args)=b args:=by
  show (match entryFor table id with | some b=>b args | none=>unsupported ((withoutEnding? id "#data").getD id))=_
  rw [hb]
theorem calm_tc:(!Builtin.Bytes.decodersThatHold.contains "type.__call__")=true:=by decide +kernel
section
variable {w:World} {A:Around} {K:Frag} {C:Addr} {R:Result→Shared→Prop} {h:Heap} {g:Array GenState} {d:Drawn} {t:Nat} {os:OsState}
theorem g_makeG {rest:List Value} {fI:Addr} (X:K.In h) (hm:makesIn K C=true) (hi:findIn K (.ref C) "__init__" = some (some (.ref fI))) (hf:typeIn K (.ref fI)=some (.type "function"))
    (hq:wpG (model pw w) (A.under (.builtin "type.__call__" ⟨.ref C :: rest,[]⟩)) (call (.ref fI) (.ref (h.objs.size+1) :: rest)) (fun v s'=>v = .none∧R (.ok (.ret (.ref (h.objs.size+1)))) s') (fun e s'=>R (.error e) s') ⟨(h.push emptyDict).push (instObj C h.objs.size),g,d,t,os⟩) :
    codeG (model pw w) A (.call (.ref C) ⟨rest,[]⟩) R ⟨h,g,d,t,os⟩:=by
  have Y':=makes_of (M:=model pw w) X hm
  have hi':=looks_findIn (M:=model pw w) X hi
  refine bC fun ng=>?_;obtain ⟨⟨oc,od,cd,sl,hC,e1,e2,e4⟩,made,base,self,top,call,typ⟩:=makes_of (M:=model pw w) X hm;refine ng ?_;clear ng
  refine codeG_tree (wpG_of ?_)
  show wpAny _ _ (callAny (.ref C) _) _ _ _
  refine nd_load hC ?_
  show wpAny _ _ (callAny.viaDunder (.ref C) _) _ _ _
  unfold callAny.viaDunder
  refine wpAny_bind (call.at ?_)
  dsimp only
  rw [tc_bind]
  refine wpAny_bind (wpAny_pure (wpAny_bind (wpAny_pure ?_)))
  refine wpAny_pure (a:=Fin.again (.call (.builtin "type.__call__") ⟨.ref C :: rest,[]⟩)) (And.intro rfl (And.intro rfl ?_))
  refine codeG_tree ?_
  show wpG _ A.in1 (do checkBuiltinCall "type.__call__" ⟨.ref C :: rest,[]⟩; again (.builtin "type.__call__" ⟨.ref C :: rest,[]⟩)) _ _ _
  refine leaf (check_slot tc_kind tc_split typ (tc_args _ _ _) (wpG_pure ⟨calm_tc,Code.quiet_builtin _ (by decide +kernel),codeG_tree ?_⟩))
  rw [den_of entry_typeCall]
  unfold Builtin.«type.__call__»
  have hmro:Looks (model pw w) h (mroOf (.ref C)) cd.mro:=((Looks.ld (part:=none) hC).andThen .now).andThen .now
  refine g_if_false (by rfl) ?_
  refine leaf (hmro.at ?_)
  refine g_if_false e4 ?_
  refine leaf (made.at ?_)
  refine leaf (wpAny_pure ?_)
  refine leaf (wpAny_holding (wpAny_call (new_K Y' hi' (.inl rfl) ?_)))
  have k:∀ b o,h.get? b=some o→((h.push emptyDict).push (instObj C h.objs.size)).get? b=some o:=fun b o e=>Heap.get?_push_of_some _ (Heap.get?_push_of_some _ e)
  have hx:((h.push emptyDict).push (instObj C h.objs.size)).get? (h.objs.size+1)=some (instObj C h.objs.size):=by heap_get
  have t1:Looks (model pw w) ((h.push emptyDict).push (instObj C h.objs.size)) (typeOf (.ref (h.objs.size+1))) (.ref C):=(Looks.ld hx).andThen .now
  have s1:=self.keeps k
  have i1:=hi'.keeps k
  have b1:=(bind_fn (M:=model pw w) X (.ref (h.objs.size+1)) hf).keeps k
  have j1:Looks (model pw w) ((h.push emptyDict).push (instObj C h.objs.size)) (isInstance (.ref (h.objs.size+1)) (.ref C)) true:=t1.andThen s1
  dsimp only
  refine leaf (j1.at ?_)
  refine g_if_false rfl ?_
  refine wpG_bind (wpG_holding ?_)
  unfold callSpecial? specialOf
  refine leaf (wpAny_bind (t1.at (i1.at ?_)))
  dsimp only
  refine wpG_holding ?_
  refine leaf (b1.at ?_)
  dsimp only
  refine wpG_then hq fun v s' z=>?_
  obtain ⟨rfl,z⟩:=z
  refine wpG_pure ?_
  refine g_if_false rfl ?_
  exact wpG_pure z
theorem g_make {rest:List Value} {fI:Addr} (X:K.In h) (hm:makesIn K C=true) (hi:findIn K (.ref C) "__init__" = some (some (.ref fI))) (hf:typeIn K (.ref fI)=some (.type "function"))
    (hq:codeG (model pw w) (A.under (.builtin "type.__call__" ⟨.ref C :: rest,[]⟩)) (.call (.ref fI) ⟨.ref (h.objs.size+1) :: rest,[]⟩) (InitBack (h.objs.size+1) R) ⟨(h.push emptyDict).push (instObj C h.objs.size),g,d,t,os⟩) :
    codeG (model pw w) A (.call (.ref C) ⟨rest,[]⟩) R ⟨h,g,d,t,os⟩:=
  g_makeG X hm hi hf (wpG_call (codeG_mono hq fun r s' z=>by
    rcases r with e | (v | _ | _ | _) <;> first | exact z | exact z.elim))
end
section
variable {w:World} {A:Around} {E:Value→Shared→Prop} {s:Shared}
theorem ba_typeCall:checkTypeCall "bytearray" ⟨[],[]⟩=pure ():=by kernel_rfl
theorem ba_newCall:checkBuiltinCall "bytearray.__new__" ⟨[.type "bytearray"],[]⟩=pure ():=by kernel_rfl
theorem entry_ba_new:entryFor table "bytearray.__new__" = some Builtin.«list.__new__»:=
  entryFor_alias (id':="list.__new__") (by kernel_rfl) (by first | rfl | decide +kernel) (by decide +kernel) (by kernel_rfl)
theorem plain_ba_new:plainId "bytearray.__new__" = true:=by decide +kernel
theorem entry_ba_init:entryFor table "bytearray.__init__" = some Builtin.«bytearray.__init__»:=by first | exact entryFor_of_tree (by kernel_rfl) | exact entryFor_of_fast (by kernel_rfl)
theorem args_ba_init (a:Value):argsOk "bytearray.__init__" ⟨[a],[]⟩:=by unfold argsOk; kernel_rfl
set_option maxRecDepth 1000000 in
set_option maxHeartbeats 4000000 in
theorem owner_ba_new:("bytearray.__new__".splitOn ".__new__").headD "" = "bytearray":=by simp +decide [String.splitOn,String.splitOnAux]
theorem code_ba_new {Q₁:Value→Shared→Prop} (h:Q₁ (.ref s.heap.objs.size) { s with heap:=s.heap.push (byteObj []) }):codeAny (model pw w) A (.call (.builtin "bytearray.__new__") ⟨[.type "bytearray"],[]⟩) (wants Q₁ E) s:=by
  refine codeAny_of_tree ?_
  show wpAny _ A.in1 (do checkBuiltinCall "bytearray.__new__" ⟨[.type "bytearray"],[]⟩; again (.builtin "bytearray.__new__" ⟨[.type "bytearray"],[]⟩)) _ _ s
  refine wpAny_bind (wpAny_of_eq ba_newCall (wpAny_pure ⟨plainId_quiet plain_ba_new _,codeAny_builtin_stack entry_ba_new rfl fun p st=>?_⟩))
  rw [Around.under_plainId plain_ba_new _]
  have hsub:=ba_sub
  have hown:=owner_ba_new
  refine bC fun ng=>?_;obtain ⟨hp,g,d,tk,os⟩:=s;refine ng ?_;clear ng
  simp only [hown]
  wp_walk
  exact h
theorem ba_bind:Builtin.Bytes.bindOptional "bytearray.__init__" "bytearray" ["source","encoding","errors"] [] []=pure [none,none,none]:=by kernel_rfl
theorem calm_ba_init:(!Builtin.Bytes.decodersThatHold.contains "bytearray.__init__")=true:=by decide +kernel
open Builtin.Bytes in
theorem ba_make {Q:Value→Shared→Prop} (hg:A.guards=some []) (h:∀ h',h'.get? s.heap.objs.size=some (byteObj [])→(∀ b o,s.heap.get? b=some o→h'.get? b=some o)→Q (.ref s.heap.objs.size) { s with heap:=h' }):wpG (model pw w) A (call (.type "bytearray") []) Q E s:=by
  refine wpG_call (codeG_tree ?_)
  show wpG _ _ (callAny (.type "bytearray") _) _ _ _
  refine wpG_pure ⟨calm_tc,Code.quiet_builtin _ (by decide +kernel),codeG_tree ?_⟩
  rw [den_of entry_typeCall,Around.under_plain (weight_type_call_type "bytearray" [] []) rfl]
  unfold Builtin.«type.__call__»
  refine g_if_false ba_called.notType ?_
  dsimp only
  refine g_if_false ba_called.canCreate ?_
  refine leaf (wpAny_of_eq ba_typeCall ?_)
  refine leaf (wpAny_of_eq ba_mro ?_)
  refine g_if_false rfl ?_
  refine leaf (wpAny_of_eq ba_called.made ?_)
  refine leaf (wpAny_pure ?_)
  refine leaf (wpAny_holding (wpAny_call (code_ba_new ?_)))
  have hb:(s.heap.push (byteObj [])).get? s.heap.objs.size=some (byteObj []):=Heap.get?_push_size _ rfl
  have hT:({ s with heap:=s.heap.push (byteObj []) }:Shared).TypeIs (.ref s.heap.objs.size) "bytearray":=⟨_,hb,rfl⟩
  refine leaf (wpAny_isInstance hT ba_sub ?_)
  refine g_if_false rfl ?_
  refine wpG_bind (wpG_holding ?_)
  unfold callSpecial?
  refine leaf (wpAny_specialOf hT ba_slot_init.lookup ?_)
  dsimp only
  refine wpG_holding ?_
  refine leaf (wpAny_of_eq (ba_slot_init.bind _) ?_)
  dsimp only
  refine wpG_bind (wpG_call (codeG_tree ?_))
  show wpG _ _ (do checkBuiltinCall "bytearray.__init__" ⟨[.ref s.heap.objs.size],[]⟩; again (.builtin "bytearray.__init__" ⟨[.ref s.heap.objs.size],[]⟩)) _ _ _
  refine leaf (ba_slot_init.check _ _ _ _ _ _ _ _ hT (args_ba_init _) (wpG_pure ⟨calm_ba_init,plainId_quiet ba_slot_init.plain _,codeG_tree ?_⟩))
  rw [den_of entry_ba_init,Around.under_plainId ba_slot_init.plain]
  unfold Builtin.«bytearray.__init__»
  refine leaf (own_release hT ?_)
  refine g_if_false rfl ?_
  refine leaf (wpAny_of_eq ba_bind ?_)
  refine leaf (wpAny_of_eq (a:=()) rfl ?_)
  refine leaf (wpAny_of_eq (a:=()) rfl ?_)
  refine g_exported (A:=A.in1.in1) hg hb ?_
  refine g_if_false rfl ?_
  refine leaf ?_
  show wpAny _ _ (updateBytearray s.heap.objs.size fun ω=>#[]) _ _ _
  unfold updateBytearray
  refine wpAny_bind (wpAny_load hb ?_)
  show wpAny _ _ (update s.heap.objs.size (Obj.mapBytearray fun ω=>#[]) >>= fun ω=>lookBehind s.heap.objs.size) _ _ _
  refine wpAny_bind (wpAny_update hb ?_)
  have hb':((s.heap.push (byteObj [])).update s.heap.objs.size (Obj.mapBytearray fun ω=>#[])).get? s.heap.objs.size=some (byteObj []):=Heap.get?_update_self (Obj.mapBytearray fun ω=>#[]) hb rfl
  refine wpAny_lookBehind hb' ?_ ?_
  · show (if ([]:List UInt8).toArray.size > sizeLine then some "bytearray:memory" else none)=none
    exact if_neg (Nat.not_lt.mpr (Nat.zero_le _))
  · refine leaf (wpAny_of_eq (a:=()) rfl ?_)
    refine wpG_pure ?_
    refine wpG_pure ?_
    refine g_if_false rfl ?_
    refine wpG_pure ?_
    refine h _ hb' fun b o e=>?_
    rw [Heap.get?_update_other _ _ (Ne.symm (Nat.ne_of_lt (Heap.lt_size e)))]
    exact Heap.get?_push_of_some _ e
end
end
section
open Builtin Builtin.ObjectAttr
section
variable {w:World} {A:Around} {E:Value→Shared→Prop} {s:Shared}
set_option tactic.hygienic true in
theorem nsset_dict {d:Addr} {es:List DictEntry} {n:Nat} {name:Str} {v:Value} {Q:Unit→Shared→Prop} (D:s.heap.get? d=some (dictOf es n)) (hl:(getL name es).isSome=true)
    (h:∀ h',h'.get? d=some (dictOf (putL name (PyData.keyHash w.params name) (.str name s.toks) v es) (putN name es n))→Heap.SameBut d s.heap h'→Q () { s with heap:=h',toks:=s.toks+1 }):wpAny (model pw w) A (nsSet d name v) Q E s:=by
  unfold nsSet
  refine wpAny_bind (wpAny_bind (wpAny_askSetting (wpAny_pure (wpAny_bind (wpAny_mkText (wpAny_bind (wpAny_loadPart D ?_)))))))
  dsimp only
  have c:(!es.toArray.any (·.key.isStr name) && es.toArray.any (·.refKey))=false:=by
    unfold getL at hl
    rw [List.any_toArray,List.any_toArray]
    split at hl
    · rename_i en he
      rw [List.any_eq_true.mpr ⟨en,List.mem_of_find?_eq_some he,List.find?_some he⟩]; rfl
    · split at hl
      · cases hl
      · rename_i z; rw [Bool.not_eq_true] at z; rw [z,Bool.and_false]
  rw [aRefKeyMayBeTheName_at,c]
  refine wpAny_updatePart D ?_
  refine h _ ?_ (Heap.SameBut.update ..)
  rw [Heap.get?_update_self _ D (by rw [putName_dict]; rfl),putName_dict]
  rfl
theorem inst_set {K:Frag} {x d C:Addr} {es:List DictEntry} {n:Nat} {name:Str} {v:Value} {Q:Unit→Shared→Prop} (X:K.In s.heap) (hx:s.heap.get? x=some (instObj C d)) (D:s.heap.get? d=some (dictOf es n))
    (hs:findIn K (.ref C) "__setattr__" = some (some (.builtin "object.__setattr__"))) (hp:plainOver K C=true) (ht:takerIn K C name=some none) (hh:hasDictIn K C=true) (hl:(getL name es).isSome=true)
    (hz:∀ k,(putL name (PyData.keyHash w.params name) k v es).length≤1000)
    (h:∀ h' tk tk',h'.get? d=some (dictOf (putL name (PyData.keyHash w.params name) (.str name tk) v es) (putN name es n))→Heap.SameBut d s.heap h'→Q () { s with heap:=h',toks:=tk' }):wpAny (model pw w) A (setAttr (.ref x) name v) Q E s:=by
  have I:InstAt s.heap x (instObj C d) C (some (dictOf es n)):=⟨hx,rfl,rfl,D⟩
  refine set_plain X I hs (osa_open (s:={ s with toks:=s.toks+1 }) X I hp ht fun b=>?_)
  obtain ⟨cd,hc,hd'⟩:=any_some hh
  refine wpAny_bind (wpAny_pure (wpAny_bind (wpAny_bind (wpAny_loadPart hx (wpAny_bind ((looks_clsIn (h:=s.heap) X hc).at ?_))))))
  rw [hd']
  refine wpAny_pure (a:=some d) (wpAny_bind (wpAny_pure (wpAny_bind ?_)))
  refine nsset_dict (s:={ s with toks:=s.toks+1 }) D hl fun h' D' hs'=>?_
  refine wpAny_bind (wpAny_lookBehind D' (pastItsLine_dict (by rw [List.size_toArray,sizeLine_eq]; exact Nat.le_trans (hz _) (by omega))) ?_)
  exact wpAny_pure (h _ _ _ D' hs')
theorem lse_facts (P:Params):findIn (KF P) (.ref aLSE) "__setattr__" = some (some (.builtin "object.__setattr__"))∧(clsIn (KF P) aLSE).map (fun cd=>(cd.mro,cd.hasDict))=some ([.ref 87,.ref 74,.type "Exception",.type "BaseException",.type "object"],true):=⟨by kernel_rfl,by kernel_rfl⟩
theorem lse_names (P:Params):findIn (KF P) (.ref aLSE) "value" = some none∧findIn (KF P) (.ref aLSE) "trace" = some none∧findIn (KF P) (.ref aLSE) "is_in_handler" = some none:=⟨by kernel_rfl,by kernel_rfl,by kernel_rfl⟩
theorem lse_cls (P:Params):∃ cd,clsIn (KF P) aLSE=some cd∧cd.mro=[.ref 87,.ref 74,.type "Exception",.type "BaseException",.type "object"]∧cd.hasDict=true:=by
  obtain ⟨cd,h1,h2⟩:=Option.map_eq_some_iff.mp (lse_facts P).2
  exact ⟨cd,h1,congrArg Prod.fst h2,congrArg Prod.snd h2⟩
theorem exc_open {x:Addr} {dd:Option Addr} {vs:Array Value} {sl:Array (Option Value)} {name:Str} {v:Value} {Q:Unit→Shared→Prop} (X:(KF w.params).In s.heap) (hx:s.heap.get? x=some ⟨.ref aLSE,dd,.fields vs,sl⟩) (hn:findIn (KF w.params) (.ref aLSE) name=some none)
    (h:wpAny (model pw w) A.in1 (instanceDict x true) (fun r s'=>∃ d,r=some d∧wpAny (model pw w) A.in1 (storeInDict d (.str name s.toks) name v) (fun fin s''=>∃ r,fin = .done (.ret r)∧Q () s'') E s') E { s with toks:=s.toks+1 }):wpAny (model pw w) A (setAttr (.ref x) name v) Q E s:=by
  obtain ⟨cd,hc,hm,hd⟩:=lse_cls w.params
  have t1:Looks (model pw w) s.heap (typeOf (.ref x)) (.ref aLSE):=(Looks.ld hx).andThen .now
  refine wpAny_bind (wpAny_mkText (wpAny_bind (wpAny_bind (wpAny_bind (t1 _ _ _ _ (fun ω ω e=>e) (looks_findIn X (lse_facts _).1 _ _ _ _ (fun ω ω e=>e) (wpAny_holding ?_)))))))
  rw [PySem.F.store_object.slot.bind]
  refine wpAny_bind (wpAny_pure (wpAny_bind (wpAny_call ?_)))
  have SF:=PySem.F.store_object
  have hmro:Looks (model pw w) s.heap (mroOf (.ref aLSE)) cd.mro:=(looks_clsIn X hc).andThen .now
  have sub:Looks (model pw w) s.heap (isInstance (.ref x) (.type "object")) true:=t1.andThen (looks_mroIn X (by unfold mroIn; rw [hc,Option.bind_some,hm]; rfl))
  refine codeAny_call_builtin SF.slot.plain SF.entry (@check_slot (model pw w) _ _ { s with toks:=s.toks+1 } "object.__setattr__" "object" "__setattr__" (.ref x) [.str name s.toks,v] [] _ SF.kind SF.split sub (SF.args (.ref x) (.str name s.toks) v) ?_)
  show wpAny _ _ («object.__setattr__» ⟨[.ref x,.str name s.toks,v],[]⟩) _ _ _
  rw [osa_eq,refuse_eq]
  refine wpAny_bind (wpAny_bind (t1.at (wpAny_bind (hmro.at ?_))))
  rw [hm,refuseLoop_ref,refuseLoop_ref,PySem.F.store_Exception.passes]
  refine wpAny_pure (wpAny_bind (t1.at (wpAny_bind ((looks_findIn X hn).at (wpAny_bind (wpAny_pure ?_))))))
  show wpAny _ _ (storeInOwnDict _ _ _ _ _ _) _ _ _
  unfold storeInOwnDict
  refine wpAny_bind (wpAny_pure ?_)
  refine bm_if_false rfl ?_
  refine wpAny_bind (wpAny_mono h (fun r s' z=>?_) fun ω ω z=>z)
  obtain ⟨d,rfl,z⟩:=z
  refine wpAny_mono z (fun fin s'' y=>?_) fun ω ω y=>y
  obtain ⟨r,rfl,y⟩:=y
  exact wpAny_pure (wpAny_pure y)
theorem exc_set_first {x:Addr} {vs:Array Value} {sl:Array (Option Value)} {name:Str} {v:Value} {Q:Unit→Shared→Prop} (X:(KF w.params).In s.heap) (hx:s.heap.get? x=some ⟨.ref aLSE,none,.fields vs,sl⟩) (hn:findIn (KF w.params) (.ref aLSE) name=some none)
    (h:∀ h' tk k hk,h'.get? x=some ⟨.ref aLSE,some s.heap.objs.size,.fields vs,sl⟩→h'.get? s.heap.objs.size=some (dictOf [⟨hk,.str name k,v⟩] 1)→(∀ b o,b≠x→s.heap.get? b=some o→h'.get? b=some o)→Q () { s with heap:=h',toks:=tk }):wpAny (model pw w) A (setAttr (.ref x) name v) Q E s:=by
  obtain ⟨cd,hc,hm,hd⟩:=lse_cls w.params
  refine exc_open X hx hn ?_
  unfold instanceDict
  refine wpAny_bind (wpAny_loadPart hx ?_)
  refine wpAny_bind ((looks_clsIn (h:=s.heap) X hc).at ?_)
  rw [hd]
  refine bm_if_false rfl ?_
  refine bm_if_false rfl ?_
  refine wpAny_bind (wpAny_alloc ?_)
  have hxs:x≠s.heap.objs.size:=Nat.ne_of_lt (Heap.lt_size hx)
  have hx1:(s.heap.push { cls:=.type "dict",data:=.dict #[] }).get? x=some ⟨.ref aLSE,none,.fields vs,sl⟩:=Heap.get?_push_of_some _ hx
  refine wpAny_bind (wpAny_update hx1 ?_)
  refine wpAny_pure ⟨_,rfl,?_⟩
  unfold storeInDict newKeyGuard
  refine wpAny_bind (wpAny_pure (wpAny_bind ?_))
  have D:((s.heap.push { cls:=.type "dict",data:=.dict #[] }).update x fun o=>{ cls:=o.cls,dict:=some s.heap.objs.size,data:=o.data,slots:=o.slots }).get? s.heap.objs.size=some (dictOf [] 0):=
    (Heap.get?_update_ne _ _ _ _ hxs.symm).trans (Heap.get?_push_at rfl rfl)
  have hx2:((s.heap.push { cls:=.type "dict",data:=.dict #[] }).update x fun o=>{ cls:=o.cls,dict:=some s.heap.objs.size,data:=o.data,slots:=o.slots }).get? x=some ⟨.ref aLSE,some s.heap.objs.size,.fields vs,sl⟩:=
    Heap.get?_update_self _ hx1 rfl
  refine nsset_dict (s:={ s with heap:=_,toks:=s.toks+1 }) D rfl fun h' D' hs'=>?_
  refine wpAny_bind (wpAny_lookBehind D' (pastItsLine_dict (by rw [List.size_toArray,sizeLine_eq]; exact (by decide:(1:Nat)≤16777216+1))) ?_)
  refine wpAny_pure ⟨_,rfl,h h' _ _ _ ((hs'.2 x hxs).trans hx2) D' fun b o hb e=>?_⟩
  refine (hs'.2 b (Nat.ne_of_lt (Heap.lt_size e))).trans ?_
  exact (Heap.get?_update_ne _ _ _ _ hb).trans (Heap.get?_push_of_some _ e)
theorem exc_set_more {x d:Addr} {vs:Array Value} {sl:Array (Option Value)} {es:List DictEntry} {n:Nat} {name:Str} {v:Value} {Q:Unit→Shared→Prop} (X:(KF w.params).In s.heap) (hx:s.heap.get? x=some ⟨.ref aLSE,some d,.fields vs,sl⟩) (D:s.heap.get? d=some (dictOf es n)) (hn:findIn (KF w.params) (.ref aLSE) name=some none)
    (hl:(getL name es).isSome=true) (hz:∀ k,(putL name (PyData.keyHash w.params name) k v es).length≤1000)
    (h:∀ h' tk k,h'.get? d=some (dictOf (putL name (PyData.keyHash w.params name) (.str name k) v es) (putN name es n))→Heap.SameBut d s.heap h'→Q () { s with heap:=h',toks:=tk }):wpAny (model pw w) A (setAttr (.ref x) name v) Q E s:=by
  obtain ⟨cd,hc,hm,hd⟩:=lse_cls w.params
  refine exc_open X hx hn ?_
  unfold instanceDict
  refine wpAny_bind (wpAny_loadPart hx ?_)
  refine wpAny_bind ((looks_clsIn (h:=s.heap) X hc).at ?_)
  rw [hd]
  refine bm_if_false rfl ?_
  refine wpAny_pure ⟨_,rfl,?_⟩
  unfold storeInDict newKeyGuard
  refine wpAny_bind (wpAny_pure (wpAny_bind ?_))
  refine nsset_dict (s:={ s with toks:=s.toks+1 }) D hl fun h' D' hs'=>?_
  refine wpAny_bind (wpAny_lookBehind D' (pastItsLine_dict (by rw [List.size_toArray,sizeLine_eq]; exact Nat.le_trans (hz _) (by omega))) ?_)
  exact wpAny_pure ⟨_,rfl,h h' _ _ D' hs'⟩
end
end
section
variable {prog:Program} {w:World} {A:Around} {E:Value→Shared→Prop} {s:Shared} {R:Result→Shared→Prop} {env:Env}
theorem g_func {body:List Stmt} (h:wpG (model prog w) (A.deeper env) (execs body env) (fun f s'=>R (.ok (.ret (match f with | .ret v=>v | _=>.none))) s')
      (fun e s'=>wpG (model prog w) (A.deeper env) (leaving env e) (fun ω s''=>R (.error e) s'') (fun e' s''=>R (.error e') s'') s') s):codeG (model prog w) A (.func body env) R s:=by
  refine codeG_tree ?_
  show wpG _ (A.deeper env) (do point; match ← (execs body env).onRaise (leaving env) with | .ret v=>ret v | _=>ret .none) _ _ s
  refine leaf (wpAny_point (wpG_bind (wpG_onRaise (wpG_mono h (fun f s' h'=>?_) fun ω ω h'=>h'))))
  cases f <;> exact wpG_pure h'
theorem g_function {a:Addr} {args:Args} {o:Obj} {fd:FuncData} {body:List Stmt} (hroom:A.depth < recursionLimit) (ho:s.heap.get? a=some o) (hd':o.data = .func fd) (hco:fd.scope.isCoroutine=false) (hgen:fd.scope.isGenerator=false) (hbody:fd.body = .stmts body) (hcd:s.heap.CodeRec fd.code fd.qualname)
    (h:wpAny (model prog w) A.in1 (bindArgs fd args) (fun binds s₁=>
      wpAny (model prog w) A.in1 (newFunctionEnv fd.scope fd.globals fd.closure binds (fd.qualname ++ ".<locals>.") (some a) fd.code none fd.builtins)
        (fun env s₂=>s₂.heap.NoLimit∧codeG (model prog w) A (.func body env) R s₂) (fun e s'=>R (.error e) s') s₁) (fun e s'=>R (.error e) s') s) :
    codeG (model prog w) A (.call (.ref a) args) R s:=by
  refine codeG_tree (wpG_of ?_)
  show wpAny _ A.in1 (callAny (.ref a) args) _ _ s
  show wpAny _ A.in1 (load a >>= _) _ _ s
  refine wpAny_bind (wpAny_load ho ?_)
  dsimp only
  rw [hd']
  show wpAny _ A.in1 (callFunction a fd args) _ _ s
  refine bC fun ng=>?_;obtain ⟨c,oc,vs,tq,hc,hoc,hdc,hq⟩:=hcd;refine ng ?_;clear ng
  unfold callFunction
  rw [hco,hgen,hbody]
  rw [hc] at h ⊢
  refine wpAny_bind (m:=field (.ref c) 1) (wpAny_field hoc hdc hq (wpAny_bind (wpAny_pure ?_)))
  exact wpAny_bind (wpAny_mono h (fun binds s₁ h₁=>wpAny_bind (wpAny_mono h₁ (fun env s₂ h₂=>wpAny_bind (wpAny_enterFrame h₂.1 hroom
    (wpAny_pure (And.intro rfl (And.intro rfl h₂.2))))) fun ω ω h'=>h')) fun ω ω h'=>h')
theorem g_call_def {a:Addr} {o:Obj} {fd:FuncData} {body:List Stmt} {args:Args} {binds:List (Str × Value)}
    (hroom:A.depth < recursionLimit) (ho:s.heap.get? a=some o) (hdata:o.data = .func fd) (hlim:s.heap.NoLimit) (hcd:s.heap.CodeRec fd.code fd.qualname)
    (hbody:fd.body = .stmts body) (hbind:BindsTo s fd args binds) (hcell:∀ x∈fd.scope.names,x.2 ≠ .cell) (hloc:∀ x∈binds,fd.scope.names.lookup x.1=some .local)
    (h:∀ h₀,h₀.Ns s.heap.objs.size (fun x=>binds.reverse.lookup x)→(∀ b o,s.heap.get? b=some o→h₀.get? b=some o)→
      wpG (model prog w) (A.deeper (callEnv fd s.heap.objs.size a)) (execs body (callEnv fd s.heap.objs.size a)) (fun f s'=>R (.ok (.ret (match f with | .ret v=>v | _=>.none))) s')
        (fun e s'=>wpG (model prog w) (A.deeper (callEnv fd s.heap.objs.size a)) (leaving (callEnv fd s.heap.objs.size a) e) (fun ω s''=>R (.error e) s'') (fun e' s''=>R (.error e') s'') s')
        { s with heap:=h₀,toks:=s.toks+binds.length })
    (hco:fd.scope.isCoroutine=false) (hgen:fd.scope.isGenerator=false) (hk:fd.scope.kind = .function) :
    codeG (model prog w) A (.call (.ref a) args) R s:=by
  refine g_function hroom ho hdata hco hgen hbody hcd (hbind _ _ _ _ ?_)
  refine wpAny_newFunctionEnv hcell hloc (fun h₀ hns₀ hsb₀=>⟨hlim.fresh _ hsb₀,g_func (h h₀ hns₀ fun b o e=>?_)⟩) hk
  exact hsb₀.extBut b o (Nat.ne_of_lt (Heap.lt_size e)) (Heap.get?_push_of_some _ e)
end
section
variable {prog:Program} {w:World} {M:Model} {A:Around} {E:Value→Shared→Prop} {s:Shared} {env:Env}
theorem g_Assign_Attr {o:Expr} {attr:Str} {pos':Pos} {value:Expr} {pos:Pos} {Q:Flow→Shared→Prop} (h:wpG M A (eval value env) (fun v s₁=>wpG M A (eval o env) (fun ov s₂=>wpAny M A (setAttr ov attr v) (fun ω=>Q .next) E s₂) E s₁) E s)
    (hs:swapsWith value (some (.Attribute o attr pos')) pos.line env=pure false):wpG M A (exec (.Assign [.Attribute o attr pos'] value pos) env) Q E s:=by
  rw [plainObj_exec_Assign_Attribute o attr pos' value pos hs]
  refine leaf (wpAny_standAt (wpG_then h fun v s₁ h₁=>?_))
  refine wpG_bind ?_
  rw [assign_Attribute]
  refine wpG_bind (wpG_holding (wpG_mono h₁ (fun ov s₂ h₂=>?_) fun ω ω x=>x))
  exact leaf (wpAny_standAt (leaf (wpAny_holding (wpAny_mono h₂ (fun ω ω q=>wpG_of (wpAny_release' (wpG_pure q))) fun ω ω x=>x))))
theorem g_Assign_Tuple {elts:List Expr} {k:Nat} {tpos:Pos} {value:Expr} {pos:Pos} {Q:Flow→Shared→Prop} (h:wpG M A (eval value env) (fun v s₁=>wpAny M A (assign (.Tuple elts k tpos) env v) (fun ω=>Q .next) E s₁) E s)
    (hs:swapsWithSole [.Tuple elts k tpos] value pos.line env=pure false) (hw:swappedStores [.Tuple elts k tpos] value env=pure none):wpG M A (exec (.Assign [.Tuple elts k tpos] value pos) env) Q E s:=by
  rw [exec_Assign]
  refine leaf (wpAny_standAt ?_)
  rw [hs]
  refine leaf (wpAny_pure ?_)
  rw [if_neg (by decide)]
  refine wpG_then h fun v s₁ h₁=>?_
  rw [hw]
  refine leaf (wpAny_pure ?_)
  show wpG M A (do assignAll v [assign (.Tuple elts k tpos) env]; pure .next) Q E s₁
  exact leaf (wpAny_mono h₁ (fun ω ω x=>wpG_pure x) fun ω ω x=>x)
theorem g_Assign_Swapped {elts:List Expr} {k:Nat} {tpos:Pos} {value:Expr} {pos:Pos} {names:List Str} {Q:Flow→Shared→Prop}
    (h:wpG M A (eval value env) (fun v s₁=>wpAny M A (unpackItems v names.length none) (fun items s₂=>wpAny M A (assignInOrder (names.reverse.map fun n=>bindName env n) items.reverse) (fun ω=>Q .next) E s₂) E s₁) E s)
    (hs:swapsWithSole [.Tuple elts k tpos] value pos.line env=pure false) (hw:swappedStores [.Tuple elts k tpos] value env=pure (some names)):wpG M A (exec (.Assign [.Tuple elts k tpos] value pos) env) Q E s:=by
  rw [exec_Assign]
  refine leaf (wpAny_standAt ?_)
  rw [hs]
  refine leaf (wpAny_pure ?_)
  rw [if_neg (by decide)]
  refine wpG_then h fun v s₁ h₁=>?_
  rw [hw]
  refine leaf (wpAny_pure ?_)
  show wpG M A (do rule "assign.swapped-stores"; let items ← unpackItems v names.length none; assignInOrder (names.reverse.map fun n=>bindName env n) items.reverse; pure .next) Q E s₁
  exact leaf (wpAny_rule (leaf (wpAny_mono h₁ (fun items s₂ h₂=>leaf (wpAny_mono h₂ (fun ω ω x=>wpG_pure x) fun ω ω x=>x)) fun ω ω x=>x)))
theorem g_AugName {x:Str} {npos pos:Pos} {op:Operator} {value:Expr} {Q:Flow→Shared→Prop}
    (h:wpAny M A (loadName env x) (fun old s₁=>wpG M A (eval value env) (fun v s₂=>wpAny M A (inplaceOp op old v) (fun r s₃=>wpAny M A (storeName env x r) (fun ω=>Q .next) E s₃) E s₂) E s₁) E s):wpG M A (exec (.AugAssign (.Name x npos) op value pos) env) Q E s:=by
  rw [arm_exec_AugAssign]
  refine leaf (wpAny_standAt (leaf (wpAny_mono h (fun old s₁ h₁=>?_) fun ω ω x=>x)))
  refine wpG_bind (wpG_holding (wpG_mono h₁ (fun v s₂ h₂=>?_) fun ω ω x=>x))
  refine leaf (wpAny_standAt ?_)
  refine wpG_bind (wpG_operate (wpG_of (wpAny_mono h₂ (fun r s₃ h₃=>?_) fun ω ω x=>x)))
  exact leaf (wpAny_standAt (leaf (wpAny_bindName (wpAny_mono h₃ (fun ω ω q=>wpG_pure q) fun ω ω x=>x))))
theorem g_AugAttr {o value:Expr} {attr:Str} {tpos pos:Pos} {op:Operator} {Q:Flow→Shared→Prop}
    (h:wpG M A (eval o env) (fun ov s₁=>wpAny M A (getAttr ov attr true) (fun old s₂=>wpG M A (eval value env) (fun v s₃=>wpAny M A (inplaceOp op old v) (fun new s₄=>wpAny M A (setAttr ov attr new) (fun ω=>Q .next) E s₄) E s₃) E s₂) E s₁) E s) :
    wpG M A (exec (.AugAssign (.Attribute o attr tpos) op value pos) env) Q E s:=by
  rw [arm_exec_AugAssign_2]
  refine leaf (wpAny_standAt (wpG_then h fun ov s₁ h₁=>?_))
  refine wpG_bind (wpG_holding ?_)
  refine leaf (wpAny_standAt (leaf (wpAny_mono h₁ (fun old s₂ h₂=>?_) fun ω ω x=>x)))
  refine wpG_bind (wpG_holding (wpG_mono h₂ (fun v s₃ h₃=>?_) fun ω ω x=>x))
  refine leaf (wpAny_standAt ?_)
  refine wpG_operate (wpG_of (wpAny_mono h₃ (fun new s₄ h₄=>?_) fun ω ω x=>x))
  exact leaf (wpAny_standAt (leaf (wpAny_holding (wpAny_mono h₄ (fun ω ω q=>wpG_bind (wpG_of (wpAny_release' (wpG_pure q)))) fun ω ω x=>x))))
theorem g_Expr {e:Expr} {pos:Pos} {Q:Flow→Shared→Prop} (h:wpG (model prog w) A (eval e env) (fun ω=>Q .next) E s) (hi:interactive env=false) (hs:swapsWith e none pos.line env=pure false):wpG (model prog w) A (exec (.Expr e pos) env) Q E s:=by
  rw [exec_Expr env e pos hi hs]
  exact leaf (wpAny_standAt (wpG_then h fun v s' h'=>wpG_of (wpAny_dropValue h')))
theorem g_noted {α:Type} {m:Sem α} {Q:α→Shared→Prop} (h:wpG M A m Q (notedBy M A env E) s):wpG M A (m.onRaise fun x=>do noteFrame x env; theTreesLotGoes x) Q E s:=
  wpG_onRaise (wpG_mono h (fun ω ω q=>q) fun ω ω hx=>leaf (wpAny_mono hx (fun ω ω e=>wpG_of (wpAny_theTreesLotGoes e)) fun ω ω e=>e))
theorem g_runOwn {c:Code} {h:Option Value} {Q:Flow→Shared→Prop} (hcalm:calm c=true)
    (hc:codeG M (A.mark h) c (fun r s'=>match r with | .ok f=>Q f s' | .error e=>cameBackBy M A env E e s') s) (hnb:h≠some byPass:=by intro x; cases x):wpG M A (runOwn c env h) Q E s:=by
  unfold runOwn
  refine wpG_onRaise ?_
  refine wpG_mono (wpG_run hcalm hc hnb) (fun ω ω q=>q) fun e s' q=>?_
  exact wpG_of q
theorem g_While {test:Expr} {body orelse:List Stmt} {pos:Pos} {Q:Flow→Shared→Prop}
    (h:codeG M A (.whileLoop test body orelse env) (fun r s'=>match r with | .ok f=>Q f s' | .error e=>cameBackBy M A env E e s') s):wpG M A (exec (.While test body orelse pos) env) Q E s:=by
  rw [exec_While]; exact leaf (wpAny_standAt (g_runOwn rfl h))
theorem g_whileLoop {R:Result→Shared→Prop} {test:Expr} {body:List Stmt} (I:Nat→Shared→Prop)
    (turn:∀ n s,I n s→wpG (model prog w) A (PySem.isTrue test env (eval test env)) (fun b s₂=>
        if b then wpG (model prog w) A (execs body env) (fun f s₃=>match f with
            | .next | .cont=>∃ m,m < n∧I m s₃
            | .brk=>R (.ok .next) s₃
            | .ret v=>R (.ok (.ret v)) s₃) (notedBy (model prog w) A env fun e s'=>R (.error e) s') s₂
        else R (.ok .next) s₂) (notedBy (model prog w) A env fun e s'=>R (.error e) s') s)
    (n:Nat) (h:I n s):codeG (model prog w) A (.whileLoop test body [] env) R s:=by
  refine codeG_loop rfl rfl I (fun n s hI=>?_) n h
  show wpG _ A ((whileTurn test body [] env).onRaise (fun x=>do noteFrame x env; theTreesLotGoes x)) _ _ s
  refine g_noted ?_
  simp only [whileTurn]
  refine wpG_then (turn n s hI) fun b s₂ h₂=>?_
  cases b with
  | false=>
    simp only [Bool.false_eq_true,if_false] at h₂ ⊢
    exact leaf (wpAny_execs_nil (wpG_pure h₂))
  | true=>
    simp only [if_true] at h₂ ⊢
    refine wpG_then h₂ fun f s₃ h₃=>?_
    cases f with
    | next=>exact wpG_pure ⟨rfl,h₃⟩
    | cont=>exact wpG_pure ⟨rfl,h₃⟩
    | brk=>exact wpG_pure h₃
    | ret v=>exact wpG_pure h₃
end
section
variable {prog:Program} {w:World} {M:Model} {A:Around} {E:Value→Shared→Prop} {s:Shared} {env:Env}
noncomputable abbrev noE:Value→Shared→Prop:=fun _ _=>False
theorem wpG_noE {α:Type} {t:Sem α} {Q:α→Shared→Prop} (h:wpG M A t Q noE s):wpG M A t Q E s:=wpG_mono h (fun ω ω q=>q) fun ω ω q=>q.elim
theorem g_handlers_test {R:Result→Shared→Prop} {e:Value} {t:Expr} {pos:Pos}
    (h:wpAny (model prog w) A (eval t env) (fun c s₁=>wpAny (model prog w) A (excMatches e c) (fun b s₂=>R (.ok (if b then .brk else .next)) s₂) noE s₁) noE s) :
    codeG (model prog w) A (.handlers e [.ExceptHandler (some t) none [] pos] env) R s:=by
  refine codeG_tree ?_
  show wpG _ A (do return Fin.done (← (handleWith e env [.ExceptHandler (some t) none [] pos]).onRaise (fun x=>do noteFrame x env; theTreesLotGoes x))) _ _ s
  refine wpG_bind (wpG_onRaise (wpG_noE ?_))
  unfold handleWith
  exact leaf (wpAny_standAt (leaf (wpAny_mono h (fun c s₁ h₁=>leaf (wpAny_standAt (leaf (wpAny_mono h₁ (fun b s₂ h₂=>wpG_pure (wpG_pure h₂)) fun ω ω x=>x)))) fun ω ω x=>x)))
theorem g_handlers_as {R:Result→Shared→Prop} {e:Value} {n:Str} {b₀:Stmt} {body:List Stmt} {pos:Pos}
    (h:wpAny (model prog w) A (setFlight e none) (fun ω s₁=>wpAny (model prog w) A (bindName env n e) (fun ω s₂=>wpG (model prog w) A (execs (b₀ :: body) env) (fun f s₃=>R (.ok f) s₃) noE s₂) noE s₁) noE s) :
    codeG (model prog w) A (.handlers e [.ExceptHandler none (some n) (b₀ :: body) pos] env) R s:=by
  refine codeG_tree ?_
  show wpG _ A (do return Fin.done (← (handleWith e env [.ExceptHandler none (some n) (b₀ :: body) pos]).onRaise (fun x=>do noteFrame x env; theTreesLotGoes x))) _ _ s
  refine wpG_bind (wpG_onRaise (wpG_noE ?_))
  unfold handleWith
  refine leaf (wpAny_standAt (leaf (wpAny_mono h (fun ω s₁ h₁=>?_) fun ω ω x=>x)))
  refine leaf (wpAny_mono h₁ (fun ω s₂ h₂=>?_) fun ω ω x=>x)
  refine wpG_bind (wpG_attempt (wpG_mono h₂ (fun f s₃ h₃=>?_) fun ω ω x=>x.elim))
  exact wpG_pure (wpG_pure h₃)
theorem g_handleBy {e:Value} {t:Expr} {n:Str} {b₀:Stmt} {body:List Stmt} {pos:Pos} {rest:List ExceptHandler} {Q:Flow→Shared→Prop} (hnb:e≠byPass)
    (h:wpAny (model prog w) (A.mark (some e)) (eval t env) (fun c s₁=>wpAny (model prog w) (A.mark (some e)) (excMatches e c) (fun b s₂=>b=true∧
      wpAny (model prog w) (A.mark (some e)) (setFlight e none) (fun ω s₃=>wpAny (model prog w) (A.mark (some e)) (bindName env n e) (fun ω s₄=>wpG (model prog w) (A.mark (some e)) (execs (b₀ :: body) env) (fun f s₅=>
        wpAny (model prog w) A (do bindName env n .none; unbindBehindTheSuite env n pos) (fun ω s₆=>Q f s₆) E s₅) noE s₄) noE s₃) noE s₂) noE s₁) noE s) :
    wpG (model prog w) A (handleBy e env (.ExceptHandler (some t) (some n) (b₀ :: body) pos :: rest)) Q E s:=by
  rw [handleBy]
  have hnb':(some e:Option Value)≠some byPass:=fun x=>hnb (Option.some.inj x)
  refine wpG_bind (wpG_holding (g_runOwn (c:=.handlers e [.ExceptHandler (some t) none [] pos] env) rfl ?_ hnb'))
  refine g_handlers_test (wpAny_mono h (fun c s₁ h₁=>wpAny_mono h₁ (fun b s₂ h₂=>?_) fun ω ω x=>x) fun ω ω x=>x)
  obtain ⟨rfl,h₂⟩:=h₂
  refine leaf (wpAny_pure ?_)
  refine g_if_false rfl ?_
  refine wpG_bind (wpG_holding (g_runOwn (c:=.handlers e [.ExceptHandler none (some n) (b₀ :: body) pos] env) rfl ?_ hnb'))
  refine g_handlers_as (wpAny_mono h₂ (fun ω s₃ h₃=>wpAny_mono h₃ (fun ω s₄ h₄=>wpG_mono h₄ (fun f s₅ h₅=>?_) fun ω ω x=>x) fun ω ω x=>x) fun ω ω x=>x)
  exact leaf (wpAny_holding (wpAny_mono h₅ (fun ω ω q=>wpG_pure q) fun ω ω x=>x))
theorem g_Try {body:List Stmt} {h₀:ExceptHandler} {hs:List ExceptHandler} {pos:Pos} {Q:Flow→Shared→Prop}
    (h:wpG M A (execs body env) (fun f s₁=>Q f s₁)
      (fun e s₁=>wpAny M A (noteFrame e env) (fun ω s₂=>wpAny M A (setFlight e none) (fun ω s₃=>wpG M A (handleBy e env (h₀ :: hs)) Q E s₃) E s₂) E s₁) s) :
    wpG M A (exec (.Try body (h₀ :: hs) [] [] pos) env) Q E s:=by
  rw [arm_exec_Try]
  refine leaf (wpAny_standAt ?_)
  unfold tryStmt
  refine g_if_true rfl ?_
  refine wpG_bind (wpG_attempt (wpG_mono h (fun f s₁ h₁=>?_) fun e s₁ h₁=>?_))
  · cases f with
    | next=>exact wpG_of (wpAny_execs_nil h₁)
    | _=>exact wpG_pure h₁
  · exact leaf (wpAny_mono h₁ (fun ω ω h₂=>leaf h₂) fun ω ω x=>x)
end
section
open Builtin
noncomputable abbrev bmL:List Value:=[.ref 74,.type "Exception",.type "BaseException",.type "object"]
noncomputable abbrev lseObj (P:Params):Obj:=excClassObj (Str.ofString "LuaSyntaxError") (Str.ofString "LuaSyntaxError") 87 86 [.ref 74] bmL true [] [] false none none (some (.ref 78)) none (some (sv "LuaSyntaxError" 300)) (some (sv "LuaSyntaxError" 308)) (some (.bool true)) "Exception.__new__"
theorem lse_at (P:Params):List.lookup 87 (KF P)=some (lseObj P):=by kernel_rfl
theorem lse_more (P:Params):findIn (KF P) (.ref 87) "__init__" = some (some (.ref 71))∧typeIn (KF P) (.ref 71)=some (.type "function")∧specialIn (KF P) (.ref 87) "__call__" = some (some (.builtin "type.__call__"))∧instIn (KF P) (.ref 87) (.type "type")=some true:=⟨by kernel_rfl,by kernel_rfl,by kernel_rfl,by kernel_rfl⟩
noncomputable abbrev excObj (t:Addr):Obj:={ cls:=.ref 87,data:=.fields #[.ref t,.none,.none,.none,.bool false,.none] }
section
variable {w:World} {A:Around} {R:Result→Shared→Prop} {h:Heap} {g:Array GenState} {d:Drawn} {t:Nat} {os:OsState}
theorem lse_check {M:Model} {E:Value→Shared→Prop} {P:Params} {rest:List Value} {Q:Unit→Shared→Prop} (hC:h.get? 87=some (lseObj P)) (hq:Q () ⟨h,g,d,t,os⟩):wpAny M A (checkBuiltinCall "Exception.__new__" ⟨.ref 87 :: rest,[]⟩) Q E ⟨h,g,d,t,os⟩:=by
  have F:=F.excBase_Exception
  have hcont:(Value.ref 87 :: bmL).contains (.type "Exception")=true:=by decide +kernel
  have hstar:=F.noStar
  simp only [checkBuiltinCall,F.newKind,F.newSplit,F.newRow]
  repeat (first | refine wpAny_loadPart_at hC ?_ | (refine wpAny_isSubtype_exc hC ?_; rw [hcont]) | refine wpAny_staticBase_exc hC ?_ | refine wpAny_madeBy_exc hC ?_ | simp only [bne_self_eq_false,Bool.false_eq_true,if_false] | wp_step)
  exact hq
theorem lse_new {P:Params} {v:Value} (hC:h.get? 87=some (lseObj P))
    (hq:R (.ok (.ret (.ref (h.objs.size+1)))) ⟨(h.push (tupObj [v])).push (excObj h.objs.size),g,d,t,os⟩) :
    codeAny (model pw w) A (.call (.builtin "Exception.__new__") ⟨[.ref 87,v],[]⟩) R ⟨h,g,d,t,os⟩:=by
  have F:=F.excBase_Exception
  have hends:=F.ends
  have hcB:(Value.ref 87 :: bmL).contains (.type "Exception")=true:=by decide +kernel
  have hcA:(Value.ref 87 :: bmL).contains (.type "AttributeError")=false:=by decide +kernel
  have hcN:(Value.ref 87 :: bmL).contains (.type "NameError")=false:=by decide +kernel
  refine codeAny_call_builtin_code (Code.quiet_builtin _ F.quiet) (lse_check hC ?_)
  refine codeAny_builtinAt F.entry ?_
  unfold Builtin.«BaseException.__new__»
  refine PySem.wpAt_bind ?_
  show PySem.wpAt _ _ _ (stack >>= _) _ _ _
  refine PySem.wpAt_bind (PySem.wpAt_stack fun p below=>PySem.wpAt_of_wpAny ?_)
  wp_walk
  refine PySem.wpAt_of_wpAny ?_
  rw [F.owner]
  have hrest:[v].length≤sizeLine:=by rw [sizeLine_eq]; simp
  repeat (first | with_reducible refine wpAny_madeHere_exc F.canon hC ?_ | with_reducible refine wpAny_loadPart_at hC ?_ | (with_reducible refine wpAny_isSubtype_exc hC ?_; first | rw [hcB] | rw [hcA] | rw [hcN]) | wp_step)
  show R _ _
  rw [Heap.size_push]
  exact hq
theorem g_lse {v:Value} (X:(KF w.params).In h)
    (hq:codeG (model pw w) (A.under (.builtin "type.__call__" ⟨[.ref 87,v],[]⟩)) (.call (.ref 71) ⟨[.ref (h.objs.size+1),v],[]⟩) (InitBack (h.objs.size+1) R) ⟨(h.push (tupObj [v])).push (excObj h.objs.size),g,d,t,os⟩) :
    codeG (model pw w) A (.call (.ref 87) ⟨[v],[]⟩) R ⟨h,g,d,t,os⟩:=by
  obtain ⟨hi,hf,hcall,htyp⟩:=lse_more w.params
  have hC:=X _ _ (lse_at w.params)
  have hi':=looks_findIn (M:=model pw w) X hi
  have call:=looks_specialIn (M:=model pw w) X hcall
  have typ:=looks_instIn (M:=model pw w) X htyp
  refine codeG_tree (wpG_of ?_)
  show wpAny _ _ (callAny (.ref 87) _) _ _ _
  refine nd_load hC ?_
  show wpAny _ _ (callAny.viaDunder (.ref 87) _) _ _ _
  unfold callAny.viaDunder
  refine wpAny_bind (call.at ?_)
  dsimp only
  rw [PySem.tc_bind]
  refine wpAny_bind (wpAny_pure (wpAny_bind (wpAny_pure ?_)))
  refine wpAny_pure (a:=Fin.again (.call (.builtin "type.__call__") ⟨[.ref 87,v],[]⟩)) (And.intro rfl (And.intro rfl ?_))
  refine codeG_tree ?_
  show wpG _ A.in1 (do checkBuiltinCall "type.__call__" ⟨[.ref 87,v],[]⟩; again (.builtin "type.__call__" ⟨[.ref 87,v],[]⟩)) _ _ _
  refine leaf (check_slot PySem.tc_kind PySem.tc_split typ (tc_args _ _ _) (wpG_pure ⟨calm_tc,Code.quiet_builtin _ (by decide +kernel),codeG_tree ?_⟩))
  rw [den_of entry_typeCall]
  unfold Builtin.«type.__call__»
  refine g_if_false (by rfl) ?_
  refine leaf (wpAny_mroOf_exc hC ?_)
  refine g_if_false rfl ?_
  refine leaf (wpAny_madeBy_exc hC ?_)
  refine leaf (wpAny_pure ?_)
  refine leaf (wpAny_holding (wpAny_call (lse_new hC ?_)))
  have k:∀ b o,h.get? b=some o→((h.push (tupObj [v])).push (excObj h.objs.size)).get? b=some o:=fun b o e=>Heap.get?_push_of_some _ (Heap.get?_push_of_some _ e)
  have hx:((h.push (tupObj [v])).push (excObj h.objs.size)).get? (h.objs.size+1)=some (excObj h.objs.size):=by heap_get
  have t1:Looks (model pw w) ((h.push (tupObj [v])).push (excObj h.objs.size)) (typeOf (.ref (h.objs.size+1))) (.ref 87):=(Looks.ld hx).andThen .now
  have i1:=hi'.keeps k
  have b1:=(bind_fn (M:=model pw w) X (.ref (h.objs.size+1)) hf).keeps k
  unfold isInstance
  refine leaf (wpAny_bind (t1.at (wpAny_isSubtype_exc (k _ _ hC) ?_)))
  refine g_if_false (by decide +kernel) ?_
  refine wpG_bind (wpG_holding ?_)
  unfold callSpecial? specialOf
  refine leaf (wpAny_bind (t1.at (i1.at ?_)))
  dsimp only
  refine wpG_holding ?_
  refine leaf (b1.at ?_)
  dsimp only
  refine wpG_bind (wpG_call ?_)
  refine codeG_mono hq fun r s' z=>?_
  rcases r with e | (v | _ | _ | _) <;> first | exact z | exact z.elim | skip
  obtain ⟨rfl,z⟩:=z
  refine wpG_pure ?_
  refine g_if_false rfl ?_
  exact wpG_pure z
end
end
theorem init_body:∃ p1 p2 p3 p4 p5 p6 p7 p8 p9 p10 p11 p12 k,fBody (stc 4 0)=[.Assign [.Attribute (.Name (Str.ofString "self") p1) (Str.ofString "value") p2] (.Name (Str.ofString "value") p3) p4,
    .Assign [.Attribute (.Name (Str.ofString "self") p5) (Str.ofString "trace") p6] (.List [] p7) p8,
    .Assign [.Attribute (.Name (Str.ofString "self") p9) (Str.ofString "is_in_handler") p10] (.Constant (.bool false) k p11) p12]:=
  ⟨_,_,_,_,_,_,_,_,_,_,_,_,_,rfl⟩
structure FnAt (P:Params) (fa:Addr) (st:Stmt) (fd:FuncData):Prop where
  at_:(KF P).lookup fa=some ⟨.type "function",none,.func fd,#[]⟩
  params:fd.params=fArgs st
  body:fd.body = .stmts (fBody st)
  scope:fd.scope=fScope st
  globals:fd.globals=mainGlobals
  builtins:fd.builtins=builtinsNs
  closure:fd.closure=[]
  code:∃ c oc vs t,fd.code = .ref c∧(KF P).lookup c=some oc∧oc.data = .fields vs∧vs[1]? = some (.str fd.qualname t)
theorem fn71 (P:Params):∃ fd,FnAt P 71 (stc 4 0) fd∧∀ a b,bindArgs fd ⟨[a,b],[]⟩=pure [(Str.ofString "self",a),(Str.ofString "value",b)]:=by
  refine ⟨_,⟨(show (KF P).lookup 71=some (o71 P) by kernel_rfl),rfl,rfl,rfl,rfl,rfl,rfl,⟨70,o70 P,_,_,rfl,(by kernel_rfl),rfl,rfl⟩⟩,fun a b=>?_⟩
  with_unfolding_all rfl
theorem isStr_two {k:Value} {n m:Str} (h1:k.isStr n=true) (h2:k.isStr m=true):n=m:=by
  cases k <;> first | (cases h1; done) | exact (beq_iff_eq.mp h1).symm.trans (beq_iff_eq.mp h2)
set_option tactic.hygienic true in
theorem find_putL {n m:Str} (hne:n≠m) {hsh:Int} {t:Tok} {v:Value}:∀ {es:List DictEntry},(putL m hsh (.str m t) v es).find? (·.key.isStr n)=es.find? (·.key.isStr n)
  | []=>by
    unfold putL
    rw [List.find?_cons_of_neg (by show ¬ ((m == n)=true); intro q; exact hne (beq_iff_eq.mp q).symm)]
  | e :: r=>by
    unfold putL
    split
    · rename_i q
      have hn:¬ e.key.isStr n=true:=fun z=>hne (isStr_two z q)
      rw [List.find?_cons_of_neg (by exact hn),List.find?_cons_of_neg (by exact hn)]
    · rw [List.find?_cons,List.find?_cons,find_putL hne]
theorem any_putL {m:Str} {hsh:Int} {t:Tok} {v:Value}:∀ {es:List DictEntry},(putL m hsh (.str m t) v es).any (·.refKey)=es.any (·.refKey)
  | []=>rfl
  | e :: r=>by
    unfold putL
    split
    · rfl
    · rw [List.any_cons,List.any_cons,any_putL]
theorem getL_putL {n m:Str} (hne:n≠m) {hsh:Int} {t:Tok} {v:Value} {es:List DictEntry}:getL n (putL m hsh (.str m t) v es)=getL n es:=by
  unfold getL
  rw [find_putL hne,any_putL]
theorem len_putL {m:Str} {hsh:Int} {k v:Value}:∀ {es:List DictEntry},(putL m hsh k v es).length≤es.length+1
  | []=>by unfold putL; simp
  | e :: r=>by
    unfold putL
    split
    · simp
    · have:=len_putL (m:=m) (hsh:=hsh) (k:=k) (v:=v) (es:=r)
      simp only [List.length_cons]; omega
theorem lse_names' (P:Params):∀ n∈[Str.ofString "value",Str.ofString "trace",Str.ofString "is_in_handler"],findIn (KF P) (.ref aLSE) n=some none:=by
  intro n hn
  obtain ⟨h1,h2,h3⟩:=lse_names P
  rcases List.mem_cons.mp hn with rfl | hn
  · exact h1
  rcases List.mem_cons.mp hn with rfl | hn
  · exact h2
  rcases List.mem_cons.mp hn with rfl | hn
  · exact h3
  · nomatch hn
theorem init_scope:(fScope (stc 4 0)).kind = .function∧(fScope (stc 4 0)).isCoroutine=false∧(fScope (stc 4 0)).isGenerator=false∧(fScope (stc 4 0)).names.lookup (Str.ofString "self")=some .local∧(fScope (stc 4 0)).names.lookup (Str.ofString "value")=some .local∧((fScope (stc 4 0)).names.all fun x=>x.2 != .cell)=true:=
  ⟨by kernel_rfl,by kernel_rfl,by kernel_rfl,by kernel_rfl,by kernel_rfl,by kernel_rfl⟩
theorem g_constBool {M:Model} {A:Around} {E:Value→Shared→Prop} {s:Shared} {env:Env} {b:Bool} {k:Nat} {pos:Pos} {Q:Value→Shared→Prop} (h:Q (.bool b) s):wpG M A (eval (.Constant (.bool b) k pos) env) Q E s:=fun ω ω ω ω=>h
section
variable {w:World} {A:Around} {R:Result→Shared→Prop} {s:Shared}
theorem exc_init {e t:Addr} {v:Value} (hroom:A.depth < recursionLimit) (X:(KF w.params).In s.heap) (hlim:s.heap.NoLimit) (he:s.heap.get? e=some (excObj t)) (hfe:∀ b o,(KF w.params).lookup b=some o→b≠e)
    (h:∀ h' tk de es n,h'.get? e=some ⟨.ref 87,some de,.fields #[.ref t,.none,.none,.none,.bool false,.none],#[]⟩→h'.get? de=some (dictOf es n)→getL (Str.ofString "value") es=some (some v)→s.heap.get? de=none→
      (∀ b o,b≠e→s.heap.get? b=some o→h'.get? b=some o)→R (.ok (.ret .none)) { s with heap:=h',toks:=tk }) :
    codeG (model pw w) A (.call (.ref 71) ⟨[.ref e,v],[]⟩) R s:=by
  obtain ⟨fd,F,hb⟩:=fn71 w.params
  refine bC fun ng=>?_;obtain ⟨k1,k2,k3,k4,k5,k6⟩:=init_scope;refine ng ?_;clear ng
  refine bC fun ng=>?_;obtain ⟨p1,p2,p3,p4,p5,p6,p7,p8,p9,p10,p11,p12,k,hbody⟩:=init_body;refine ng ?_;clear ng
  refine bC fun ng=>?_;obtain ⟨c,oc,cvs,ct,q1,q2,q3,q4⟩:=F.code;refine ng ?_;clear ng
  refine g_call_def (binds:=[(Str.ofString "self",.ref e),(Str.ofString "value",v)]) hroom (X _ _ F.at_) rfl hlim ⟨c,oc,cvs,ct,q1,X _ _ q2,q3,q4⟩ F.body (BindsTo.of_eq (hb _ _)) (by
      rw [F.scope]; intro x hx q
      have:=List.all_eq_true.mp k6 x hx
      rw [q] at this; cases this) (by
      rw [F.scope]; intro x hx
      rcases List.mem_cons.mp hx with rfl | hx
      · exact k4
      rcases List.mem_cons.mp hx with rfl | hx
      · exact k5
      · nomatch hx) (fun h₀ hns keep=>?_) (by rw [F.scope]; exact k2) (by rw [F.scope]; exact k3) (by rw [F.scope]; exact k1)
  have kk:(callEnv fd s.heap.objs.size 71).scope.kind = .function:=by show fd.scope.kind=_; rw [F.scope]; exact k1
  have ks:(callEnv fd s.heap.objs.size 71).kindOf (Str.ofString "self")=some .local:=by show fd.scope.names.lookup _=_; rw [F.scope]; exact k4
  have kv:(callEnv fd s.heap.objs.size 71).kindOf (Str.ofString "value")=some .local:=by show fd.scope.names.lookup _=_; rw [F.scope]; exact k5
  have neL:e≠s.heap.objs.size:=Nat.ne_of_lt (Heap.lt_size he)
  have self (s':Shared) (p:Pos) (hn:s'.heap.Ns s.heap.objs.size (fun x=>List.lookup x [(Str.ofString "self",Value.ref e),(Str.ofString "value",v)].reverse)) {Q:Value→Shared→Prop} {E:Value→Shared→Prop} (A':Around) (hQ:Q (.ref e) s'):wpG (model pw w) A' (eval (.Name (Str.ofString "self") p) (callEnv fd s.heap.objs.size 71)) Q E s':=
    wpG_of (wpAny_Name (wpAny_loadName_local kk ks hn (by rfl) hQ))
  rw [hbody]
  refine g_execs (g_Assign_Attr (wpG_of (wpAny_Name (wpAny_loadName_local kk kv hns (by rfl) ?_))) rfl)
  refine self _ _ hns _ ?_
  refine exc_set_first (X.keeps keep) (keep _ _ he) (lse_names' _ _ (.head _)) fun h1 tk1 t1 hk1 e1 d1 K1=>?_
  have hns1:h1.Ns s.heap.objs.size (fun x=>List.lookup x [(Str.ofString "self",Value.ref e),(Str.ofString "value",v)].reverse):=by
    refine bC fun ng=>?_;obtain ⟨o,es,ep,ho,r⟩:=hns;refine ng ?_;clear ng
    exact ⟨o,es,ep,K1 _ _ neL.symm ho,r⟩
  have X0:(KF w.params).In h₀:=X.keeps keep
  have X1:(KF w.params).In h1:=fun b o q=>K1 b o (hfe b o q) (X0 b o q)
  have nd1:h₀.objs.size≠e:=(Nat.ne_of_lt (Heap.lt_size (keep _ _ he))).symm
  have sn:Str.ofString "trace" ≠ Str.ofString "value":=fun q=>absurd (ofString_inj q) (by decide)
  have sn2:Str.ofString "value" ≠ Str.ofString "is_in_handler":=fun q=>absurd (ofString_inj q) (by decide)
  refine g_execs (g_Assign_Attr (g_List (g_none (wpG_of (wpAny_newList ?_ (Nat.zero_le _))))) rfl)
  have hp:∀ b o,h1.get? b=some o→(h1.push { cls:=.type "list",data:=.seq ([]:List Value).toArray }).get? b=some o:=fun b o q=>Heap.get?_push_of_some _ q
  refine self _ _ (hns1.keeps hp) _ ?_
  refine exc_set_more (X1.keeps hp) (hp _ _ e1) (hp _ _ d1) (lse_names' _ _ (.tail _ (.head _))) (by unfold getL; rw [List.find?_cons_of_neg (by show ¬ ((Str.ofString "value" == Str.ofString "trace")=true); intro q; exact sn (beq_iff_eq.mp q).symm)]; rfl)
    (fun k=>Nat.le_trans len_putL (by simp)) fun h2 tk2 t2 d2 K2=>?_
  have e2:=(K2.2 _ nd1.symm).trans (hp _ _ e1)
  have hns2:h2.Ns s.heap.objs.size (fun x=>List.lookup x [(Str.ofString "self",Value.ref e),(Str.ofString "value",v)].reverse):=
    (hns1.keeps hp).sameBut K2 (Nat.ne_of_lt hns.lt)
  have X2:(KF w.params).In h2:=fun b o q=>(K2.2 b (Nat.ne_of_lt (Heap.lt_size (X0 b o q)))).trans (hp _ _ (X1 b o q))
  refine g_execs (g_Assign_Attr (g_constBool ?_) rfl)
  refine self ⟨h2,_,_,_,_⟩ _ hns2 _ ?_
  have nk:((putL (Str.ofString "trace") (PyData.keyHash w.params (Str.ofString "trace")) (.str (Str.ofString "trace") t2) (.ref h1.objs.size) [⟨hk1,.str (Str.ofString "value") t1,v⟩]).any (·.refKey))=false:=by rw [any_putL]; rfl
  refine exc_set_more X2 e2 d2 (lse_names' _ _ (.tail _ (.tail _ (.head _)))) ?_ (fun k=>Nat.le_trans len_putL (Nat.succ_le_succ (Nat.le_trans len_putL (by simp)))) fun h3 tk3 t3 d3 K3=>?_
  · unfold getL
    rw [nk]
    split <;> rfl
  refine wpG_of (wpAny_execs_nil ?_)
  refine h h3 _ h₀.objs.size _ _ ((K3.2 _ nd1.symm).trans e2) d3 ?_ ?_ fun b o hb q=>?_
  · rw [getL_putL sn2,getL_putL sn.symm]
    unfold getL
    rw [List.find?_cons_of_pos (by show (Str.ofString "value" == Str.ofString "value")=true; exact beq_self_eq_true _)]
  · cases q:s.heap.get? h₀.objs.size with
    | none=>rfl
    | some o=>exact absurd (Heap.lt_size (keep _ _ q)) (Nat.lt_irrefl _)
  · have hb0:=keep _ _ q
    have nb:b≠h₀.objs.size:=Nat.ne_of_lt (Heap.lt_size hb0)
    exact (K3.2 b nb).trans ((K2.2 b nb).trans (hp _ _ (K1 _ _ hb hb0)))
end
section
variable {f:FR} {G:Froz} {h h':Heap} {X:List Addr}
noncomputable def XF (f:FR) (G:Froz) (h:Heap) (X:List Addr):Prop:=∀ x∈X,G x=none∧f.h₀.get? x=none∧x ∉ f.fs∧∃ o vs,h.get? x=some o∧o.data = .fields vs
theorem not_fs {x:Addr} {o:Obj} {vs:Array Value} (R:Base f G h) (ho:h.get? x=some o) (hd:o.data = .fields vs):x ∉ f.fs:=fun q=>by
  obtain ⟨_,o',ho',hn⟩:=R.fn.mem q
  rw [ho] at ho'; cases ho'
  exact hn vs hd
theorem Base.flds (R:Base f G h) (S:Same f X h h') (F:XF f G h X):Base f G h':=
  R.step S (.refl ..) (fun x hx=>⟨(F x hx).1,.inr (F x hx).2.1,fun q=>absurd q (F x hx).2.2.1⟩) fun q=>absurd R.lf (F _ q).2.2.1
theorem RelE.flds {a:Addr} {st:St} {e:Addr} {m:List UInt8} {tb:Option Value} (R:RelE f G a st h e m) (S:Same f X h h') (F:XF f G h X) (hx:ExcIn f G h' e m tb) (ht:tb=none∨tb=some .none∨tb=some (rawInt f.L)):RelE f G a st h' e m:=by
  obtain ⟨mm,hV,hL⟩:=R.loc
  refine ⟨R.base.flds S F,⟨mm,hV.step R.base S (fun q=>(F _ q).2.2.1 R.base.lf) (fun x hx v ⟨o,ho,hd⟩=>?_),hL.step S (.refl ..) fun x hx ws n q=>?_⟩,_,hx,ht⟩
  · obtain ⟨_,_,_,o',vs,ho',hd'⟩:=F x hx
    rw [ho] at ho'; cases ho'; rw [hd] at hd'; cases hd'
  · obtain ⟨_,_,_,o',vs,ho',hd'⟩:=F x hx
    rw [q] at ho'; cases ho'; cases hd'
theorem slots_same {S:List Addr} (R:Base f G h) (hs:Heap.SlotsOnly S h h') (hS:∀ x∈S,x∈f.fs):Same f [] h h':=
  ⟨fun b o e ω hf=>(hs.2.1 b fun q=>hf (hS b q)).trans e,fun b o e ω ω=>let ⟨sl,e'⟩:=hs.2.2 b o e; ⟨_,e',sl,rfl⟩,fun b ⟨o,e⟩=>let ⟨sl,e'⟩:=hs.2.2 b o e; ⟨_,e'⟩⟩
theorem upd_same {x:Addr} {g:Obj→Obj} {o:Obj} (ho:h.get? x=some o) (hf:(g o).isFreed=false):Same f [x] h (h.update x g):=
  .but (Heap.SameBut.update ..) ⟨_,Heap.get?_update_self _ ho hf⟩
variable {M:Model} {A:Around} {E:Value→Shared→Prop} {s:Shared} {env:Env}
theorem entry_ok {e:Addr} {m:List UInt8} {de:Addr} {vs sl es} {n:Nat} {t:Tok} {head:Value} {hadNext:Bool} {Q:Unit→Shared→Prop} (R:Base f G s.heap) (hfr:A.frames=some f.envs) (hen:∃ outer,f.envs=env :: outer) (hf:env.frame=some f.L)
    (he:s.heap.get? e=some ⟨.ref aLSE,some de,.fields vs,sl⟩) (hsz:1 < vs.size) (hde:G de=some (dictOf es n)) (hv:getL (Str.ofString "value") es=some (some (.bytes m.toArray t))) (ge:G e=none) (hr:f.h₀.get? e=none)
    (h:∀ h',Same f [e] s.heap h'→ExcIn f G h' e m (some (rawInt f.L))→Q () { s with heap:=h' }) :
    wpAny M A (do let a ← frameOf env; let pl ← entryPlaceOf f.L hadNext; let b ← EntryCells.newEntry head a .none (rawInt f.L) .none pl; setField (.ref e) 1 b) Q E s:=by
  obtain ⟨outer,hout⟩:=hen
  have hl:=R.fn
  rw [hout] at hfr hl
  have hS:∀ x∈(env :: outer).filterMap (·.frame),x∈f.fs:=fun x hx=>by unfold FR.fs; rw [hout]; exact hx
  have nfe:e ∉ f.fs:=not_fs R he rfl
  refine wpAny_bind (wpAny_frameOf_fun hfr hl hf fun h₁ hs₁=>?_)
  refine wpAny_bind (wpAny_entryPlaceOf fun pl hpl=>?_)
  unfold EntryCells.newEntry newFields
  refine wpAny_bind (wpAny_newObj_type ?_ (hpl.sizeOk5 _ _ _ _ _))
  have S1:=slots_same R hs₁ hS
  have he₁:h₁.get? e=some ⟨.ref aLSE,some de,.fields vs,sl⟩:=S1.ob e _ he (fun q=>nomatch q) nfe
  have he₂:=Heap.get?_push_of_some (h:=h₁) { cls:=.type "traceback",dict:=none,data:=.fields ([head,.ref f.L,.none,rawInt f.L,.none]++(if pl.isEmpty then List.replicate 6 Value.none else pl)).toArray } he₁
  refine wpAny_setField he₂ rfl hsz ?_
  have hTe:h₁.objs.size≠e:=Nat.ne_of_gt (Heap.lt_size he₁)
  have S2:Same f [e] s.heap ((h₁.push { cls:=.type "traceback",dict:=none,data:=.fields ([head,.ref f.L,.none,rawInt f.L,.none]++(if pl.isEmpty then List.replicate 6 Value.none else pl)).toArray }).update e (Obj.mapFields (·.setIfInBounds 1 (Value.ref h₁.objs.size)))):=
    (S1.weak fun ω q=>nomatch q).trans (((Same.push f h₁ _).weak fun ω q=>nomatch q).trans (upd_same he₂ rfl))
  have fresh:s.heap.get? h₁.objs.size=none:=by
    cases q:s.heap.get? h₁.objs.size with
    | none=>rfl
    | some o=>exact absurd (S1.lv _ ⟨o,q⟩) (not_liv.mpr (size_new h₁))
  refine h _ S2 ⟨⟨de,_,sl,es,n,t,Heap.get?_update_self _ he₂ rfl,hde,hv,h₁.objs.size,_,_,?_,(Heap.get?_update_ne _ _ _ _ hTe).trans (Heap.get?_push_at rfl rfl),rfl,?_,hTe,R.fresh fresh,R.freshS fresh⟩,ge,hr⟩
  · simp [hsz]
  · rcases hpl with rfl | ⟨_,_,_,_,_,_,_,rfl⟩ <;> simp
theorem xf_of {e T:Addr} {de:Addr} {vs sl} {oT:Obj} {ts:Array Value} (R:Base f G h) (he:h.get? e=some ⟨.ref aLSE,some de,.fields vs,sl⟩) (ge:G e=none) (hr:f.h₀.get? e=none) (hT:h.get? T=some oT) (hd:oT.data = .fields ts) (gT:G T=none) (nT:f.h₀.get? T=none):XF f G h [e,T]:=by
  intro x hx
  rcases List.mem_cons.mp hx with rfl | hx
  · exact ⟨ge,hr,not_fs R he rfl,_,vs,he,rfl⟩
  · rw [List.mem_singleton.mp hx]
    exact ⟨gT,nT,not_fs R hT hd,_,ts,hT,hd⟩
theorem note_ok {a:Addr} {st:St} {e:Addr} {m:List UInt8} {Q:Unit→Shared→Prop} (R:RelE f G a st s.heap e m) (hfr:A.frames=some f.envs) (hen:∃ outer,f.envs=env :: outer) (hf:env.frame=some f.L)
    (h:∀ h',RelE f G a st h' e m→ExcIn f G h' e m (some (rawInt f.L))→Q () { s with heap:=h' }):wpAny M A (noteFrame (.ref e) env) Q E s:=by
  obtain ⟨tb,X,ht⟩:=R.exc
  refine bC fun ng=>?_;obtain ⟨de,vs,sl,es,n,t,he,hde,hv,htb⟩:=X.obj;refine ng ?_;clear ng
  unfold noteFrame
  simp only [hf]
  cases tb with
  | none=>
    have h1:vs[1]? = some .none:=htb
    have hsz:1 < vs.size:=(Array.getElem?_eq_some_iff.mp h1).1
    refine wpAny_bind (wpAny_field he rfl h1 ?_)
    rw [if_neg (by decide)]
    refine entry_ok R.base hfr hen hf he hsz hde hv X.ge X.fr fun h' S X'=>h h' ?_ X'
    refine R.flds S (fun x hx=>?_) X' (.inr (.inr rfl))
    rw [List.mem_singleton.mp hx]
    exact ⟨X.ge,X.fr,not_fs R.base he rfl,_,vs,he,rfl⟩
  | some fl=>
    refine bC fun ng=>?_;obtain ⟨T,oT,ts,h1,hT,hd,h3,hTe,gT,nT⟩:=htb;refine ng ?_;clear ng
    have hsz:1 < vs.size:=(Array.getElem?_eq_some_iff.mp h1).1
    have hsz3:3 < ts.size:=(Array.getElem?_eq_some_iff.mp h3).1
    refine wpAny_bind (wpAny_field he rfl h1 ?_)
    rw [if_pos (show (Value.ref T != Value.none)=true from by simp)]
    refine wpAny_bind (wpAny_field hT hd h3 ?_)
    have hfl:fl = .none∨fl=rawInt f.L:=by
      rcases ht with q | q | q
      · cases q
      · cases q; exact .inl rfl
      · cases q; exact .inr rfl
    rcases hfl with rfl | rfl
    · rw [if_neg (show ¬ ((Value.none == rawInt f.L)=true) from by simp [rawInt])]
      refine wpAny_bind (wpAny_setField hT hd hsz3 ?_)
      have hdT:=Obj.data_mapFields hd (·.setIfInBounds 3 Value.none)
      have S1:Same f [T] s.heap (s.heap.update T (Obj.mapFields (·.setIfInBounds 3 Value.none))):=upd_same hT (Obj.isFreed_of_fields hdT)
      have XT:XF f G s.heap [T]:=fun x hx=>by
        rw [List.mem_singleton.mp hx]
        exact ⟨gT,nT,not_fs R.base hT hd,_,ts,hT,hd⟩
      have B1:=R.base.flds S1 XT
      have he1:(s.heap.update T (Obj.mapFields (·.setIfInBounds 3 Value.none))).get? e=some ⟨.ref aLSE,some de,.fields vs,sl⟩:=(Heap.get?_update_ne _ _ _ _ hTe.symm).trans he
      refine entry_ok (s:={ s with heap:=_ }) B1 hfr hen hf he1 hsz hde hv X.ge X.fr fun h' S X'=>h h' ?_ X'
      refine R.flds (X:=[e,T]) ((S1.weak fun x hx=>List.mem_cons_of_mem _ hx).trans (S.weak fun x hx=>by rw [List.mem_singleton.mp hx]; exact .head _)) (xf_of R.base he X.ge X.fr hT hd gT nT) X' (.inr (.inr rfl))
    · rw [if_pos (show (rawInt f.L == rawInt f.L)=true from by first | (simp; done) | exact beq_self_eq_true _)]
      exact wpAny_pure (h s.heap R ⟨⟨de,vs,sl,es,n,t,he,hde,hv,T,oT,ts,h1,hT,hd,h3,hTe,gT,nT⟩,X.ge,X.fr⟩)
theorem flight_ok {a:Addr} {st:St} {e:Addr} {m:List UInt8} {fl:Value} {w? : Option Addr} {Q:Unit→Shared→Prop} (R:RelE f G a st s.heap e m) (X:ExcIn f G s.heap e m (some fl)) (hw:w? = none∨w? = some f.L)
    (h:∀ h',RelE f G a st h' e m→ExcIn f G h' e m (some (w?.elim .none fun L=>rawInt L))→Q () { s with heap:=h' }):wpAny M A (setFlight (.ref e) w?) Q E s:=by
  refine bC fun ng=>?_;obtain ⟨de,vs,sl,es,n,t,T,oT,ts,he,hde,hv,h1,hT,hd,h3,hTe,gT,nT⟩:=X.parts;refine ng ?_;clear ng
  have hsz3:3 < ts.size:=(Array.getElem?_eq_some_iff.mp h3).1
  unfold setFlight
  refine wpAny_bind (wpAny_field he rfl h1 ?_)
  rw [if_pos (show (Value.ref T != Value.none)=true from by simp)]
  have hdT:=Obj.data_mapFields hd (·.setIfInBounds 3 (w?.elim Value.none fun f=>rawInt f))
  have hT':=Heap.get?_update_self (Obj.mapFields (·.setIfInBounds 3 (w?.elim Value.none fun f=>rawInt f))) hT (Obj.isFreed_of_fields hdT)
  have S1:Same f [T] s.heap (s.heap.update T (Obj.mapFields (·.setIfInBounds 3 (w?.elim Value.none fun f=>rawInt f)))):=upd_same hT (Obj.isFreed_of_fields hdT)
  have X':ExcIn f G (s.heap.update T (Obj.mapFields (·.setIfInBounds 3 (w?.elim Value.none fun f=>rawInt f)))) e m (some (w?.elim .none fun L=>rawInt L)):=
    ⟨⟨de,vs,sl,es,n,t,(Heap.get?_update_ne _ _ _ _ hTe.symm).trans he,hde,hv,T,_,_,h1,hT',hdT,by simp [hsz3],hTe,gT,nT⟩,X.ge,X.fr⟩
  refine wpAny_setField hT hd hsz3 (h _ (R.flds S1 (fun x hx=>?_) X' ?_) X')
  · rw [List.mem_singleton.mp hx]
    exact ⟨gT,nT,not_fs R.base hT hd,_,ts,hT,hd⟩
  · rcases hw with rfl | rfl
    · exact .inr (.inl rfl)
    · exact .inr (.inr rfl)
end
section
variable {M:Model} {A:Around} {E:Value→Shared→Prop} {s:Shared} {env:Env}
theorem g_raiseStmt {P:Params} {x:Sem Value} {Q:Flow→Shared→Prop} (hh:A.handled=none)
    (h:wpG M A x (fun v s₁=>∃ e dd t,v = .ref e∧s₁.heap.get? 87=some (lseObj P)∧s₁.heap.get? e=some ⟨.ref 87,dd,.fields #[.ref t,.none,.none,.none,.bool false,.none],#[]⟩∧E (.ref e) s₁) E s) :
    wpG M A (raiseStmt env (some x) none) Q E s:=by
  have hcB:(Value.ref 87 :: bmL).contains (.type "BaseException")=true:=by decide +kernel
  unfold raiseStmt
  refine wpG_then h fun v s₁ h₁=>?_
  refine bC fun ng=>?_;obtain ⟨e,dd,t,rfl,hC,he,hE⟩:=h₁;refine ng ?_;clear ng
  refine bC fun ng=>?_;obtain ⟨hp,g,d,tk,os⟩:=s₁;refine ng ?_;clear ng
  refine wpG_of ?_
  repeat (first | with_reducible refine wpAny_loadPart_at he ?_ | with_reducible refine wpAny_loadPart_at hC ?_ | (with_reducible refine wpAny_isSubtype_exc hC ?_; rw [hcB]) | wp_step)
  exact wpAny_raiseNew_none hh hE
end
noncomputable def FlowRep (P:Params) (G:Froz) (a:Addr):Fl→Flow→Prop
  | .next,.next=>True
  | .brk,.brk=>True
  | .ret V,.ret v=>Rep P G a V v
  | _,_=>False
theorem fr_next {P:Params} {G:Froz} {a:Addr} {fw:Flow} (r:FlowRep P G a .next fw):fw = .next:=by cases fw <;> first | rfl | exact False.elim r
theorem fr_brk {P:Params} {G:Froz} {a:Addr} {fw:Flow} (r:FlowRep P G a .brk fw):fw = .brk:=by cases fw <;> first | rfl | exact False.elim r
theorem fr_ret {P:Params} {G:Froz} {a:Addr} {V:V} {fw:Flow} (r:FlowRep P G a (.ret V) fw):∃ v,fw = .ret v:=by cases fw <;> first | exact ⟨_,rfl⟩ | exact False.elim r
noncomputable def Fl.isRet:Fl→Bool
  | .ret _=>true
  | _=>false
noncomputable abbrev KS (f:FR) (la:LA) (s:Shared) (G:Froz) (Q:Fl→St→Prop) (QC:Flow→Shared→Prop):Prop:=
  ∀ G' b' st' fl fw h' tk',(fl.isRet=false→Ext false f G G' s.heap h')→Rel f G' { la with b:=b' } st' h'→FlowRep f.c.P G' la.a fl fw→Q fl st'→QC fw { s with heap:=h',toks:=tk' }
noncomputable def SndS (Γ:Specs) (sc:Scope) (H:Nat) (e:Stmt) (x:S):Prop:=
  ∀ {f:FR} {env:Env} {A:Around} {s:Shared} {G:Froz} {la:LA} {st:St} {Q:Fl→St→Prop} {Xc:Exc} {QC:Flow→Shared→Prop} {EC:Value→Shared→Prop},
    Env0 f sc env A H→ΓOK Γ H→A.handled=none→Rel f G la st s.heap→wpS Γ x Q Xc st→KS f la s G Q QC→KE f la s Xc EC→wpG f.c.M A (exec e env) QC EC s
noncomputable def SndSs (Γ:Specs) (sc:Scope) (H:Nat) (es:List Stmt) (xs:List S):Prop:=
  ∀ {f:FR} {env:Env} {A:Around} {s:Shared} {G:Froz} {la:LA} {st:St} {Q:Fl→St→Prop} {Xc:Exc} {QC:Flow→Shared→Prop} {EC:Value→Shared→Prop},
    Env0 f sc env A H→ΓOK Γ H→A.handled=none→Rel f G la st s.heap→wpSs Γ xs Q Xc st→KS f la s G Q QC→KE f la s Xc EC→wpG f.c.M A (execs es env) QC EC s
section
variable {Γ:Specs} {sc:Scope} {H:Nat} {e:Expr} {x:X}
theorem sndS_nil:SndSs Γ sc H [] []:=by
  intro f env A s G la st Q Xc QC EC E0 hΓ hq R hw K KE
  exact wpG_of (wpAny_execs_nil (K G la.b st .next .next s.heap s.toks (fun ω=>.refl ..) R trivial hw))
theorem sndS_cons {st₀:Stmt} {rest:List Stmt} {x₀:S} {xs:List S} (h1:SndS Γ sc H st₀ x₀) (h2:SndSs Γ sc H rest xs):SndSs Γ sc H (st₀ :: rest) (x₀ :: xs):=by
  intro f env A s G la st Q Xc QC EC E0 hΓ hq R hw K KE
  rw [s_cons] at hw
  refine g_execs ?_
  refine h1 E0 hΓ hq R hw (fun G1 b1 st1 fl fw hp1 tk1 g1 R1 r1 hw1=>?_) KE
  cases fl with
  | next=>
    obtain rfl:=fr_next r1
    exact h2 E0 hΓ hq R1 hw1 (fun G2 b2 st2 fl fw hp2 tk2 g2 R2 r2 hw2=>K G2 b2 st2 fl fw hp2 tk2 (fun q=>(g1 rfl).trans (g2 q)) R2 r2 hw2) (fun G' st' e m h' tk'=>KE G' st' e m h' tk')
  | brk=>
    obtain rfl:=fr_brk r1
    exact K G1 b1 st1 .brk .brk hp1 tk1 g1 R1 trivial hw1
  | ret V=>
    obtain ⟨_,rfl⟩:=fr_ret r1
    exact K G1 b1 st1 (.ret V) (.ret _) hp1 tk1 g1 R1 r1 hw1
theorem sndS_asg {n:String} {p pos:Pos} (hk:isLoc sc n=true) (he:Snd Γ sc H e x) (hs:∀ env,swapsWith e (some (.Name (Str.ofString n) p)) pos.line env=pure false):SndS Γ sc H (.Assign [.Name (Str.ofString n) p] e pos) (.asg n x):=by
  intro f env A s G la st Q Xc QC EC E0 hΓ hq R hw K KE
  rw [s_asg] at hw
  refine g_Assign_Name ?_ (hs env)
  refine he E0 hΓ (.inr hq) R hw (fun G1 b1 st1 v1 V1 hp1 tk1 g1 R1 r1 hw1=>?_) KE
  exact R1.storeV E0 hk r1 fun h' tk' R' x'=>K G1 b1 _ .next .next h' tk' (fun ω=>g1.weak.trans x') R' trivial hw1
theorem sndS_ret {pos:Pos} (he:Snd Γ sc H e x):SndS Γ sc H (.Return (some e) pos) (.ret x):=by
  intro f env A s G la st Q Xc QC EC E0 hΓ hq R hw K KE
  rw [s_ret] at hw
  refine g_Return ?_
  refine he E0 hΓ (.inr hq) R hw (fun G1 b1 st1 v1 V1 hp1 tk1 g1 R1 r1 hw1=>?_) KE
  exact K G1 b1 st1 (.ret V1) (.ret v1) hp1 tk1 (fun ω=>g1.weak) R1 r1 hw1
theorem sndS_retN {pos:Pos}:SndS Γ sc H (.Return none pos) .retN:=by
  intro f env A s G la st Q Xc QC EC E0 hΓ hq R hw K KE
  rw [s_retN] at hw
  exact wpG_of (wpAny_Return_none (K G la.b st (.ret .none) (.ret .none) s.heap s.toks (fun ω=>.refl ..) R .none hw))
theorem sndS_pass {pos:Pos}:SndS Γ sc H (.Pass pos) .pass:=by
  intro f env A s G la st Q Xc QC EC E0 hΓ hq R hw K KE
  rw [s_pass] at hw
  exact wpG_of (wpAny_Pass (K G la.b st .next .next s.heap s.toks (fun ω=>.refl ..) R trivial hw))
theorem sndS_brk {pos:Pos}:SndS Γ sc H (.Break pos) .brk:=by
  intro f env A s G la st Q Xc QC EC E0 hΓ hq R hw K KE
  rw [s_brk] at hw
  exact wpG_of (wpAny_Break (K G la.b st .brk .brk s.heap s.toks (fun ω=>.refl ..) R trivial hw))
theorem sndS_expr {pos:Pos} (he:Snd Γ sc H e x) (hi:∀ (env:Env),env.scope=sc→interactive env=false) (hs:∀ env,swapsWith e none pos.line env=pure false):SndS Γ sc H (.Expr e pos) (.expr x):=by
  intro f env A s G la st Q Xc QC EC E0 hΓ hq R hw K KE
  rw [s_expr] at hw
  refine g_Expr ?_ (hi env E0.scope) (hs env)
  exact he E0 hΓ (.inr hq) R hw (fun G1 b1 st1 v1 V1 hp1 tk1 g1 R1 r1 hw1=>K G1 b1 st1 .next .next hp1 tk1 (fun ω=>g1.weak) R1 trivial hw1) KE
theorem sndS_if {t:Expr} {xt:X} {a b:List Stmt} {xa xb:List S} {pos:Pos} (ht:SndT Γ sc H t xt) (ha:SndSs Γ sc H a xa) (hb:SndSs Γ sc H b xb):SndS Γ sc H (.If t a b pos) (.ifS xt xa xb):=by
  intro f env A s G la st Q Xc QC EC E0 hΓ hq R hw K KE
  rw [s_ifS] at hw
  refine g_If ?_
  refine ht (Q:=fun r st=>(r=true→wpSs Γ xa Q Xc st)∧(r=false→wpSs Γ xb Q Xc st)) E0 hΓ (.inr hq) R hw (fun G1 b1 st1 v1 hp1 tk1 g1 R1 hw1=>?_) KE
  cases v1 with
  | true=>exact ha E0 hΓ hq R1 (hw1.1 rfl) (fun G2 b2 st2 fl fw hp2 tk2 g2 R2 r2 hw2=>K G2 b2 st2 fl fw hp2 tk2 (fun q=>g1.weak.trans (g2 q)) R2 r2 hw2) (fun G' st' e m h' tk'=>KE G' st' e m h' tk')
  | false=>exact hb E0 hΓ hq R1 (hw1.2 rfl) (fun G2 b2 st2 fl fw hp2 tk2 g2 R2 r2 hw2=>K G2 b2 st2 fl fw hp2 tk2 (fun q=>g1.weak.trans (g2 q)) R2 r2 hw2) (fun G' st' e m h' tk'=>KE G' st' e m h' tk')
end
section
variable {Γ:Specs} {sc:Scope} {H:Nat} {e:Expr} {x:X}
theorem back_ok {f:FR} {env:Env} {A:Around} {s:Shared} {G:Froz} {la:LA} {st:St} {Xc:Exc} {EC:Value→Shared→Prop} {h:Heap} {tk:Nat} {e:Addr} {m:List UInt8} (E0:Env0 f sc env A H) (R:RelE f G la.a st h e m) (hx:Xc m st) (K:KE f la s Xc EC) :
    notedBy f.c.M A env (fun e s'=>cameBackBy f.c.M A env EC e s') (.ref e) { s with heap:=h,toks:=tk }:=by
  refine note_ok (s:={ s with heap:=h,toks:=tk }) R E0.frames E0.envs E0.fr fun h1 R1 X1=>?_
  unfold cameBackBy
  refine bC fun ng=>?_;obtain ⟨de,vs,sl,es,n,t,T,oT,ts,he,hde,hv,h1',hT,hd,h3,hTe,gT,nT⟩:=X1.parts;refine ng ?_;clear ng
  refine wpAny_bind (wpAny_field he rfl h1' ?_)
  refine bm_if_false (by simp) ?_
  rw [E0.fr]
  refine flight_ok (s:={ s with heap:=h1,toks:=tk }) R1 X1 (.inr rfl) fun h2 R2 X2=>?_
  exact K G st e m h2 tk R2 hx
theorem sndS_while {t:Expr} {xt:X} {body:List Stmt} {xb:List S} {pos:Pos} (ht:SndT Γ sc H t xt) (hb:SndSs Γ sc H body xb):SndS Γ sc H (.While t body [] pos) (.whileS xt xb):=by
  intro f env A s G la st Q Xc QC EC E0 hΓ hq R hw K KE
  rw [s_whileS] at hw
  obtain ⟨I,m,hI,turn⟩:=hw
  refine g_While ?_
  refine g_whileLoop (fun n s'=>∃ G' b' st' h' tk',s' = { s with heap:=h',toks:=tk' }∧Ext false f G G' s.heap h'∧Rel f G' { la with b:=b' } st' h'∧I st'∧m st'=n) (fun n s' hJ=>?_) (m st) ⟨G,la.b,st,s.heap,s.toks,rfl,.refl ..,R,hI,rfl⟩
  refine bC fun ng=>?_;obtain ⟨G',b',st',h',tk',rfl,g',R',hI',rfl⟩:=hJ;refine ng ?_;clear ng
  have KE':∀ (e:Value) (s':Shared),(∃ G2 st2 e2 m2 h2 tk2,e = .ref e2∧s' = { s with heap:=h2,toks:=tk2 }∧RelE f G2 la.a st2 h2 e2 m2∧Xc m2 st2)→
      notedBy f.c.M A env (fun e s'=>match (Except.error e:Result) with | .ok f=>QC f s' | .error e=>cameBackBy f.c.M A env EC e s') e s':=by
    rintro e s' ⟨G2,st2,e2,m2,h2,tk2,rfl,rfl,R2,hx⟩
    exact back_ok E0 R2 hx KE
  refine ht (Q:=fun r st=>(r=true→wpSs Γ xb (fun fl st=>match fl with
        | .next=>I st∧m st < m st'
        | .brk=>Q .next st
        | .ret v=>Q (.ret v) st) Xc st)∧(r=false→Q .next st)) (Xc:=Xc) E0 hΓ (.inr hq) R' (turn st' hI') (fun G1 b1 st1 v1 hp1 tk1 g1 R1 hw1=>?_) fun G2 st2 e2 m2 h2 tk2 R2 hx=>KE' _ _ ⟨G2,st2,e2,m2,h2,tk2,rfl,rfl,R2,hx⟩
  cases v1 with
  | false=>exact K G1 b1 st1 .next .next hp1 tk1 (fun ω=>g'.trans g1.weak) R1 trivial (hw1.2 rfl)
  | true=>
    refine hb E0 hΓ hq R1 (hw1.1 rfl) (fun G2 b2 st2 fl fw hp2 tk2 g2 R2 r2 hw2=>?_) fun G2 st2 e2 m2 h2 tk2 R2 hx=>KE' _ _ ⟨G2,st2,e2,m2,h2,tk2,rfl,rfl,R2,hx⟩
    have gg:fl.isRet=false→Ext false f G G2 s.heap hp2:=fun q=>g'.trans (g1.weak.trans (g2 q))
    cases fl with
    | next=>
      obtain rfl:=fr_next r2
      exact ⟨_,hw2.2,G2,b2,st2,hp2,tk2,rfl,gg rfl,R2,hw2.1,rfl⟩
    | brk=>
      obtain rfl:=fr_brk r2
      exact K G2 b2 st2 .next .next hp2 tk2 gg R2 trivial hw2
    | ret V=>
      obtain ⟨_,rfl⟩:=fr_ret r2
      exact K G2 b2 st2 (.ret V) (.ret _) hp2 tk2 gg R2 r2 hw2
theorem lse_glob (P:Params):nsIn (KF P) mainGlobals (Str.ofString "LuaSyntaxError")=some (some (.ref 87))∧keepIn (KF P) (.ref 87)=true:=⟨by kernel_rfl,by kernel_rfl⟩
theorem Base.noLimit {f:FR} {G:Froz} {h:Heap} (c:f.c.Ok) (R:Base f G h):h.NoLimit:=by
  obtain ⟨mc,hn,hl⟩:=c.lim
  exact ⟨mc,R.ns hn,hl⟩
theorem sndS_raise {xp cp pos:Pos} (hk:sc.names.lookup (Str.ofString "LuaSyntaxError")=some .globalImplicit) (hd:(Str.ofString "LuaSyntaxError" == ("__debug__" : Str))=false) (hH:3≤H) (he:Snd Γ sc H e x) (hT:SndT Γ sc H e x) (hst:∀ env rest,starEach (e :: rest) env=(false,eval e env) :: starEach rest env) :
    SndS Γ sc H (.Raise (some (.Call (.Name (Str.ofString "LuaSyntaxError") xp) [e] [] cp)) none pos) (.raise x):=by
  intro f env A s G la st Q Xc QC EC E0 hΓ hq R hw K KE
  rw [s_raise] at hw
  rw [arm_exec_Raise]
  refine leaf (wpAny_standAt ?_)
  show wpG _ _ (raiseStmt env (some (do let v ← eval (.Call (.Name (Str.ofString "LuaSyntaxError") xp) [e] [] cp) env; standAt pos; pure v)) none) _ _ _
  refine g_raiseStmt (P:=f.c.P) hq ?_
  refine wpG_bind ?_
  refine g_Call ?_
  refine wpG_of (load_glob E0 R.base hk hd (mg_of E0.c.K E0.c.g (lse_glob _).1) ?_)
  refine args_K (Q:=fun vs st=>∃ v,vs=[v]∧∃ m,v = .byt m∧Xc m { st with lx:=none }) (xs:=[x]) (.cons ⟨he,hT,hst⟩ .nil) E0 hΓ hq R ?_ (lse_glob _).2 (fun G1 b1 st1 v1 V1 hp1 tk1 g1 R1 r1 hw1=>?_) KE
  · rw [w_cons]
    simp only [w_nil]
    have e1:(fun (v:V) (st:St)=>∃ v_1,[v]=[v_1]∧∃ m,v_1=V.byt m∧Xc m { st with lx:=none })=fun v st=>∃ m,v = .byt m∧Xc m { st with lx:=none }:=by
      funext v st
      exact propext ⟨fun ⟨_,h1,h2⟩=>by cases h1; exact h2,fun h=>⟨v,rfl,h⟩⟩
    rw [e1]
    exact hw
  refine bC fun ng=>?_;obtain ⟨_,rfl,m,rfl,hx⟩:=hw1;refine ng ?_;clear ng
  refine bC fun ng=>?_;obtain ⟨_,_,rfl,r,rs⟩:=rCons r1;refine ng ?_;clear ng
  cases rs
  obtain ⟨t,rfl⟩:=rByt r
  have X1:=Rel.kIn E0.c R1.base
  have kp:∀ b o,hp1.get? b=some o→((hp1.push (tupObj [.bytes m.toArray t])).push (excObj hp1.objs.size)).get? b=some o:=fun b o q=>Heap.get?_push_of_some _ (Heap.get?_push_of_some _ q)
  refine wpG_call ?_
  refine g_lse (h:=hp1) X1 ?_
  have hx1:((hp1.push (tupObj [.bytes m.toArray t])).push (excObj hp1.objs.size)).get? (hp1.objs.size+1)=some (excObj hp1.objs.size):=by heap_get
  refine exc_init (s:=⟨_,_,_,_,_⟩) ?_ (X1.keeps kp) ((Base.noLimit E0.c R1.base).keeps kp) hx1 (fun b o q=>?_) fun h3 tk3 de es n e3 d3 hv nde K3=>?_
  · have h1:=E0.depth
    show A.depth+1 < recursionLimit
    omega
  · exact Nat.ne_of_lt (Nat.lt_succ_of_lt (Heap.lt_size (X1 _ _ q)))
  · refine ⟨rfl,?_⟩
    refine leaf (wpAny_standAt (wpG_pure ⟨hp1.objs.size+1,_,_,rfl,?_,e3,?_⟩))
    · have h87:=X1 _ _ (lse_at f.c.P)
      exact K3 _ _ (Nat.ne_of_lt (Nat.lt_succ_of_lt (Heap.lt_size h87))) (kp _ _ h87)
    · have old:∀ b o,hp1.get? b=some o→h3.get? b=some o:=fun b o q=>K3 b o (Nat.ne_of_lt (Nat.lt_succ_of_lt (Heap.lt_size q))) (kp _ _ q)
      have ndp:hp1.get? de=none:=by
        cases q:hp1.get? de with
        | none=>rfl
        | some o=>have:=kp _ _ q; rw [show ((hp1.push (tupObj [.bytes m.toArray t])).push (excObj hp1.objs.size)).get? de=none from nde] at this; cases this
      have nep:hp1.get? (hp1.objs.size+1)=none:=by
        cases q:hp1.get? (hp1.objs.size+1) with
        | none=>rfl
        | some o=>exact absurd (Heap.lt_size q) (Nat.not_lt.mpr (Nat.le_succ _))
      have ned:hp1.objs.size+1≠de:=fun q=>by rw [← q,e3] at d3; cases d3
      have S3:Same f [] hp1 h3:=.of_keeps old
      have R3:=R1.grow S3 (.one (R1.base.fresh ndp) ndp d3)
      refine KE _ { st1 with lx:=none } _ m h3 tk3 ⟨R3.base,R3.loc,none,⟨⟨de,_,_,es,n,t,e3,setG_at _ _ _,hv,rfl⟩,?_,R1.base.freshS nep⟩,.inl rfl⟩ hx
      unfold setG
      rw [if_neg ned]
      exact R1.base.fresh nep
end
section
variable {P:Params} {G G':Froz} {la:LA}
set_option tactic.hygienic true in
theorem fld_refs {fs:List (String × V)} {es:List DictEntry} (h:All2 (FldRel P G la) fs es):es.any (·.refKey)=false:=by
  induction h with
  | nil=>rfl
  | cons hh hs ih=>
    rename_i p e fs es
    obtain ⟨⟨t,hk⟩,_⟩:=hh
    have hr:e.refKey=false:=by unfold DictEntry.refKey; rw [hk]
    rw [List.any_cons,hr,Bool.false_or]; exact ih
theorem fld_some {fs:List (String × V)} {es:List DictEntry} (h:All2 (FldRel P G la) fs es) (n:Str):(getL n es).isSome=true:=by
  unfold getL
  rw [fld_refs h]
  split <;> rfl
theorem all2_len {α β:Type} {R:α→β→Prop} {as:List α} {bs:List β} (h:All2 R as bs):as.length=bs.length:=by
  induction h with
  | nil=>rfl
  | cons _ _ ih=>rw [List.length_cons,List.length_cons,ih]
theorem FldRel.put {n:String} {V:V} {e:DictEntry} (hk:∃ t,e.key = .str (Str.ofString n) t) (hv1:V = .bufref→e.val = .ref la.b) (hv2:V ≠ .bufref→Rep P G la.a V e.val):FldRel P G la (n,V) e:=
  ⟨hk,by cases V <;> first | exact hv2 (fun q=>nomatch q) | exact hv1 rfl⟩
theorem all2_put {n:String} {V:V} {v:Value} {hsh:Int} {t:Tok} (hv1:V = .bufref→v = .ref la.b) (hv2:V ≠ .bufref→Rep P G la.a V v) {fs:List (String × Mine.V)} {es:List DictEntry} (h:All2 (FldRel P G la) fs es):All2 (FldRel P G la) (setF' n V fs) (putL (Str.ofString n) hsh (.str (Str.ofString n) t) v es):=by
  induction h with
  | nil=>exact .cons (.put ⟨t,rfl⟩ hv1 hv2) .nil
  | @cons p e fs es hh hs ih=>
    obtain ⟨tk,hk⟩:=hh.1
    have hs':e.key.isStr (Str.ofString n)=(Str.ofString p.1 == Str.ofString n):=by rw [hk]; rfl
    show All2 _ (if p.1=n then (n,V) :: fs else p :: setF' n V fs) (if e.key.isStr (Str.ofString n)=true then ⟨e.hash,e.key,v⟩ :: es else e :: putL (Str.ofString n) hsh (.str (Str.ofString n) t) v es)
    by_cases q:p.1=n
    · rw [if_pos q,if_pos (by rw [hs',q]; exact beq_self_eq_true _)]
      exact .cons (.put ⟨tk,by rw [← q]; exact hk⟩ hv1 hv2) hs
    · rw [if_neg q,if_neg (by rw [hs']; intro z; exact q (ofString_inj (beq_iff_eq.mp z)))]
      exact .cons hh ih
theorem mem_setF {n:String} {V:V}:∀ {fs:List (String × Mine.V)} {p:String × Mine.V},p∈setF' n V fs→p=(n,V)∨p∈fs
  | [],p,h=>.inl (List.mem_singleton.mp h)
  | (m,U) :: fs,p,h=>by
    unfold setF' at h
    split at h
    · rcases List.mem_cons.mp h with h | h
      · exact .inl h
      · exact .inr (.tail _ h)
    · rcases List.mem_cons.mp h with h | h
      · exact .inr (h ▸ .head _)
      · rcases mem_setF h with h | h
        · exact .inl h
        · exact .inr (.tail _ h)
end
section
variable {f:FR} {G:Froz} {la:LA} {st:St} {h h':Heap}
theorem Rel.setD {l l':Lex} (R:Rel f G la st h) (hlx:st.lx=some l) (hs:Heap.SameBut la.d h h') (hd:∃ es n,h'.get? la.d=some (dictOf es n)∧All2 (FldRel f.c.P G la) l'.fs es)
    (one:∀ p∈l'.fs,p.2 = .bufref↔p.1 = "buffer") (buf:l'.buf=l.buf) (has:∀ p∈l'.fs,p.2 = .bufref→l'.buf≠none) (nm:∀ p∈l'.fs,p.1∈flds):Rel f G la { st with lx:=some l' } h':=by
  obtain ⟨m,hV,hL⟩:=R.loc
  have rl:=R.lex
  rw [hlx] at rl
  have rl:LexRel f G h la l:=rl
  obtain ⟨es,n,e1,e2⟩:=rl.dict
  obtain ⟨es',n',d1,d2⟩:=hd
  have S:Same f [la.d] h h':=.but hs ⟨_,d1⟩
  refine ⟨R.base.step S (.refl ..) (fun x hx=>?_) (fun q=>?_),⟨m,hV.step R.base S (fun q=>?_) (fun x hx v ⟨o,ho,hd⟩=>?_),hL.step S (.refl ..) fun x hx ws k q=>?_⟩,?_⟩
  · rw [List.mem_singleton.mp hx]; exact ⟨rl.gd,rl.pr,fun q=>absurd q rl.nf⟩
  · exact absurd (List.mem_singleton.mp q ▸ R.base.lf) rl.nf
  · exact absurd (List.mem_singleton.mp q ▸ R.base.lf) rl.nf
  · rw [List.mem_singleton.mp hx,e1] at ho; cases ho; cases hd
  · rw [List.mem_singleton.mp hx,e1] at q; exact absurd (congrArg Obj.data (Option.some.inj q)) (fun z=>nomatch z)
  · refine (show LexRel f G h' la l' from ⟨rl.inst,⟨es',n',d1,d2⟩,rl.gd,rl.nf,rl.pr,one,fun b hb=>?_,has,nm⟩)
    have rb:=rl.buf b (buf ▸ hb)
    have ne:la.b≠la.d:=fun q=>by have:=rb.at_; rw [q,e1] at this; exact absurd (congrArg Obj.data (Option.some.inj this)) (fun z=>nomatch z)
    exact ⟨(hs.2 _ ne).trans rb.at_,rb.gb,rb.nf,rb.pr⟩
theorem Rel.extD {l:Lex} (R:Rel f G la st h) (hlx:st.lx=some l) (hs:Heap.SameBut la.d h h') (hd:Liv h' la.d):Ext false f G G h h':=by
  have rl:=R.lex
  rw [hlx] at rl
  have rl:LexRel f G h la l:=rl
  obtain ⟨es,n,e1,e2⟩:=rl.dict
  refine .same R.base (.but hs hd) (.refl ..) fun x hx=>?_
  rw [List.mem_singleton.mp hx]
  exact ⟨_,e1,(fun ω q=>nomatch q),fun q=>nomatch q⟩
theorem lex_facts (P:Params):findIn (KF P) (.ref aLex) "__setattr__" = some (some (.builtin "object.__setattr__"))∧plainOver (KF P) aLex=true:=⟨by kernel_rfl,by kernel_rfl⟩
theorem lex_taker (P:Params) {n:String} (hn:n∈flds):takerIn (KF P) aLex (Str.ofString n)=some none:=by
  unfold takerIn
  rw [attr_none P hn (C:=aLex) (.head _)]
  rfl
theorem setFld_ok {A:Around} {s:Shared} {EC:Value→Shared→Prop} {l:Lex} {n:String} {V:V} {v:Value} {Q:Unit→Shared→Prop} (c:f.c.Ok) (R:Rel f G la st s.heap) (hlx:st.lx=some l) (hz:l.fs.length≤100) (hn:n∈flds) (hb:n ≠ "buffer") (hV:¬ V matches .bufref) (rv:Rep f.c.P G la.a V v)
    (h:∀ h' tk,Rel f G la { st with lx:=some { l with fs:=setF' n V l.fs } } h'→Ext false f G G s.heap h'→Q () { s with heap:=h',toks:=tk }):wpAny f.c.M A (setAttr (.ref la.a) (Str.ofString n) v) Q EC s:=by
  have rl:=R.lex
  rw [hlx] at rl
  have rl:LexRel f G s.heap la l:=rl
  obtain ⟨es,k,e1,e2⟩:=rl.dict
  have X:=Rel.kIn c R.base
  have F:=cls_facts f.c.P (C:=465) (.head _)
  have hle:=all2_len e2
  refine inst_set X (R.base.gh _ _ rl.inst) e1 (lex_facts _).1 (lex_facts _).2 (lex_taker _ hn) F.2 (fld_some e2 _) (fun k=>Nat.le_trans len_putL (by omega)) fun h' tk tk' d1 hs=>?_
  have hVb:V ≠ .bufref:=fun q=>hV (by rw [q])
  refine h h' tk' (R.setD hlx hs ⟨_,_,d1,all2_put (fun q=>absurd q hVb) (fun ω=>rv) e2⟩ (fun p hp=>?_) rfl (fun p hp q=>?_) fun p hp=>?_) (R.extD hlx hs ⟨_,d1⟩)
  · rcases mem_setF hp with rfl | hp
    · exact ⟨fun q=>absurd q hVb,fun q=>absurd q hb⟩
    · exact rl.one p hp
  · rcases mem_setF hp with rfl | hp
    · exact absurd q hVb
    · exact rl.has p hp q
  · rcases mem_setF hp with rfl | hp
    · exact hn
    · exact rl.nm p hp
end
section
variable {Γ:Specs} {sc:Scope} {H:Nat} {e:Expr} {x:X}
theorem sndS_setF {o:Expr} {xo:X} {n:String} {p pos:Pos} (he:Snd Γ sc H e x) (ho:Snd Γ sc H o xo) (hn:n∈flds) (hs:∀ env,swapsWith e (some (.Attribute o (Str.ofString n) p)) pos.line env=pure false):SndS Γ sc H (.Assign [.Attribute o (Str.ofString n) p] e pos) (.setF xo n x):=by
  intro f env A s G la st Q Xc QC EC E0 hΓ hq R hw K KE
  rw [s_setF] at hw
  refine g_Assign_Attr ?_ (hs env)
  refine he E0 hΓ (.inr hq) R hw (fun G1 b1 st1 v1 V1 hp1 tk1 g1 R1 r1 hw1=>?_) KE
  refine ho E0 hΓ (.inr hq) R1 hw1 (fun G2 b2 st2 v2 V2 hp2 tk2 g2 R2 r2 hw2=>?_) (fun G' st' e m h' tk'=>KE G' st' e m h' tk')
  refine bC fun ng=>?_;obtain ⟨hv,hb,hV,l,hlx,hz,hQ⟩:=hw2;refine ng ?_;clear ng
  have hV2:V2 = .lex:=by cases V2 <;> first | rfl | (cases hv; done)
  subst hV2
  cases r2
  exact setFld_ok (la:={ la with b:=b2 }) E0.c R2 hlx hz hn hb hV (Rep.mono g2.mono r1) fun h' tk R' x'=>K G2 b2 _ .next .next h' tk (fun ω=>(g1.trans g2).weak.trans x') R' trivial hQ
set_option tactic.hygienic true in
theorem buf_facts {f:FR} {G:Froz} {la:LA} {st:St} {h:Heap} {n:String} {b:List UInt8} (R:Rel f G la st h) (hb:bufAt n st=some b):∃ l,lkL n st.ρ=some (.v .lex)∧st.lx=some l∧getF "buffer" l.fs=some .bufref∧l.buf=some b∧LexRel f G h la l∧BufOk f G h la b:=by
  unfold bufAt at hb
  split at hb
  · rename_i l h1 h2
    split at hb
    · rename_i h3
      have rl:=R.lex
      rw [h2] at rl
      have rl:LexRel f G h la l:=rl
      exact ⟨l,h1,h2,h3,hb,rl,rl.buf b hb⟩
    · cases hb
  · cases hb
theorem buf_ok {f:FR} {env:Env} {A:Around} {s:Shared} {G:Froz} {la:LA} {st:St} {QC EC:Value→Shared→Prop} {n:String} {b:List UInt8} {np ap:Pos} (E0:Env0 f sc env A H) (R:Rel f G la st s.heap) (hk:isLoc sc n=true) (hd:(Str.ofString n == ("__debug__" : Str))=false) (hb:bufAt n st=some b)
    (h:QC (.ref la.b) { s with toks:=s.toks+1 }):wpG f.c.M A (eval (.Attribute (.Name (Str.ofString n) np) (Str.ofString "buffer") ap) env) QC EC s:=by
  obtain ⟨l,h1,h2,h3,h4,rl,rb⟩:=buf_facts R hb
  refine g_Attr ?_ abN
  obtain ⟨m,hV,hL⟩:=R.loc
  obtain ⟨v,hv,rv⟩:=hL.rel n _ h1
  refine wpG_of (wpAny_Name (load_ok E0 hV hk hv ?_) hd)
  have rv:Rep f.c.P G la.a .lex v:=rv
  cases rv
  obtain ⟨es,k,e1,e2⟩:=rl.dict
  obtain ⟨u,q1,q2,q3,q4⟩:=fld_get e2 h3
  have:=q3 rfl
  subst this
  exact get_attr (Rel.kIn E0.c R.base) (R.base.gh _ _ rl.inst) rfl e1 (.head _) (by decide) q1 q2 h
noncomputable def SndI (sc:Scope) (e:Expr) (x:X):Prop:=
  ∀ {f:FR} {env:Env} {A:Around} {H:Nat} {s:Shared} {G:Froz} {la:LA} {st:St} {i:Int} {QC EC:Value→Shared→Prop},
    Env0 f sc env A H→Rel f G la st s.heap→ev x st=some i→(∀ t tk,QC (.int i t) { s with toks:=tk })→wpG f.c.M A (eval e env) QC EC s
theorem iv_loc {n:String} {st:St} {i:Int} (h:ev (.loc n) st=some i):lkL n st.ρ=some (.v (.int i)):=by
  have h:(match lkL n st.ρ with
    | some (.v (.int i))=>some i
    | _=>none)=some i:=h
  cases e:lkL n st.ρ with
  | none=>rw [e] at h; cases h
  | some l=>
    rw [e] at h
    clear e
    cases l with
    | own _=>cases h
    | v w=>cases w <;> first | exact (nS h) | (cases h; rfl)
theorem iv_sub {a b:X} {st:St} {j:Int} (h:ev (.bin .Sub a b) st=some j):∃ i k,ev a st=some i∧ev b st=some k∧j=i - k:=by
  have h:(match ev a st,ev b st with
    | some i,some j=>some (i - j)
    | _,_=>none)=some j:=h
  cases e:ev a st with
  | none=>rw [e] at h; cases h
  | some i=>
    cases e2:ev b st with
    | none=>rw [e,e2] at h; cases h
    | some k=>rw [e,e2] at h; cases h; exact ⟨_,_,rfl,rfl,rfl⟩
theorem iv_len {n:String} {st:St} {j:Int} (h:ev (.lenB n) st=some j):∃ b,bufAt n st=some b∧b.length≤16777216∧j=(b.length:Int):=by
  have h:(match bufAt n st with
    | some b=>if b.length≤16777216 then some (b.length:Int) else none
    | none=>none)=some j:=h
  cases e:bufAt n st with
  | none=>rw [e] at h; cases h
  | some b=>
    rw [e] at h
    rcases Classical.em (b.length≤16777216) with q | q
    · have h:=(if_pos q).symm.trans h
      cases h
      exact ⟨_,rfl,q,rfl⟩
    · exact nomatch ((if_neg q).symm.trans h:Option.none=some j)
theorem sndI_int {i:Int} {k:Nat} {pos:Pos}:SndI sc (.Constant (.int i) k pos) (.cst (.int i)):=by
  intro f env A H s G la st j QC EC E0 R he K
  cases he
  exact fun ω ω ω ω=>K _ _
theorem sndI_loc {n:String} {pos:Pos} (hk:isLoc sc n=true) (hd:(Str.ofString n == ("__debug__" : Str))=false):SndI sc (.Name (Str.ofString n) pos) (.loc n):=by
  intro f env A H s G la st j QC EC E0 R he K
  have hx:=iv_loc he
  obtain ⟨m,hV,hL⟩:=R.loc
  obtain ⟨v,hv,rv⟩:=hL.rel n _ hx
  have rv:Rep f.c.P G la.a (.int j) v:=rv
  obtain ⟨t,rfl⟩:=rInt rv; exact wpG_of (wpAny_Name (load_ok E0 hV hk hv (K t s.toks)) hd)
theorem sndI_sub {a b:Expr} {xa xb:X} {pos:Pos} (ha:SndI sc a xa) (hb:SndI sc b xb):SndI sc (.BinOp a .Sub b pos) (.bin .Sub xa xb):=by
  intro f env A H s G la st j QC EC E0 R he K
  obtain ⟨i,k,h1,h2,rfl⟩:=iv_sub he
  refine g_BinOp (ha E0 R h1 fun t tk=>hb (s:={ s with toks:=tk }) E0 R h2 fun t' tk'=>wpG_of ?_)
  exact _root_.PySem.P.sub_int (K _ _)
theorem len_bi (P:Params):nsIn (KF P) mainGlobals (Str.ofString "len")=some none∧nsIn (KF P) mainGlobals (Str.ofString "bytes")=some none∧nsIn (KF P) mainGlobals (Str.ofString "bytearray")=some none∧nsIn (KF P) mainGlobals (Str.ofString "range")=some none:=⟨by kernel_rfl,by kernel_rfl,by kernel_rfl,by kernel_rfl⟩
theorem boot_bi:bootBuiltins (Str.ofString "len")=some (.builtin "len")∧bootBuiltins (Str.ofString "bytes")=some (.type "bytes")∧bootBuiltins (Str.ofString "bytearray")=some (.type "bytearray")∧bootBuiltins (Str.ofString "range")=some (.type "range"):=⟨by kernel_rfl,by kernel_rfl,by kernel_rfl,by kernel_rfl⟩
theorem not_name {x:String} (h:x ≠ "__name__"):Str.ofString x ≠ "__name__":=fun q=>h (ofString_inj q)
theorem call_one {f:FR} {env:Env} {A:Around} {s:Shared} {QC EC:Value→Shared→Prop} {fv v:Value} {a:Expr} {pos:Pos} {tk:Nat} (hf:∀ a,fv ≠ .ref a) (hst:∀ rest,starEach (a :: rest) env=(false,eval a env) :: starEach rest env)
    (ha:wpG f.c.M A (eval a env) (fun u s'=>wpG f.c.M A (call fv [u]) QC EC s') EC s):wpG f.c.M A (callWith pos fv [] (backTo pos (starEach [a] env)) []) QC EC s:=by
  rw [hst]
  refine g_callWith rfl (keep_plain hf) ?_
  refine g_evalArgs ?_
  have:=g_more (M:=f.c.M) (A:=A) (E:=EC) (s:=s) (env:=env) (e:=a) (rest:=[]) (pos:=pos) (Q:=fun vs s'=>True∧wpG f.c.M A (call fv ([]++vs)) QC EC s') ?_ (hst _)
  · rw [hst] at this; exact this
  refine wpG_mono ha (fun u s' h=>g_none ⟨trivial,h⟩) fun ω ω h=>h
theorem len_core {f:FR} {env:Env} {A:Around} {s:Shared} {G:Froz} {la:LA} {st:St} {QC EC:Value→Shared→Prop} {n:String} {b:List UInt8} {np ap xp pos:Pos} (hkl:sc.names.lookup (Str.ofString "len")=some .globalImplicit) (hk:isLoc sc n=true) (hd:(Str.ofString n == ("__debug__" : Str))=false) (E0:Env0 f sc env A H) (R:Rel f G la st s.heap) (hb:bufAt n st=some b) (hz:b.length≤16777216)
    (K:∀ t tk,QC (.int b.length t) { s with toks:=tk }):wpG f.c.M A (eval (.Call (.Name (Str.ofString "len") xp) [.Attribute (.Name (Str.ofString n) np) (Str.ofString "buffer") ap] [] pos) env) QC EC s:=by
  obtain ⟨hm,hbm⟩:=bi_at E0.c (len_bi _).1 boot_bi.1 (not_name (by decide))
  refine g_Call ?_
  refine wpG_of (load_bi E0 R.base hkl (by rfl) hm hbm ?_)
  refine call_one (v:=.none) (tk:=0) (fun a q=>nomatch q) (fun ω=>rfl) ?_
  refine buf_ok E0 R hk hd hb ?_
  obtain ⟨l,h1,h2,h3,h4,rl,rb⟩:=buf_facts R hb
  exact wpG_of (ba_len rb.at_ hz fun t tk=>K t tk)
theorem sndI_len {n:String} {np ap xp pos:Pos} (hkl:sc.names.lookup (Str.ofString "len")=some .globalImplicit) (hk:isLoc sc n=true) (hd:(Str.ofString n == ("__debug__" : Str))=false):SndI sc (.Call (.Name (Str.ofString "len") xp) [.Attribute (.Name (Str.ofString n) np) (Str.ofString "buffer") ap] [] pos) (.lenB n):=by
  intro f env A H s G la st j QC EC E0 R he K
  obtain ⟨b,hb,hz,rfl⟩:=iv_len he
  exact len_core hkl hk hd E0 R hb hz K
theorem snd_lenB {n:String} {np ap xp pos:Pos} (hkl:sc.names.lookup (Str.ofString "len")=some .globalImplicit) (hk:isLoc sc n=true) (hd:(Str.ofString n == ("__debug__" : Str))=false):Snd Γ sc H (.Call (.Name (Str.ofString "len") xp) [.Attribute (.Name (Str.ofString n) np) (Str.ofString "buffer") ap] [] pos) (.lenB n):=by
  intro f env A s G la st Q Xc QC EC E0 hΓ hq R hw K KE
  rw [w_lenB] at hw
  obtain ⟨b,hb,hz,hQ⟩:=hw
  exact len_core hkl hk hd E0 R hb hz fun t tk=>K G la.b st _ _ s.heap tk (.refl ..) R (.int _ t) hQ
theorem snd_bytesB {n:String} {np ap xp pos:Pos} (hkl:sc.names.lookup (Str.ofString "bytes")=some .globalImplicit) (hk:isLoc sc n=true) (hd:(Str.ofString n == ("__debug__" : Str))=false):Snd Γ sc H (.Call (.Name (Str.ofString "bytes") xp) [.Attribute (.Name (Str.ofString n) np) (Str.ofString "buffer") ap] [] pos) (.bytesB n):=by
  intro f env A s G la st Q Xc QC EC E0 hΓ hq R hw K KE
  rw [w_bytesB] at hw
  obtain ⟨b,hb,hz,hQ⟩:=hw
  obtain ⟨hm,hbm⟩:=bi_at E0.c (len_bi _).2.1 boot_bi.2.1 (not_name (by decide))
  refine g_Call ?_
  refine wpG_of (load_bi E0 R.base hkl (by rfl) hm hbm ?_)
  refine call_one (v:=.none) (tk:=0) (fun a q=>nomatch q) (fun ω=>rfl) ?_
  refine buf_ok E0 R hk hd hb ?_
  obtain ⟨l,h1,h2,h3,h4,rl,rb⟩:=buf_facts R hb
  exact wpG_of (ba_bytes rb.at_ hz fun t tk=>K G la.b st _ _ s.heap tk (.refl ..) R (.byt _ t) hQ)
end
section
variable {Γ:Specs} {sc:Scope} {H:Nat} {e:Expr} {x:X}
theorem cut_core {f:FR} {env:Env} {A:Around} {s:Shared} {G:Froz} {la:LA} {st:St} {QC EC:Value→Shared→Prop} {n:String} {b:List UInt8} {np ap pos p:Pos} {lo hi:Option Expr} {lv hv:Option Int} (hk:isLoc sc n=true) (hd:(Str.ofString n == ("__debug__" : Str))=false) (E0:Env0 f sc env A H) (R:Rel f G la st s.heap) (hb:bufAt n st=some b) (hz:b.length≤16777216)
    (hlo:∀ (s':Shared) (Q:Value→Shared→Prop),s'.heap=s.heap→(∀ v tk,IsPart v lv→Q v { s' with toks:=tk })→wpG f.c.M A (evalPart lo env) Q EC s')
    (hhi:∀ (s':Shared) (Q:Value→Shared→Prop),s'.heap=s.heap→(∀ v tk,IsPart v hv→Q v { s' with toks:=tk })→wpG f.c.M A (evalPart hi env) Q EC s')
    (K:∀ r h' tk,h'.get? r=some (byteObj (cutV b (lv.elim 0 id) (hv.elim b.length id)))→s.heap.get? r=none→(∀ b o,s.heap.get? b=some o→h'.get? b=some o)→QC (.ref r) { s with heap:=h',toks:=tk }) :
    wpG f.c.M A (eval (.Subscript (.Attribute (.Name (Str.ofString n) np) (Str.ofString "buffer") ap) (.Slice lo hi none p) pos) env) QC EC s:=by
  refine g_Subscript ?_
  refine buf_ok E0 R hk hd hb ?_
  obtain ⟨l,h1,h2,h3,h4,rl,rb⟩:=buf_facts R hb
  refine g_Slice ?_
  refine hlo _ _ rfl fun v1 tk1 p1=>?_
  refine hhi _ _ rfl fun v2 tk2 p2=>?_
  refine wpG_pure ?_
  obtain ⟨ops,hops⟩:=sub_ops (.Slice lo hi none p) (.ref la.b) (.ref s.heap.objs.size)
  have hb1:(s.heap.push { cls:=.type "slice",data:=.fields #[v1,v2,.none] }).get? la.b=some (byteObj b):=Heap.get?_push_of_some _ rb.at_
  refine wpG_of (tail_any (T:="bytearray") ⟨_,hb1,rfl⟩ slot_ba_getitem.lookup (ba_slice p1 p2 hb1 (Heap.IsSliceOf.new _ _ _ _) hz ?_) hops)
  have e1:(KBy.picked b.toArray lv hv).toList=cutV b (lv.elim 0 id) (hv.elim b.length id):=by rw [cut_eq]
  rw [e1]
  refine K _ _ _ (Heap.get?_push_size _ rfl) ?_ fun b' o q=>Heap.get?_push_of_some _ (Heap.get?_push_of_some _ q)
  cases q:s.heap.get? (s.heap.push { cls:=.type "slice",data:=.fields #[v1,v2,.none] }).objs.size with
  | none=>rfl
  | some o=>exact absurd (Heap.get?_push_of_some { cls:=.type "slice",data:=.fields #[v1,v2,.none] } q) (by rw [size_new]; exact fun z=>nomatch z)
theorem part_I {f:FR} {env:Env} {A:Around} {s:Shared} {G:Froz} {la:LA} {st:St} {EC:Value→Shared→Prop} {i:Int} (hi:SndI sc e x) (E0:Env0 f sc env A H) (R:Rel f G la st s.heap) (he:ev x st=some i) (s':Shared) (Q:Value→Shared→Prop) (hs:s'.heap=s.heap) (K:∀ v tk,IsPart v (some i)→Q v { s' with toks:=tk }):wpG f.c.M A (evalPart (some e) env) Q EC s':=
  hi E0 (hs ▸ R:Rel f G la st s'.heap) he fun t tk=>K _ tk (.int i t)
theorem snd_bytesCut {n:String} {lo hi:Expr} {xl xh:X} {np ap xp sp p pos:Pos} (hkl:sc.names.lookup (Str.ofString "bytes")=some .globalImplicit) (hk:isLoc sc n=true) (hd:(Str.ofString n == ("__debug__" : Str))=false) (hlo:SndI sc lo xl) (hhi:SndI sc hi xh) :
    Snd Γ sc H (.Call (.Name (Str.ofString "bytes") xp) [.Subscript (.Attribute (.Name (Str.ofString n) np) (Str.ofString "buffer") ap) (.Slice (some lo) (some hi) none p) sp] [] pos) (.bytesCut n xl xh):=by
  intro f env A s G la st Q Xc QC EC E0 hΓ hq R hw K KE
  rw [w_bytesCut] at hw
  obtain ⟨b,k,h,hb,h1,h2,hz,-,-,hQ⟩:=hw
  obtain ⟨hm,hbm⟩:=bi_at E0.c (len_bi _).2.1 boot_bi.2.1 (not_name (by decide))
  refine g_Call ?_
  refine wpG_of (load_bi E0 R.base hkl (by rfl) hm hbm ?_)
  refine call_one (v:=.none) (tk:=0) (fun a q=>nomatch q) (fun ω=>rfl) ?_
  refine cut_core hk hd E0 R hb hz (part_I hlo E0 R h1) (part_I hhi E0 R h2) fun r h' tk hr hn keep=>?_
  have hz':(cutV b k h).length≤16777216:=by
    unfold cutV
    rw [List.length_drop,List.length_take]
    omega
  exact wpG_of (ba_bytes hr hz' fun t tk=>K G la.b st _ _ h' tk (.keeps keep) (R.grow (.of_keeps keep) (.refl ..)) (.byt _ t) hQ)
theorem Rel.setB {f:FR} {G:Froz} {la:LA} {st:St} {h h':Heap} {l:Lex} {r:Addr} {b:List UInt8} (R:Rel f G la st h) (hlx:st.lx=some l) (hr:h.get? r=some (byteObj b)) (gr:G r=none) (fr:f.h₀.get? r=none) (nr:r ∉ f.fs)
    (hs:Heap.SameBut la.d h h') (hd:∃ es n,h'.get? la.d=some (dictOf es n)∧All2 (FldRel f.c.P G { la with b:=r }) (setF' "buffer" .bufref l.fs) es) :
    Rel f G { la with b:=r } { st with lx:=some ⟨setF' "buffer" .bufref l.fs,some b⟩ } h':=by
  obtain ⟨m,hV,hL⟩:=R.loc
  have rl:=R.lex
  rw [hlx] at rl
  have rl:LexRel f G h la l:=rl
  obtain ⟨es,n,e1,e2⟩:=rl.dict
  obtain ⟨es',n',d1,d2⟩:=hd
  have S:Same f [la.d] h h':=.but hs ⟨_,d1⟩
  refine ⟨R.base.step S (.refl ..) (fun x hx=>?_) (fun q=>?_),⟨m,hV.step R.base S (fun q=>?_) (fun x hx v ⟨o,ho,hd⟩=>?_),hL.step S (.refl ..) fun x hx ws k q=>?_⟩,?_⟩
  · rw [List.mem_singleton.mp hx]; exact ⟨rl.gd,rl.pr,fun q=>absurd q rl.nf⟩
  · exact absurd (List.mem_singleton.mp q ▸ R.base.lf) rl.nf
  · exact absurd (List.mem_singleton.mp q ▸ R.base.lf) rl.nf
  · rw [List.mem_singleton.mp hx,e1] at ho; cases ho; cases hd
  · rw [List.mem_singleton.mp hx,e1] at q; exact absurd (congrArg Obj.data (Option.some.inj q)) (fun z=>nomatch z)
  · have ne:r≠la.d:=fun q=>by rw [q,e1] at hr; exact absurd (congrArg Obj.data (Option.some.inj hr)) (fun z=>nomatch z)
    refine (show LexRel f G h' { la with b:=r } ⟨setF' "buffer" .bufref l.fs,some b⟩ from ⟨rl.inst,⟨es',n',d1,d2⟩,rl.gd,rl.nf,rl.pr,fun p hp=>?_,fun b' hb=>?_,fun p hp q=>(fun z=>nomatch z),fun p hp=>?_⟩)
    · rcases mem_setF hp with rfl | hp
      · exact ⟨fun ω=>rfl,fun ω=>rfl⟩
      · exact rl.one p hp
    · cases hb
      exact ⟨(hs.2 _ ne).trans hr,gr,nr,.inr fr⟩
    · rcases mem_setF hp with rfl | hp
      · exact (by decide)
      · exact rl.nm p hp
end
section
variable {P:Params} {G:Froz} {la:LA}
theorem FldRel.other {r:Addr} {p:String × V} {e:DictEntry} (h:FldRel P G la p e) (hp:p.2 ≠ .bufref):FldRel P G { la with b:=r } p e:=by
  obtain ⟨n,U⟩:=p
  refine ⟨h.1,?_⟩
  have h2:=h.2
  cases U <;> first | exact h2 | exact absurd rfl hp
theorem all2_other {r:Addr} {fs:List (String × V)} {es:List DictEntry} (h:All2 (FldRel P G la) fs es) (hn:∀ p∈fs,p.2 ≠ .bufref):All2 (FldRel P G { la with b:=r }) fs es:=by
  induction h with
  | nil=>exact .nil
  | cons a _ ih=>exact .cons (a.other (hn _ (.head _))) (ih fun p hp=>hn p (.tail _ hp))
theorem all2_buf {r:Addr} {hsh:Int} {t:Tok} {fs:List (String × V)} {es:List DictEntry} (h:All2 (FldRel P G la) fs es) (one:∀ p∈fs,p.2 = .bufref↔p.1 = "buffer") (ho:bufOnce fs=true):All2 (FldRel P G { la with b:=r }) (setF' "buffer" .bufref fs) (putL (Str.ofString "buffer") hsh (.str (Str.ofString "buffer") t) (.ref r) es):=by
  induction h with
  | nil=>exact .cons (.put ⟨t,rfl⟩ (fun ω=>rfl) fun q=>absurd rfl q) .nil
  | @cons p e fs es hh hs ih=>
    obtain ⟨tk,hk⟩:=hh.1
    have hs':e.key.isStr (Str.ofString "buffer")=(Str.ofString p.1 == Str.ofString "buffer"):=by rw [hk]; rfl
    show All2 _ (if p.1 = "buffer" then ("buffer",V.bufref) :: fs else p :: setF' "buffer" .bufref fs) (if e.key.isStr (Str.ofString "buffer")=true then ⟨e.hash,e.key,.ref r⟩ :: es else e :: putL (Str.ofString "buffer") hsh (.str (Str.ofString "buffer") t) (.ref r) es)
    have ho:(if p.1 = "buffer" then fs.all (fun p=>decide (p.1 ≠ "buffer")) else bufOnce fs)=true:=ho
    by_cases q:p.1 = "buffer"
    · rw [if_pos q] at ho
      rw [if_pos q,if_pos (by rw [hs',q]; exact beq_self_eq_true _)]
      exact .cons (.put ⟨tk,by rw [← q]; exact hk⟩ (fun ω=>rfl) fun q=>absurd rfl q) (all2_other hs fun p hp z=>of_decide_eq_true (List.all_eq_true.mp ho p hp) ((one p (.tail _ hp)).mp z))
    · rw [if_neg q] at ho
      rw [if_neg q,if_neg (by rw [hs']; intro z; exact q (ofString_inj (beq_iff_eq.mp z)))]
      exact .cons (hh.other fun z=>q ((one _ (.head _)).mp z)) (ih (fun p hp=>one p (.tail _ hp)) ho)
end
section
variable {Γ:Specs} {sc:Scope} {H:Nat} {e:Expr} {x:X}
theorem setBuf_ok {f:FR} {A:Around} {s:Shared} {G:Froz} {la:LA} {st:St} {EC:Value→Shared→Prop} {l:Lex} {r:Addr} {b:List UInt8} {Q:Unit→Shared→Prop} (c:f.c.Ok) (R:Rel f G la st s.heap) (hlx:st.lx=some l) (hz:l.fs.length≤100) (ho:bufOnce l.fs=true) (hr:s.heap.get? r=some (byteObj b)) (gr:G r=none) (fr:f.h₀.get? r=none) (nr:r ∉ f.fs)
    (h:∀ h' tk,Rel f G { la with b:=r } { st with lx:=some ⟨setF' "buffer" .bufref l.fs,some b⟩ } h'→Ext false f G G s.heap h'→Q () { s with heap:=h',toks:=tk }):wpAny f.c.M A (setAttr (.ref la.a) (Str.ofString "buffer") (.ref r)) Q EC s:=by
  have rl:=R.lex
  rw [hlx] at rl
  have rl:LexRel f G s.heap la l:=rl
  obtain ⟨es,k,e1,e2⟩:=rl.dict
  have X:=Rel.kIn c R.base
  have F:=cls_facts f.c.P (C:=465) (.head _)
  have hle:=all2_len e2
  refine inst_set X (R.base.gh _ _ rl.inst) e1 (lex_facts _).1 (lex_facts _).2 (lex_taker _ (by decide)) F.2 (fld_some e2 _) (fun k=>Nat.le_trans len_putL (by omega)) fun h' tk tk' d1 hs=>?_
  exact h h' tk' (R.setB hlx hr gr fr nr hs ⟨_,_,d1,all2_buf e2 rl.one ho⟩) (R.extD hlx hs ⟨_,d1⟩)
theorem lexName {f:FR} {env:Env} {A:Around} {s:Shared} {G:Froz} {la:LA} {st:St} {QC EC:Value→Shared→Prop} {n:String} {np:Pos} (E0:Env0 f sc env A H) (R:Rel f G la st s.heap) (hk:isLoc sc n=true) (hd:(Str.ofString n == ("__debug__" : Str))=false) (hl:lkL n st.ρ=some (.v .lex))
    (h:QC (.ref la.a) s):wpG f.c.M A (eval (.Name (Str.ofString n) np) env) QC EC s:=by
  obtain ⟨m,hV,hL⟩:=R.loc
  obtain ⟨v,hv,rv⟩:=hL.rel n _ hl
  have rv:Rep f.c.P G la.a .lex v:=rv
  cases rv
  exact wpG_of (wpAny_Name (load_ok E0 hV hk hv h) hd)
theorem lexMatch {n:String} {st:St} (h:lkL n st.ρ matches some (.v .lex)):lkL n st.ρ=some (.v .lex):=by
  cases q:lkL n st.ρ with
  | none=>rw [q] at h; cases h
  | some v=>
    rw [q] at h
    cases v with
    | own vs=>cases h
    | v V=>cases V <;> first | rfl | (cases h; done)
theorem sndS_clrB {n:String} {xp p np cp pos:Pos} (hkb:sc.names.lookup (Str.ofString "bytearray")=some .globalImplicit) (hk:isLoc sc n=true) (hd:(Str.ofString n == ("__debug__" : Str))=false) :
    SndS Γ sc H (.Assign [.Attribute (.Name (Str.ofString n) np) (Str.ofString "buffer") p] (.Call (.Name (Str.ofString "bytearray") xp) [] [] cp) pos) (.clrB n):=by
  intro f env A s G la st Q Xc QC EC E0 hΓ hq R hw K KE
  rw [s_clrB] at hw
  obtain ⟨l,hl,hlx,hz,ho,hQ⟩:=hw
  obtain ⟨hm,hbm⟩:=bi_at E0.c (len_bi _).2.2.1 boot_bi.2.2.1 (not_name (by decide))
  refine g_Assign_Attr ?_ rfl
  refine g_Call ?_
  refine wpG_of (load_bi E0 R.base hkb (by rfl) hm hbm ?_)
  refine g_callWith rfl (keep_plain fun a q=>nomatch q) (wpG_of (evalArgs_nil3 ⟨trivial,?_⟩))
  refine ba_make E0.guards fun h' hr keep=>?_
  have fresh:=size_new s.heap
  have R1:Rel f G la st h':=R.grow (.of_keeps keep) (.refl ..)
  refine lexName (s:={ s with heap:=h' }) E0 R1 hk hd (lexMatch hl) ?_
  exact setBuf_ok (s:={ s with heap:=h' }) E0.c R1 hlx hz ho hr (R.base.fresh fresh) (R.base.freshS fresh) (R.base.freshF fresh) fun h2 tk R2 x2=>K G s.heap.objs.size _ .next .next h2 tk (fun ω=>(Ext.keeps keep).trans x2) R2 trivial hQ
theorem sndS_cutB {n:String} {hi:Expr} {xh:X} {p np np' ap sp pp pos:Pos} (hk:isLoc sc n=true) (hd:(Str.ofString n == ("__debug__" : Str))=false) (hhi:SndI sc hi xh) :
    SndS Γ sc H (.Assign [.Attribute (.Name (Str.ofString n) np) (Str.ofString "buffer") p] (.Subscript (.Attribute (.Name (Str.ofString n) np') (Str.ofString "buffer") ap) (.Slice none (some hi) none pp) sp) pos) (.cutB n xh):=by
  intro f env A s G la st Q Xc QC EC E0 hΓ hq R hw K KE
  rw [s_cutB] at hw
  obtain ⟨l,b,h,hb,h2,hlx,hz,ho,hz2,-,hQ⟩:=hw
  obtain ⟨l',q1,q2,q3,q4,rl,rb⟩:=buf_facts R hb
  refine g_Assign_Attr ?_ rfl
  refine cut_core (lo:=none) (lv:=none) hk hd E0 R hb hz2 (fun s' Q hs K=>wpG_pure (K .none s'.toks .none)) (part_I hhi E0 R h2) fun r h' tk hr hn keep=>?_
  have R1:Rel f G la st h':=R.grow (.of_keeps keep) (.refl ..)
  refine lexName (s:={ s with heap:=h',toks:=tk }) E0 R1 hk hd q1 ?_
  exact setBuf_ok (s:={ s with heap:=h',toks:=tk }) E0.c R1 hlx hz ho hr (R.base.fresh hn) (R.base.freshS hn) (R.base.freshF hn) fun h2 tk R2 x2=>K G r _ .next .next h2 tk (fun ω=>(Ext.keeps keep).trans x2) R2 trivial hQ
end
section
variable {f:FR} {G G':Froz} {la:LA} {st:St} {h h':Heap}
theorem Rel.setBytes {l:Lex} {b b':List UInt8} (R:Rel f G la st h) (hlx:st.lx=some l) (hb:l.buf=some b) (hs:Heap.SameBut la.b h h') (hd:h'.get? la.b=some (byteObj b')):Rel f G la { st with lx:=some { l with buf:=some b' } } h':=by
  obtain ⟨m,hV,hL⟩:=R.loc
  have rl:=R.lex
  rw [hlx] at rl
  have rl:LexRel f G h la l:=rl
  have rb:=rl.buf b hb
  obtain ⟨es,n,e1,e2⟩:=rl.dict
  have S:Same f [la.b] h h':=.but hs ⟨_,hd⟩
  have ne:la.d≠la.b:=fun q=>by have:=rb.at_; rw [← q,e1] at this; exact absurd (congrArg Obj.data (Option.some.inj this)) (fun z=>nomatch z)
  refine ⟨R.base.step S (.refl ..) (fun x hx=>?_) (fun q=>?_),⟨m,hV.step R.base S (fun q=>?_) (fun x hx v ⟨o,ho,hd⟩=>?_),hL.step S (.refl ..) fun x hx ws k q=>?_⟩,?_⟩
  · rw [List.mem_singleton.mp hx]; exact ⟨rb.gb,rb.pr,fun q=>absurd q rb.nf⟩
  · exact absurd (List.mem_singleton.mp q ▸ R.base.lf) rb.nf
  · exact absurd (List.mem_singleton.mp q ▸ R.base.lf) rb.nf
  · rw [List.mem_singleton.mp hx,rb.at_] at ho; cases ho; cases hd
  · rw [List.mem_singleton.mp hx,rb.at_] at q; exact absurd (congrArg Obj.data (Option.some.inj q)) (fun z=>nomatch z)
  · exact (show LexRel f G h' la { l with buf:=some b' } from ⟨rl.inst,⟨es,n,(hs.2 _ ne).trans e1,e2⟩,rl.gd,rl.nf,rl.pr,rl.one,fun c hc=>by cases hc; exact ⟨hd,rb.gb,rb.nf,rb.pr⟩,fun ω ω ω z=>(nomatch z),rl.nm⟩)
theorem Rel.extBytes {l:Lex} {b:List UInt8} (R:Rel f G la st h) (hlx:st.lx=some l) (hb:l.buf=some b) (hs:Heap.SameBut la.b h h') (hd:Liv h' la.b):Ext false f G G h h':=by
  have rl:=R.lex
  rw [hlx] at rl
  have rl:LexRel f G h la l:=rl
  refine .same R.base (.but hs hd) (.refl ..) fun x hx=>?_
  rw [List.mem_singleton.mp hx]
  exact ⟨_,(rl.buf b hb).at_,(fun ω q=>nomatch q),fun q=>nomatch q⟩
end
section
variable {Γ:Specs} {sc:Scope} {H:Nat} {e:Expr} {x:X}
theorem sndS_augN {n:String} {np pos:Pos} (hk:isLoc sc n=true) (he:SndI sc e x):SndS Γ sc H (.AugAssign (.Name (Str.ofString n) np) .Add e pos) (.augN n x):=by
  intro f env A s G la st Q Xc QC EC E0 hΓ hq R hw K KE
  rw [s_augN] at hw
  refine bC fun ng=>?_;obtain ⟨i,j,h1,h2,hQ⟩:=hw;refine ng ?_;clear ng
  refine g_AugName ?_
  obtain ⟨m,hV,hL⟩:=R.loc
  obtain ⟨v,hv,rv⟩:=hL.rel n _ h1
  have rv:Rep f.c.P G la.a (.int i) v:=rv
  obtain ⟨t,rfl⟩:=rInt rv
  refine load_ok E0 hV hk hv ?_
  refine he E0 R h2 fun t' tk=>?_
  refine PySem.AutoIntOps.iadd_0 ?_
  exact R.storeV (s:={ s with toks:=tk+1 }) E0 hk (.int _ _) fun h' tk' R' x'=>K G la.b _ .next .next h' tk' (fun ω=>x') R' trivial hQ
theorem sndS_augF {n y:String} {np ap pos:Pos} (hk:isLoc sc n=true) (hd:(Str.ofString n == ("__debug__" : Str))=false) (hy:y∈flds) (he:SndI sc e x):SndS Γ sc H (.AugAssign (.Attribute (.Name (Str.ofString n) np) (Str.ofString y) ap) .Add e pos) (.augF n y x):=by
  intro f env A s G la st Q Xc QC EC E0 hΓ hq R hw K KE
  rw [s_augF] at hw
  refine bC fun ng=>?_;obtain ⟨l,i,j,hl,hlx,hz,hg,hb,h2,hQ⟩:=hw;refine ng ?_;clear ng
  refine g_AugAttr ?_
  refine lexName E0 R hk hd (lexMatch hl) ?_
  have rl:=R.lex
  rw [hlx] at rl
  have rl:LexRel f G s.heap la l:=rl
  obtain ⟨es,k,e1,e2⟩:=rl.dict
  refine bC fun ng=>?_;obtain ⟨u,q1,q2,q3,q4⟩:=fld_get e2 hg;refine ng ?_;clear ng
  have ru:Rep f.c.P G la.a (.int i) u:=q4 (fun z=>nomatch z)
  obtain ⟨t,rfl⟩:=rInt ru
  refine get_attr (Rel.kIn E0.c R.base) (R.base.gh _ _ rl.inst) rfl e1 (.head _) hy q1 q2 ?_
  refine he (s:={ s with toks:=s.toks+1 }) E0 R h2 fun t' tk=>?_
  refine PySem.AutoIntOps.iadd_0 ?_
  exact setFld_ok (s:={ s with toks:=tk+1 }) E0.c R hlx hz hy hb (by intro q; cases q) (.int _ _) fun h' tk' R' x'=>K G la.b _ .next .next h' tk' (fun ω=>x') R' trivial hQ
theorem sndS_appB {n:String} {np bp ap cp pos:Pos} (hk:isLoc sc n=true) (hd:(Str.ofString n == ("__debug__" : Str))=false) (ho:methOk (.Attribute (.Name (Str.ofString n) np) (Str.ofString "buffer") bp) ap cp) (he:SndI sc e x) (hst:∀ env rest,starEach (e :: rest) env=(false,eval e env) :: starEach rest env)
    (hi:∀ (env:Env),env.scope=sc→interactive env=false) (hs:∀ env,swapsWith (.Call (.Attribute (.Attribute (.Name (Str.ofString n) np) (Str.ofString "buffer") bp) (Str.ofString "append") ap) [e] [] cp) none pos.line env=pure false) :
    SndS Γ sc H (.Expr (.Call (.Attribute (.Attribute (.Name (Str.ofString n) np) (Str.ofString "buffer") bp) (Str.ofString "append") ap) [e] [] cp) pos) (.appB n x):=by
  intro f env A s G la st Q Xc QC EC E0 hΓ hq R hw K KE
  rw [s_appB] at hw
  refine bC fun ng=>?_;obtain ⟨l,b,i,hb,h2,hlx,h0,h1,hz,hQ⟩:=hw;refine ng ?_;clear ng
  refine bC fun ng=>?_;obtain ⟨l',q1,q2,q3,q4,rl,rb⟩:=buf_facts R hb;refine ng ?_;clear ng
  rw [hlx] at q2
  cases q2
  refine g_Expr ?_ (hi env E0.scope) (hs env)
  refine g_meth ho (by rw [hst]; rfl) (show 1 < 30 by decide) ?_
  refine buf_ok E0 R hk hd hb ?_
  have hT:(({ s with toks:=s.toks+1 }:Shared)).TypeIs (.ref la.b) "bytearray":=⟨_,rb.at_,rfl⟩
  refine getMethod_builtin hT plainAttrs_ba slot_ba_append type_ba_append (fun a q=>by cases q; exact ⟨_,rb.at_,rfl⟩) ?_
  dsimp only
  rw [hst]
  refine g_callWith rfl (keep_plain fun a q=>nomatch q) ?_
  refine g_evalArgs ?_
  have:=g_more (M:=f.c.M) (A:=A) (E:=EC) (s:={ s with toks:=s.toks+1 }) (env:=env) (e:=e) (rest:=[]) (pos:=cp) (Q:=fun vs s'=>True∧wpG f.c.M A (call (.builtin "bytearray.append") ([.ref la.b]++vs)) (fun ω=>QC .next) EC s') ?_ (hst _ _)
  · rw [hst] at this; exact this
  refine he (s:={ s with toks:=s.toks+1 }) E0 R h2 fun t tk=>?_
  refine g_none ⟨trivial,?_⟩
  exact ba_append_G (s:={ s with toks:=tk }) E0.guards rb.at_ hz h0 h1 fun h' tk' sb hb'=>K G la.b _ .next .next h' tk' (fun ω=>R.extBytes hlx q4 sb ⟨_,hb'⟩) (R.setBytes hlx q4 sb hb') trivial hQ
end
section
variable {f:FR} {G G':Froz} {la:LA} {st:St} {h h':Heap}
theorem Rel.ext {ρ':List (String × LV)} (R:Rel f G la st h) (e:∀ x,lkL x ρ'=lkL x st.ρ):Rel f G la { st with ρ:=ρ' } h:=by
  obtain ⟨m,hV,hL⟩:=R.loc
  exact ⟨R.base,⟨m,hV,⟨fun x l q=>hL.rel x l ((e x) ▸ q),fun x y vs ws v hxy q1 q2=>hL.apart x y vs ws v hxy ((e x) ▸ q1) ((e y) ▸ q2)⟩⟩,R.lex⟩
theorem setL_comm {a b:String} {x y:LV} {ρ:List (String × LV)} (h:a≠b) (z:String):lkL z (setL a x (setL b y ρ))=lkL z (setL b y (setL a x ρ)):=by
  rw [lkL_setL,lkL_setL,lkL_setL,lkL_setL]
  by_cases q:z=a
  · rw [if_pos q,if_neg (fun k=>h (q ▸ k)),if_pos q]
  · rw [if_neg q,if_neg q]
variable {sc:Scope} {env:Env} {A:Around} {H:Nat} {s:Shared} {EC:Value→Shared→Prop}
theorem Rel.store2 {QC:Unit→Shared→Prop} {x y:String} {V W:Mine.V} {v w:Value} {t t':Value→Sem Unit} (e:Env0 f sc env A H) (R:Rel f G la st s.heap) (hx:isLoc sc x=true) (hy:isLoc sc y=true) (hv:Rep f.c.P G la.a V v) (hw:Rep f.c.P G la.a W w)
    (ht:∀ (s:Shared) (Q:Unit→Shared→Prop),wpAny f.c.M A (storeName env (Str.ofString x) v) Q EC s→wpAny f.c.M A (t v) Q EC s) (ht':∀ (s:Shared) (Q:Unit→Shared→Prop),wpAny f.c.M A (storeName env (Str.ofString y) w) Q EC s→wpAny f.c.M A (t' w) Q EC s)
    (h:∀ h' tk',Rel f G la { st with ρ:=setL y (.v W) (setL x (.v V) st.ρ) } h'→Ext false f G G s.heap h'→QC () { s with heap:=h',toks:=tk' }):wpAny f.c.M A (assignInOrder [t,t'] [v,w]) QC EC s:=by
  refine assignInOrder_cons (ht _ _ ?_)
  refine R.storeV e hx hv fun h1 tk1 R1 x1=>?_
  refine assignInOrder_cons (ht' _ _ ?_)
  refine R1.storeV (s:={ s with heap:=h1,toks:=tk1 }) e hy hw fun h2 tk2 R2 x2=>?_
  exact assignInOrder_nil (h h2 tk2 R2 (x1.trans x2))
theorem Rel.storeNil {QC:Unit→Shared→Prop} {x:String} {z:Addr} {m:Str→Option Value} {n:Nat} (e:Env0 f sc env A H) (R:Rel f G la st s.heap) (hk:isLoc sc x=true) (hV:View f s.heap m) (hL:Loc f G la.a s.heap m st.ρ) (hz:s.heap.get? z=some (lisObj [] n)) (gz:G z=none) (nz:f.h₀.get? z=none) (fz:z ∉ f.fs)
    (ap:∀ y ws,lkL y st.ρ=some (.own ws)→m (Str.ofString y)≠some (.ref z))
    (h:∀ h' tk',Rel f G la { st with ρ:=setL x (.own []) st.ρ } h'→Ext false f G G s.heap h'→QC () { s with heap:=h',toks:=tk' }):wpAny f.c.M A (storeName env (Str.ofString x) (.ref z)) QC EC s:=by
  obtain ⟨m₀,hN⟩:=hV.ns
  refine store_ok e R.base hV hk fun h' tk' X S B V hX=>h h' tk' ⟨B,⟨_,V,?_⟩,R.lex.step S (.refl ..) (notLex_of R.base hX R.lex)⟩ (ext_store R.base hN S hX)
  exact (hL.set (l:=.own []) ⟨z,[],n,rfl,hz,.nil,gz,nz,fz⟩ fun vs q y ws hy hw=>ap y ws hw).step S (.refl ..) (notList_of hN hX)
end
section
variable {Γ:Specs} {sc:Scope} {H:Nat} {e e':Expr} {x x':X}
theorem extBut_keeps {h h':Heap} (k:Heap.ExtBut h.objs.size h h'):∀ b o,h.get? b=some o→h'.get? b=some o:=fun b o q=>k b o (Nat.ne_of_lt (Heap.lt_size q)) q
noncomputable abbrev swapOf (sc:Scope) (ts:List Expr) (value:Expr) (r:Option (List Str)):Prop:=∀ env:Env,env.scope=sc→swappedStores ts value env=pure r
theorem sndS_asgT2 {a b:String} {pa pb tp vp pos:Pos} {k k':Nat} (ha:isLoc sc a=true) (hb:isLoc sc b=true) (hab:a≠b) (hs:SndL Γ sc H [e,e'] [x,x']) (hf:∀ env,swapsWithSole [.Tuple [.Name (Str.ofString a) pa,.Name (Str.ofString b) pb] k tp] (.Tuple [e,e'] k' vp) pos.line env=pure false)
    (hw:swapOf sc [.Tuple [.Name (Str.ofString a) pa,.Name (Str.ofString b) pb] k tp] (.Tuple [e,e'] k' vp) (some [Str.ofString a,Str.ofString b])∨swapOf sc [.Tuple [.Name (Str.ofString a) pa,.Name (Str.ofString b) pb] k tp] (.Tuple [e,e'] k' vp) none) :
    SndS Γ sc H (.Assign [.Tuple [.Name (Str.ofString a) pa,.Name (Str.ofString b) pb] k tp] (.Tuple [e,e'] k' vp) pos) (.asgT [a,b] [.e x,.e x']):=by
  intro f env A s G la st Q Xc QC EC E0 hΓ hq R hQ K KE
  have hQ':wpXs Γ [x,x'] (fun vs st=>∃ V1 V2,vs=[V1,V2]∧Q .next { st with ρ:=setAll [a,b] [.v V1,.v V2] st.ρ }) Xc st:=by
    rw [s_asgT] at hQ
    simp only [i_e,i_nil] at hQ
    simp only [w_cons,w_nil]
    have e1:(fun (v:V) (st:St)=>wpX Γ x' (fun v' st=>∃ V1 V2,[v,v']=[V1,V2]∧Q .next { st with ρ:=setAll [a,b] [.v V1,.v V2] st.ρ }) Xc st)=fun v st=>wpX Γ x' (fun v' st=>Q .next { st with ρ:=setAll [a,b] [.v v,.v v'] st.ρ }) Xc st:=by
      funext v st
      have e2:(fun (v':V) (st:St)=>∃ V1 V2,[v,v']=[V1,V2]∧Q .next { st with ρ:=setAll [a,b] [.v V1,.v V2] st.ρ })=fun v' st=>Q .next { st with ρ:=setAll [a,b] [.v v,.v v'] st.ρ }:=by
        funext v' st
        refine propext ⟨?_,fun h=>⟨v,v',rfl,h⟩⟩
        rintro ⟨V1,V2,q,h⟩
        cases q
        exact h
      rw [e2]
    rw [e1]
    exact hQ
  have T:∀ {QC:Value→Shared→Prop},(∀ G1 b1 st1 u1 u2 V1 V2 h1 tk1 (z:Addr),Ext true f G G1 s.heap h1→Rel f G1 { la with b:=b1 } st1 h1→Rep f.c.P G1 la.a V1 u1→Rep f.c.P G1 la.a V2 u2→h1.get? z=some (tupObj [u1,u2])→Q .next { st1 with ρ:=setAll [a,b] [.v V1,.v V2] st1.ρ }→QC (.ref z) { s with heap:=h1,toks:=tk1 })→wpG f.c.M A (eval (.Tuple [e,e'] k' vp) env) QC EC s:=fun {QC} k=>by
    refine g_Tuple ?_
    refine sndL_spliced hs E0 hΓ (.inr hq) R hQ' (fun G1 b1 st1 vs Vs hp1 tk1 g1 R1 r1 hw1=>?_) KE
    obtain ⟨V1,V2,rfl,hw1⟩:=hw1
    replace r1:=rCons r1
    refine bC fun ng=>?_;obtain ⟨_,_,rfl,r1,rs⟩:=r1;refine ng ?_;clear ng
    replace rs:=rCons rs
    refine bC fun ng=>?_;obtain ⟨_,_,rfl,r2,rs⟩:=rs;refine ng ?_;clear ng
    cases rs with | nil=>
    refine wpG_of (wpAny_newTuple ?_ (by rw [sizeLine_eq]; show 2≤_; omega))
    exact k G1 b1 st1 _ _ V1 V2 _ tk1 _ (g1.trans (.push _ _)) (R1.push _) r1 r2 (Heap.get?_push_size _ rfl) hw1
  rcases hw with hw | hw
  · refine g_Assign_Swapped ?_ (hf env) (hw env E0.scope)
    refine T fun G1 b1 st1 u1 u2 V1 V2 h1 tk1 z g1 R1 r1 r2 hz hw1=>?_
    refine unpackItems_tuple (items:=#[u1,u2]) hq ⟨_,hz,rfl,_,rfl⟩ fun h2 k2=>?_
    have R2:Rel f G1 { la with b:=b1 } st1 h2:=R1.grow (.of_keeps (extBut_keeps k2)) (.refl ..)
    refine R2.store2 (s:={ s with heap:=h2,toks:=tk1 }) E0 hb ha r2 r1 (fun ω ω q=>wpAny_bindName q) (fun ω ω q=>wpAny_bindName q) fun h3 tk3 R3 x3=>?_
    exact K G1 b1 _ .next .next h3 tk3 (fun ω=>g1.weak.trans ((Ext.keeps (extBut_keeps k2)).trans x3)) (R3.ext fun z=>(setL_comm hab z).symm) trivial hw1
  · refine g_Assign_Tuple ?_ (hf env) (hw env E0.scope)
    refine T fun G1 b1 st1 u1 u2 V1 V2 h1 tk1 z g1 R1 r1 r2 hz hw1=>?_
    refine assign_Tuple_tuple (items:=#[u1,u2]) hq ⟨_,hz,rfl,_,rfl⟩ rfl rfl fun h2 k2=>?_
    have R2:Rel f G1 { la with b:=b1 } st1 h2:=R1.grow (.of_keeps (extBut_keeps k2)) (.refl ..)
    refine R2.store2 (s:={ s with heap:=h2,toks:=tk1 }) E0 ha hb r1 r2 (fun ω ω q=>wpAny_assign_Name q) (fun ω ω q=>wpAny_assign_Name q) fun h3 tk3 R3 x3=>?_
    exact K G1 b1 _ .next .next h3 tk3 (fun ω=>g1.weak.trans ((Ext.keeps (extBut_keeps k2)).trans x3)) R3 trivial hw1
theorem sndS_asgU2 {a b:String} {pa pb tp pos:Pos} {k:Nat} (ha:isLoc sc a=true) (hb:isLoc sc b=true) (he:Snd Γ sc H e x) (hf:∀ env,swapsWithSole [.Tuple [.Name (Str.ofString a) pa,.Name (Str.ofString b) pb] k tp] e pos.line env=pure false)
    (hw:swapOf sc [.Tuple [.Name (Str.ofString a) pa,.Name (Str.ofString b) pb] k tp] e none) :
    SndS Γ sc H (.Assign [.Tuple [.Name (Str.ofString a) pa,.Name (Str.ofString b) pb] k tp] e pos) (.asgU [a,b] x):=by
  intro f env A s G la st Q Xc QC EC E0 hΓ hq R hQ K KE
  rw [s_asgU] at hQ
  refine g_Assign_Tuple ?_ (hf env) (hw env E0.scope)
  refine he E0 hΓ (.inr hq) R hQ (fun G1 b1 st1 v1 V1 hp1 tk1 g1 R1 r1 hw1=>?_) KE
  obtain ⟨Vs,rfl,hl,hw1⟩:=hw1
  replace r1:=rTup r1
  refine bC fun ng=>?_;obtain ⟨_,_,rfl,gx,rs⟩:=r1;refine ng ?_;clear ng
  cases rs with | nil=>cases hl | cons r1 rs=>
  cases rs with | nil=>cases hl | cons r2 rs=>
  cases rs with
  | cons _ _=>cases hl
  | nil=>
  refine assign_Tuple_tuple (items:=#[_,_]) hq ⟨_,R1.base.gh _ _ gx,rfl,_,rfl⟩ rfl rfl fun h2 k2=>?_
  have R2:Rel f G1 { la with b:=b1 } st1 h2:=R1.grow (.of_keeps (extBut_keeps k2)) (.refl ..)
  refine R2.store2 (s:={ s with heap:=h2,toks:=tk1 }) E0 ha hb r1 r2 (fun ω ω q=>wpAny_assign_Name q) (fun ω ω q=>wpAny_assign_Name q) fun h3 tk3 R3 x3=>?_
  exact K G1 b1 _ .next .next h3 tk3 (fun ω=>g1.weak.trans ((Ext.keeps (extBut_keeps k2)).trans x3)) R3 trivial hw1
end
section
variable {Γ:Specs} {sc:Scope} {H:Nat} {e e':Expr} {x x':X}
theorem nil_apart {f:FR} {G:Froz} {a:Addr} {h:Heap} {m:Str→Option Value} {ρ:List (String × LV)} {z:Addr} (hL:Loc f G a h m ρ) (hz:h.get? z=none):∀ y ws,lkL y ρ=some (.own ws)→m (Str.ofString y)≠some (.ref z):=fun y ws hy q=>by
  obtain ⟨v,hv,z',ws',n,rfl,h1,_⟩:=hL.rel y _ hy
  rw [hv] at q
  cases q
  rw [hz] at h1
  cases h1
theorem sndS_asgT2n {a b:String} {pa pb tp vp lp pos:Pos} {k k':Nat} (ha:isLoc sc a=true) (hb:isLoc sc b=true) (hab:a≠b) (he:Snd Γ sc H e x) (hst:∀ env rest,starEach (e :: rest) env=(false,eval e env) :: starEach rest env) (hf:∀ env,swapsWithSole [.Tuple [.Name (Str.ofString a) pa,.Name (Str.ofString b) pb] k tp] (.Tuple [e,.List [] lp] k' vp) pos.line env=pure false)
    (hw:swapOf sc [.Tuple [.Name (Str.ofString a) pa,.Name (Str.ofString b) pb] k tp] (.Tuple [e,.List [] lp] k' vp) (some [Str.ofString a,Str.ofString b])) :
    SndS Γ sc H (.Assign [.Tuple [.Name (Str.ofString a) pa,.Name (Str.ofString b) pb] k tp] (.Tuple [e,.List [] lp] k' vp) pos) (.asgT [a,b] [.e x,.nil]):=by
  intro f env A s G la st Q Xc QC EC E0 hΓ hq R hQ K KE
  rw [s_asgT] at hQ
  simp only [i_e,i_n,i_nil] at hQ
  refine g_Assign_Swapped ?_ (hf env) (hw env E0.scope)
  refine g_Tuple ?_
  refine g_more ?_ (hst env _)
  refine he E0 hΓ (.inr hq) R hQ (fun G1 b1 st1 v1 V1 hp1 tk1 g1 R1 r1 hw1=>?_) KE
  refine g_more ?_ rfl
  refine g_List ?_
  refine g_none (wpG_of (wpAny_newList ?_ (by rw [sizeLine_eq]; show 0≤_; omega)))
  refine g_none (wpG_of (wpAny_newTuple ?_ (by rw [sizeLine_eq]; show 2≤_; omega)))
  have keep1:∀ b o,hp1.get? b=some o→(hp1.push (lisObj [] 0)).get? b=some o:=fun b o q=>Heap.get?_push_of_some _ q
  have hz1:(hp1.push (lisObj [] 0)).get? hp1.objs.size=some (lisObj [] 0):=Heap.get?_push_size _ rfl
  generalize hp1.push (lisObj [] 0)=hp2 at keep1 hz1
  have hz:=size_new hp1
  generalize hp1.objs.size=z at hz hz1
  have keep2:∀ b o,hp2.get? b=some o→(hp2.push (tupObj [v1,.ref z])).get? b=some o:=fun b o q=>Heap.get?_push_of_some _ q
  have ht:(hp2.push (tupObj [v1,.ref z])).get? hp2.objs.size=some (tupObj [v1,.ref z]):=Heap.get?_push_size _ rfl
  generalize hp2.push (tupObj [v1,.ref z])=hp3 at keep2 ht
  refine unpackItems_tuple (items:=#[v1,.ref z]) hq ⟨_,ht,rfl,_,rfl⟩ fun h4 k4=>?_
  have keep:∀ b o,hp1.get? b=some o→h4.get? b=some o:=fun b o q=>extBut_keeps k4 _ _ (keep2 _ _ (keep1 _ _ q))
  have hz4:h4.get? z=some (lisObj [] 0):=extBut_keeps k4 _ _ (keep2 _ _ hz1)
  obtain ⟨m,hV,hL⟩:=R1.loc
  have S:Same f [] hp1 h4:=.of_keeps keep
  have R2:Rel f G1 { la with b:=b1 } st1 h4:=R1.grow S (.refl ..)
  have V2:View f h4 m:=hV.step R1.base S (fun q=>nomatch q) (fun ω q=>nomatch q)
  have L2:Loc f G1 la.a h4 m st1.ρ:=hL.step S (.refl ..) fun ω q=>nomatch q
  refine assignInOrder_cons (wpAny_bindName ?_)
  refine R2.storeNil (s:={ s with heap:=h4,toks:=tk1 }) E0 hb V2 L2 hz4 (R1.base.fresh hz) (R1.base.freshS hz) (R1.base.freshF hz) (nil_apart hL hz) fun h5 tk5 R5 x5=>?_
  refine assignInOrder_cons (wpAny_bindName ?_)
  refine R5.storeV (s:={ s with heap:=h5,toks:=tk5 }) E0 ha r1 fun h6 tk6 R6 x6=>?_
  refine assignInOrder_nil ?_
  exact K G1 b1 _ .next .next h6 tk6 (fun ω=>g1.weak.trans ((Ext.keeps keep).trans (x5.trans x6))) (R6.ext fun z=>(setL_comm hab z).symm) trivial hw1
end
section
variable {f:FR} {G G':Froz} {la:LA} {st:St} {h h':Heap}
theorem View.agree {m m':Str→Option Value} (V:View f h m) (V':View f h m'):m=m':=by
  unfold View at V V'
  cases hc:f.ck with
  | none=>
    rw [hc] at V V'
    exact funext fun y=>Heap.Ns.agree V V' y
  | some p=>
    rw [hc] at V V'
    obtain ⟨a,o,h1,⟨ob,e1,e2⟩,h3⟩:=V
    obtain ⟨a',o',h1',⟨ob',e1',e2'⟩,h3'⟩:=V'
    rw [e1] at e1'
    cases e1'
    rw [e2] at e2'
    cases e2'
    rw [h3,h3']
    funext y
    rw [h1.agree h1' y]
theorem Rel.own {x:String} {vs:List V} (R:Rel f G la st h) (hx:lkL x st.ρ=some (.own vs)):∃ m z ws n,View f h m∧m (Str.ofString x)=some (.ref z)∧h.get? z=some (lisObj ws n)∧z ∉ f.fs∧Reps f.c.P G la.a vs ws∧
    ∀ h' vs' ws' n',Heap.SameBut z h h'→h'.get? z=some (lisObj ws' n')→Reps f.c.P G la.a vs' ws'→Rel f G la { st with ρ:=setL x (.own vs') st.ρ } h'∧Ext false f G G h h':=by
  obtain ⟨m,hV,hL⟩:=R.loc
  refine bC fun ng=>?_;obtain ⟨v,hv,z,ws,n,rfl,hz,rv,gz,nz,fz⟩:=hL.rel x _ hx;refine ng ?_;clear ng
  refine ⟨m,z,ws,n,hV,hv,hz,fz,rv,fun h' vs' ws' n' hs hz' rv'=>?_⟩
  have S:Same f [z] h h':=.but hs ⟨_,hz'⟩
  have B:=R.base
  have nL:f.L ∉ [z]:=fun q=>fz (List.mem_singleton.mp q ▸ B.lf)
  have nd:∀ {y:Addr} {o:Obj},h.get? y=some o→(∀ ws n,o.data ≠ .seq ws n)→y ∉ [z]:=fun ho hd q=>by
    rw [List.mem_singleton.mp q,hz] at ho
    cases ho
    exact hd _ _ rfl
  refine ⟨⟨B.step S (.refl ..) (fun y hy=>?_) (fun q=>absurd q nL),⟨m,hV.step B S nL fun y hy v ⟨o,ho,hd⟩=>?_,⟨fun y l e=>?_,fun y y' us us' u hy e1 e2 e3=>?_⟩⟩,?_⟩,.same B S (.refl ..) fun y hy=>?_⟩
  · rw [List.mem_singleton.mp hy]
    exact ⟨gz,.inr nz,fun q=>absurd q fz⟩
  · exact nd ho (fun ws n q=>by rw [hd] at q; cases q) hy
  · rw [lkL_setL] at e
    by_cases hy:y=x
    · rw [if_pos hy] at e
      cases e
      subst hy
      exact ⟨_,hv,z,ws',n',rfl,hz',rv',gz,nz,fz⟩
    · rw [if_neg hy] at e
      obtain ⟨u,hu,hr⟩:=hL.rel y l e
      refine ⟨u,hu,?_⟩
      cases l with
      | v V=>exact hr
      | own us=>
        refine bC fun ng=>?_;obtain ⟨z',ws'',n'',rfl,k1,k2,k3,k4,k5⟩:=hr;refine ng ?_;clear ng
        exact ⟨z',ws'',n'',rfl,(hs.2 _ fun q:z'=z=>hL.apart y x us vs _ hy e hx hu (q ▸ hv)).trans k1,k2,k3,k4,k5⟩
  · rw [lkL_setL] at e1 e2
    have o1:∃ us,lkL y st.ρ=some (.own us):=by
      by_cases q:y=x
      · exact ⟨vs,q ▸ hx⟩
      · rw [if_neg q] at e1; exact ⟨_,e1⟩
    have o2:∃ us,lkL y' st.ρ=some (.own us):=by
      by_cases q:y'=x
      · exact ⟨vs,q ▸ hx⟩
      · rw [if_neg q] at e2; exact ⟨_,e2⟩
    obtain ⟨a1,o1⟩:=o1
    obtain ⟨a2,o2⟩:=o2
    exact hL.apart y y' a1 a2 u hy o1 o2 e3
  · refine R.lex.step S (.refl ..) fun l hl=>?_
    have rl:=R.lex
    rw [hl] at rl
    have rl:LexRel f G h la l:=rl
    obtain ⟨es,k,e1,_⟩:=rl.dict
    refine ⟨nd e1 (fun ω ω q=>nomatch q),fun hb=>?_⟩
    cases hq:l.buf with
    | none=>exact absurd hq hb
    | some b=>exact nd (rl.buf b hq).at_ (fun ω ω q=>nomatch q)
  · rw [List.mem_singleton.mp hy]
    exact ⟨_,hz,(fun ω q=>nomatch q),(fun q=>nomatch q)⟩
end
theorem reps_append {P:Params} {G:Froz} {a:Addr} {v:V} {w:Value} (r:Rep P G a v w):∀ {vs:List V} {ws:List Value},Reps P G a vs ws→Reps P G a (vs++[v]) (ws++[w])
  | [],_,h=>by cases h; exact .cons r .nil
  | _ :: _,_,h=>by cases h with | cons a b=>exact .cons a (reps_append r b)
theorem reps_reverse {P:Params} {G:Froz} {a:Addr}:∀ {vs:List V} {ws:List Value},Reps P G a vs ws→Reps P G a vs.reverse ws.reverse
  | [],_,h=>by cases h; exact .nil
  | _ :: _,_,h=>by
    cases h with | cons a b=>
    rw [List.reverse_cons,List.reverse_cons]
    exact reps_append a (reps_reverse b)
section
variable {Γ:Specs} {sc:Scope} {H:Nat} {e:Expr} {x:X}
theorem sndS_app {n:String} {np ap cp pos:Pos} (hk:isLoc sc n=true) (hd:(Str.ofString n == ("__debug__" : Str))=false) (ho:methOk (.Name (Str.ofString n) np) ap cp) (he:Snd Γ sc H e x) (hst:∀ env rest,starEach (e :: rest) env=(false,eval e env) :: starEach rest env)
    (hi:∀ (env:Env),env.scope=sc→interactive env=false) (hs:∀ env,swapsWith (.Call (.Attribute (.Name (Str.ofString n) np) (Str.ofString "append") ap) [e] [] cp) none pos.line env=pure false) :
    SndS Γ sc H (.Expr (.Call (.Attribute (.Name (Str.ofString n) np) (Str.ofString "append") ap) [e] [] cp) pos) (.app n x):=by
  intro f env A s G la st Q Xc QC EC E0 hΓ hq R hw K KE
  rw [s_app] at hw
  obtain ⟨vs,hx,hw⟩:=hw
  refine bC fun ng=>?_;obtain ⟨m,z,ws,k,hV,hm,hz,fz,rv,upd⟩:=R.own hx;refine ng ?_;clear ng
  refine g_Expr ?_ (hi env E0.scope) (hs env)
  refine g_meth ho (by rw [hst]; rfl) (show 1 < 30 by decide) ?_
  refine wpG_of (wpAny_Name (load_ok E0 hV hk hm ?_) hd)
  refine getMethod_list_append hz rfl rfl ?_
  dsimp only
  rw [hst]
  refine g_callWith rfl (keep_plain fun a q=>nomatch q) ?_
  refine g_evalArgs ?_
  have:=g_more (M:=f.c.M) (A:=A) (E:=EC) (s:=s) (env:=env) (e:=e) (rest:=[]) (pos:=cp) (Q:=fun vs s'=>True∧wpG f.c.M A (call (.builtin "list.append") ([.ref z]++vs)) (fun ω=>QC .next) EC s') ?_ (hst _ _)
  · rw [hst] at this; exact this
  refine he E0 hΓ (.inr hq) R hw (fun G1 b1 st1 v1 V1 hp1 tk1 g1 R1 r1 hw1=>?_) KE
  refine g_none ⟨trivial,?_⟩
  obtain ⟨vs1,hx1,hz1,hQ⟩:=hw1
  refine bC fun ng=>?_;obtain ⟨m1,z1,ws1,k1,hV1,hm1,hg1,fz1,rv1,upd1⟩:=R1.own hx1;refine ng ?_;clear ng
  have em:m=m1:=(g1.view rfl m hV).agree hV1
  have ez:z=z1:=by rw [em,hm1] at hm; injection hm with hm; injection hm with hm; exact hm.symm
  subst ez
  have hl:=reps_len rv1
  refine wpG_of (call_meets slot_list_append ⟨_,hg1,rfl⟩ entry_list_append (args_list_append _ _) (AutoListH.list_append_list_val_0 z ws1.toArray k1 v1 (by rw [List.size_toArray,← hl,sizeLine_eq]; omega)) ⟨hg1,?_⟩)
  obtain ⟨R2,x2⟩:=upd1 _ (vs1++[V1]) (ws1++[v1]) _ (Heap.SameBut.update ..) ((Heap.get?_update_self (Obj.mapSeq fun a=>a.push v1) hg1 rfl).trans (by unfold Obj.mapSeq; simp; rfl)) (reps_append r1 rv1)
  exact K G1 b1 _ .next .next _ tk1 (fun ω=>g1.weak.trans x2) R2 trivial hQ
theorem sndS_rev {n:String} {np ap cp pos:Pos} (hk:isLoc sc n=true) (hd:(Str.ofString n == ("__debug__" : Str))=false) (ho:methOk (.Name (Str.ofString n) np) ap cp)
    (hi:∀ (env:Env),env.scope=sc→interactive env=false) (hs:∀ env,swapsWith (.Call (.Attribute (.Name (Str.ofString n) np) (Str.ofString "reverse") ap) [] [] cp) none pos.line env=pure false) :
    SndS Γ sc H (.Expr (.Call (.Attribute (.Name (Str.ofString n) np) (Str.ofString "reverse") ap) [] [] cp) pos) (.rev n):=by
  intro f env A s G la st Q Xc QC EC E0 hΓ hq R hw K KE
  rw [s_rev] at hw
  obtain ⟨vs,hx,hz0,hQ⟩:=hw
  refine bC fun ng=>?_;obtain ⟨m,z,ws,k,hV,hm,hz,fz,rv,upd⟩:=R.own hx;refine ng ?_;clear ng
  refine g_Expr ?_ (hi env E0.scope) (hs env)
  refine g_meth ho rfl (show 0 < 30 by decide) ?_
  refine wpG_of (wpAny_Name (load_ok E0 hV hk hm ?_) hd)
  have hT:s.TypeIs (.ref z) "list":=⟨_,hz,rfl⟩
  refine getMethod_builtin hT F.plainAttrs_list F.slot_list_reverse F.type_list_reverse (fun a q=>by cases q; exact ⟨_,hz,rfl⟩) ?_
  dsimp only
  refine g_callWith rfl (keep_plain fun a q=>nomatch q) (wpG_of (evalArgs_nil3 ⟨trivial,?_⟩))
  have hl:=reps_len rv
  refine wpG_of (call_meets F.slot_list_reverse hT F.entry_list_reverse (F.args_list_reverse_1 _) (AutoListH.list_reverse_list_0 z ws.toArray k (by rw [List.size_toArray,← hl,sizeLine_eq]; omega)) ⟨hz,?_⟩)
  obtain ⟨R2,x2⟩:=upd _ vs.reverse ws.reverse _ (Heap.SameBut.update ..) ((Heap.get?_update_self (Obj.mapSeq fun a=>a.reverse) hz rfl).trans (by unfold Obj.mapSeq; simp; rfl)) (reps_reverse rv)
  exact K G la.b _ .next .next _ s.toks (fun ω=>x2) R2 trivial hQ
end
section
variable {prog:Program} {w:World} {M:Model} {A:Around} {E:Value→Shared→Prop} {s:Shared} {env:Env}
theorem codeG_loop' {c:Code} {R:Result→Shared→Prop} (hcalm:calm c=true) (hq:c.quiet=true) (I:Nat→Shared→Prop)
    (turn:∀ n s,I n s→wpG M (A.under c) (M.den c) (fun fin s'=>match fin with | .done f=>R (.ok f) s' | .again c'=>(c'=c∧∃ m,m < n∧I m s')∨(calm c'=true∧c'.quiet=true∧codeG M A c' R s')) (fun e s'=>R (.error e) s') s)
    (n:Nat) (h:I n s):codeG M A c R s:=by
  induction n using Nat.strongRecOn generalizing s with
  | ind n ih=>
    refine codeG_tree (wpG_mono (turn n s h) (fun fin s' hf=>?_) fun ω ω h'=>h')
    cases fin with
    | done f=>exact hf
    | again c'=>
      rcases hf with ⟨rfl,m,hm,hI⟩ | hf
      · exact ⟨hcalm,hq,ih m hm hI⟩
      · exact hf
theorem g_forLoop {R:Result→Shared→Prop} {x:Str} {px:Pos} {it:Value} {body:List Stmt} (I:Nat→Shared→Prop)
    (turn:∀ n s,I n s→wpAny (model prog w) A (pyNext it) (fun r s₁=>match r with
      | none=>R (.ok .next) s₁
      | some v=>wpAny (model prog w) A (storeName env x v) (fun ω s₂=>wpG (model prog w) A (execs body env) (fun f s₃=>match f with
          | .next | .cont=>∃ m,m < n∧I m s₃
          | .brk=>R (.ok .next) s₃
          | .ret v=>R (.ok (.ret v)) s₃) (notedBy (model prog w) A env fun e s'=>R (.error e) s') s₂) (notedBy (model prog w) A env fun e s'=>R (.error e) s') s₁) (notedBy (model prog w) A env fun e s'=>R (.error e) s') s)
    (n:Nat) (h:I n s):codeG (model prog w) A (.forLoop (.Name x px) it body [] env) R s:=by
  refine codeG_loop' rfl rfl I (fun n s hI=>?_) n h
  show wpG _ A ((forTurn (.Name x px) it body [] env).onRaise (fun x=>do noteFrame x env; theTreesLotGoes x)) _ _ s
  refine g_noted ?_
  simp only [forTurn]
  refine leaf (wpAny_standAt ?_)
  refine leaf (wpAny_onRaise (wpAny_mono (turn n s hI) (fun r s₁ h₁=>?_) fun ω ω h'=>wpAny_standAt h'))
  cases r with
  | none=>
    refine wpG_pure (.inr ⟨rfl,rfl,codeG_tree ?_⟩)
    show wpG _ _ (do return Fin.done (← (execs [] env).onRaise (fun x=>do noteFrame x env; theTreesLotGoes x))) _ _ s₁
    exact wpG_bind (g_noted (wpG_of (wpAny_execs_nil (wpG_pure h₁))))
  | some v=>
    refine leaf (wpAny_pure ?_)
    refine leaf (wpAny_assign_Name (wpAny_mono h₁ (fun ω s₂ h₂=>?_) fun ω ω h'=>h'))
    refine wpG_then h₂ fun f s₃ h₃=>?_
    cases f with
    | next=>exact wpG_pure (.inl ⟨rfl,h₃⟩)
    | cont=>exact wpG_pure (.inl ⟨rfl,h₃⟩)
    | brk=>exact wpG_pure h₃
    | ret v=>exact wpG_pure h₃
theorem g_For {target iter body orelse pos} {Q:Flow→Shared→Prop}
    (h:wpG M A (eval iter env) (fun x s₁=>wpAny M A (pyIter x) (fun it s₂=>
      codeG M A (.forLoop target it body orelse env) (fun r s'=>match r with | .ok f=>Q f s' | .error e=>cameBackBy M A env E e s') s₂) E s₁) E s)
    (hs:∀ x,foldedSetIterable iter env x=pure x:=by intro _; rfl):wpG M A (exec (.For target iter body orelse pos) env) Q E s:=by
  rw [exec_For]
  refine leaf (wpAny_standAt ?_)
  refine wpG_then h fun x s₁ h₁=>?_
  rw [hs x]
  refine leaf (wpAny_pure ?_)
  refine leaf (wpAny_standAt ?_)
  exact wpG_bind (wpG_holding (wpG_of (wpAny_mono h₁ (fun it s₂ h₂=>g_runOwn rfl h₂) fun ω ω x=>x)))
end
section
variable {f:FR} {G:Froz} {la:LA} {st:St} {h h':Heap}
theorem Ext.touch {G':Froz} {h'':Heap} {it:Addr} (x:Ext false f G G' h h') (nl:h.get? it=none) (hs:Heap.SameBut it h' h'') (hl:Liv h'' it):Ext false f G G' h h'':=
  ⟨x.mono,x.new,fun b l=>by
    by_cases q:b=it
    · exact q ▸ hl
    · obtain ⟨o,e⟩:=x.lv b l; exact ⟨o,(hs.2 b q).trans e⟩,(fun q=>nomatch q),fun z o e k n=>(hs.2 z fun q=>by rw [q,nl] at e; cases e).trans (x.keep z o e k n)⟩
theorem Rel.touch {it:Addr} {o:Obj} {vs:Array Value} (R:Rel f G la st h) (ho:h.get? it=some o) (hd:o.data = .fields vs) (gi:G it=none) (hi:f.h₀.get? it=none) (hs:Heap.SameBut it h h') (hl:Liv h' it):Rel f G la st h':=by
  have F:XF f G h [it]:=fun x hx=>by
    rw [List.mem_singleton.mp hx]
    exact ⟨gi,hi,not_fs R.base ho hd,o,vs,ho,hd⟩
  have S:Same f [it] h h':=.but hs hl
  obtain ⟨m,hV,hL⟩:=R.loc
  have nd:∀ {y:Addr} {o':Obj},h.get? y=some o'→(∀ vs,o'.data ≠ .fields vs)→y ∉ [it]:=fun ho' hd' q=>by
    rw [List.mem_singleton.mp q,ho] at ho'
    cases ho'
    exact hd' _ hd
  refine ⟨R.base.flds S F,⟨m,hV.step R.base S (fun q=>(F _ q).2.2.1 R.base.lf) (fun x hx v ⟨o',ho',hd'⟩=>nd ho' (fun vs q=>by rw [hd'] at q; cases q) hx),hL.step S (.refl ..) fun x hx ws n q=>nd q (fun ω z=>nomatch z) hx⟩,R.lex.step S (.refl ..) fun l hlx=>?_⟩
  have rl:=R.lex
  rw [hlx] at rl
  have rl:LexRel f G h la l:=rl
  obtain ⟨es,k,e1,_⟩:=rl.dict
  refine ⟨nd e1 (fun ω q=>nomatch q),fun hb=>?_⟩
  cases hq:l.buf with
  | none=>exact absurd hq hb
  | some b=>exact nd (rl.buf b hq).at_ (fun ω q=>nomatch q)
theorem Base.ext1 {it:Addr} (R:Base f G h) (he:∀ b o,b≠it→h.get? b=some o→h'.get? b=some o) (gi:G it=none) (hi:f.h₀.get? it=none) (hf:it ∉ f.fs) (hc:∀ p,f.ck=some p→p.2≠it):Base f G h':=by
  have n0:∀ {b:Addr},Liv f.h₀ b→b≠it:=fun ⟨o,e⟩ q=>by rw [q,hi] at e; cases e
  have nf:∀ {b:Addr},b∈f.fs→b≠it:=fun hb q=>hf (q ▸ hb)
  have lv:∀ b,b≠it→Liv h b→Liv h' b:=fun b q ⟨o,e⟩=>⟨o,he b o q e⟩
  refine ⟨R.bg,fun b o e=>he b o (fun q=>by rw [q,gi] at e; cases e) (R.gh b o e),R.gg,R.gn,fun b o e h1 h2=>he b o (n0 ⟨o,e⟩) (R.chg b o e h1 h2),fun b o e h1=>?_,R.sz,fun b l=>lv b (n0 l) (R.lv b l),R.lf,fun L hL=>⟨(R.fr L hL).1,lv L (nf hL) (R.fr L hL).2⟩,?_,fun p hp=>?_⟩
  · obtain ⟨o',e',k⟩:=R.chf b o e h1
    exact ⟨o',he b o' (nf h1) e',k⟩
  · exact funFrames_of R.fn fun env hen L o hL ho hd=>⟨o,he L o (nf (List.mem_filterMap.mpr ⟨env,hen,hL⟩)) ho,hd⟩
  · obtain ⟨h1,h2,h3,h4⟩:=R.ck p hp
    exact ⟨h1,h2,h3,lv _ (hc p hp) h4⟩
theorem Rel.ext1 {it:Addr} {o:Obj} {vs:Array Value} (R:Rel f G la st h) (ho:h.get? it=some o) (hd:o.data = .fields vs) (gi:G it=none) (hi:f.h₀.get? it=none) (he:∀ b o,b≠it→h.get? b=some o→h'.get? b=some o):Rel f G la st h':=by
  have nd:∀ {y:Addr} {o':Obj},h.get? y=some o'→(∀ vs,o'.data ≠ .fields vs)→y≠it:=fun ho' hd' q=>by
    rw [q,ho] at ho'
    cases ho'
    exact hd' _ hd
  have hf:=not_fs R.base ho hd
  obtain ⟨m,hV,hL⟩:=R.loc
  have cellN:∀ x v,h.IsCell x v→x≠it:=fun x v ⟨o',ho',hd'⟩=>nd ho' fun vs q=>by rw [hd'] at q; cases q
  refine ⟨R.base.ext1 he gi hi hf fun p hp=>?_,⟨m,?_,fun x l e=>?_,hL.apart⟩,?_⟩
  · unfold View at hV
    rw [hp] at hV
    refine bC fun ng=>?_;obtain ⟨m₀,v,h1,h2,h3⟩:=hV;refine ng ?_;clear ng
    exact cellN _ _ h2
  · have hLn:f.L≠it:=fun q=>hf (q ▸ R.base.lf)
    have key:∀ m,h.Ns f.L m→h'.Ns f.L m:=fun m x=>x.at fun o e=>he _ o hLn e
    unfold View at hV ⊢
    split at hV
    · exact key _ hV
    · refine bC fun ng=>?_;obtain ⟨m₀,v,h1,h2,h3⟩:=hV;refine ng ?_;clear ng
      obtain ⟨o',ho',hd'⟩:=id h2
      exact ⟨m₀,v,key _ h1,⟨o',he _ o' (cellN _ _ h2) ho',hd'⟩,h3⟩
  · obtain ⟨v,hv,hr⟩:=hL.rel x l e
    refine ⟨v,hv,?_⟩
    cases l with
    | v V=>exact hr
    | own us=>
      refine bC fun ng=>?_;obtain ⟨z',ws',n',rfl,k1,k⟩:=hr;refine ng ?_;clear ng
      exact ⟨z',ws',n',rfl,he _ _ (nd k1 fun ω q=>nomatch q) k1,k⟩
  · have rl:=R.lex
    cases hlx:st.lx with
    | none=>trivial
    | some l=>
      rw [hlx] at rl
      have rl:LexRel f G h la l:=rl
      obtain ⟨es,k,e1,e2⟩:=rl.dict
      exact (show LexRel f G h' la l from ⟨rl.inst,⟨es,k,he _ _ (nd e1 fun ω q=>nomatch q) e1,e2⟩,rl.gd,rl.nf,rl.pr,rl.one,fun b hb=>have rb:=rl.buf b hb; ⟨he _ _ (nd rb.at_ fun ω q=>nomatch q) rb.at_,rb.gb,rb.nf,rb.pr⟩,rl.has,rl.nm⟩)
theorem Ext.ext1 {G':Froz} {h'':Heap} {it:Addr} (x:Ext false f G G' h h') (nl:h.get? it=none) (he:∀ b o,b≠it→h'.get? b=some o→h''.get? b=some o):Ext false f G G' h h'':=
  have n0:∀ {b:Addr},Liv h b→b≠it:=fun ⟨o,e⟩ q=>by rw [q,nl] at e; cases e
  ⟨x.mono,x.new,fun b l=>let ⟨o,e⟩:=x.lv b l; ⟨o,he b o (n0 l) e⟩,(fun q=>nomatch q),fun z o e k n=>he z o (n0 ⟨o,e⟩) (x.keep z o e k n)⟩
end
section
variable {Γ:Specs} {sc:Scope} {H:Nat} {e:Expr} {x:X}
theorem wpX_one {Q:V→St→Prop} {Xc:Exc} {st:St} (h:wpX Γ x Q Xc st):wpXs Γ [x] (fun vs st=>∃ v,vs=[v]∧Q v st) Xc st:=by
  rw [w_cons]
  simp only [w_nil]
  have e1:(fun (v:V) (st:St)=>∃ v_1,[v]=[v_1]∧Q v_1 st)=Q:=by
    funext v st
    exact propext ⟨fun ⟨_,h1,h2⟩=>by cases h1; exact h2,fun h=>⟨v,rfl,h⟩⟩
  rw [e1]
  exact h
theorem sndS_forR {n:String} {np rp cp pos:Pos} {body:List Stmt} {xb:List S} (hk:isLoc sc n=true) (hkr:sc.names.lookup (Str.ofString "range")=some .globalImplicit) (hs:SndL Γ sc H [e] [x]) (hb:SndSs Γ sc H body xb) :
    SndS Γ sc H (.For (.Name (Str.ofString n) np) (.Call (.Name (Str.ofString "range") rp) [e] [] cp) body [] pos) (.forR n x xb):=by
  intro f env A s G la st Q Xc QC EC E0 hΓ hq R hw K KE
  rw [s_forR] at hw
  obtain ⟨hm,hbm⟩:=bi_at E0.c (len_bi _).2.2.2 boot_bi.2.2.2 (not_name (by decide))
  refine g_For ?_
  refine g_Call ?_
  refine wpG_of (load_bi E0 R.base hkr (by rfl) hm hbm ?_)
  refine args_P hs E0 hΓ hq R (wpX_one hw) (fun a q=>nomatch q) (fun G1 b1 st1 v1 V1 hp1 tk1 g1 R1 r1 hw1=>?_) KE
  refine Classical.byContradiction fun ng=>?_
  obtain ⟨_,rfl,k,I,rfl,hkz,hI0,turn,fin⟩:=hw1
  obtain ⟨_,_,rfl,r,rs⟩:=rCons r1
  cases rs
  obtain ⟨t,rfl⟩:=rInt r
  refine ng ?_
  clear ng
  refine wpG_of (call_range_1 ?_)
  have R2:=R1.push { cls:=.type "range",data:=.fields #[.int 0 tk1,.int k t,.int 1 (tk1+1)] }
  have x2:Ext true f G1 G1 hp1 _:=.push hp1 { cls:=.type "range",data:=.fields #[.int 0 tk1,.int k t,.int 1 (tk1+1)] }
  have hr:IsRange (hp1.push { cls:=.type "range",data:=.fields #[.int 0 tk1,.int k t,.int 1 (tk1+1)] }) hp1.objs.size 0 k 1 tk1 t (tk1+1):=IsRange.new ..
  generalize hp1.push { cls:=.type "range",data:=.fields #[.int 0 tk1,.int k t,.int 1 (tk1+1)] }=hp2 at R2 x2 hr
  refine wpAny_pyIter_range (s:={ s with heap:=hp2,toks:=tk1+1+1 }) hr (small_one (by omega) (by omega) (by omega) (by omega)) ?_
  have hsz:Builtin.Range.rangeSize 0 (k:Int) 1=(k:Int):=by rw [rangeSize_one]; split <;> omega
  rw [hsz]
  have R3:=R2.push { cls:=.type "range_iterator",data:=.fields #[rawInt 0,rawInt k,rawInt 1] }
  have x3:Ext true f G1 G1 hp2 _:=.push hp2 { cls:=.type "range_iterator",data:=.fields #[rawInt 0,rawInt k,rawInt 1] }
  have hit:IsRangeIter (hp2.push { cls:=.type "range_iterator",data:=.fields #[rawInt 0,rawInt k,rawInt 1] }) hp2.objs.size 0 k 1:=Heap.get?_push_size _ rfl
  have gi:=R2.base.fresh (size_new hp2)
  have nl2:=size_new hp2
  have hi:=R2.base.freshS (size_new hp2)
  generalize hp2.push { cls:=.type "range_iterator",data:=.fields #[rawInt 0,rawInt k,rawInt 1] }=hp3 at R3 x3 hit
  generalize hp2.objs.size=it at hit gi hi nl2
  have g3:=(g1.trans (x2.trans x3)).weak
  have nl:s.heap.get? it=none:=not_liv.mp fun q=>not_liv.mpr nl2 ((g1.trans x2).lv _ q)
  refine g_forLoop (fun n s'=>∃ (i:Nat) (G':Froz) (b':Addr) (st':St) (h':Heap) (tk':Nat),s' = { s with heap:=h',toks:=tk' }∧Ext false f G G' s.heap h'∧Rel f G' { la with b:=b' } st' h'∧IsRangeIter h' it (i:Nat) (k - i:Int) 1∧G' it=none∧I i st'∧i≤k∧n=k+1 - i) (fun n s' hJ=>?_) (k+1) ⟨0,G1,b1,st1,hp3,tk1+1+1,rfl,g3,R3,by simpa using hit,gi,hI0,Nat.zero_le _,rfl⟩
  refine Classical.byContradiction fun ng=>?_
  obtain ⟨i,G',b',st',h',tk',rfl,g',R',hit',gi',hI',hik,rfl⟩:=hJ
  refine ng ?_
  clear ng
  have KE':∀ (e:Value) (s':Shared),(∃ G2 st2 e2 m2 h2 tk2,e = .ref e2∧s' = { s with heap:=h2,toks:=tk2 }∧RelE f G2 la.a st2 h2 e2 m2∧Xc m2 st2)→
      notedBy f.c.M A env (fun e s'=>match (Except.error e:Result) with | .ok f=>QC f s' | .error e=>cameBackBy f.c.M A env EC e s') e s':=by
    rintro e s' ⟨G2,st2,e2,m2,h2,tk2,rfl,rfl,R2,hx⟩
    exact back_ok E0 R2 hx KE
  by_cases hlt:i < k
  · refine wpAny_pyNext_range_item (s:={ s with heap:=h',toks:=tk' }) hit' (by omega) fun h₁ hit₁ hs₁=>?_
    have R1':=R'.touch hit' rfl gi' hi hs₁ ⟨_,hit₁⟩
    have itf:it ∉ f.fs:=not_fs R1'.base hit₁ rfl
    have g1':=g'.touch nl hs₁ ⟨_,hit₁⟩
    refine R1'.storeV (s:={ s with heap:=h₁,toks:=tk'+1 }) E0 hk (.int _ tk') fun h₂ tk₂ R2' x2'=>?_
    have hit₂:=x2'.keep it _ hit₁ (.inl ⟨rfl,_,rfl⟩) itf
    refine hb (s:={ s with heap:=h₂,toks:=tk₂ }) (st:={ st' with ρ:=setL n (.v (.int i)) st'.ρ }) E0 hΓ hq R2' (turn i st' hlt hI') (fun G2 b2 st2 fl fw hp4 tk4 g4 R4 r4 hw4=>?_) fun G2 st2 e2 m2 h2 tk2 R2 hx=>KE' _ _ ⟨G2,st2,e2,m2,h2,tk2,rfl,rfl,R2,hx⟩
    have gg:fl.isRet=false→Ext false f G G2 s.heap hp4:=fun q=>(g1'.trans x2').trans (g4 q)
    cases fl with
    | next=>
      obtain rfl:=fr_next r4
      have hit4:=(g4 rfl).keep it _ hit₂ (.inl ⟨rfl,_,rfl⟩) itf
      refine ⟨k+1 - (i+1),by omega,i+1,G2,b2,st2,hp4,tk4,rfl,gg rfl,R4,?_,?_,hw4,hlt,rfl⟩
      · have e2:(k:Int) - ((i+1:Nat):Int)=(k:Int) - (i:Int) - 1:=by push_cast; omega
        rw [e2]
        exact hit4
      · cases q:G2 it with
        | none=>rfl
        | some o=>
          rcases (g4 rfl).new it o q with k1 | k1 | ⟨ws,n',k1⟩
          · rw [gi'] at k1; cases k1
          · rw [show h₂.get? it=_ from hit₂] at k1; cases k1
          · have:=R4.base.gh it o q
            rw [hit4] at this
            cases this
            cases k1
    | brk=>
      obtain rfl:=fr_brk r4
      exact K G2 b2 st2 .next .next hp4 tk4 gg R4 trivial hw4
    | ret V=>
      obtain ⟨_,rfl⟩:=fr_ret r4
      exact K G2 b2 st2 (.ret V) (.ret _) hp4 tk4 gg R4 r4 hw4
  · have hin:i=k:=by omega
    subst hin
    refine wpAny_pyNext_range_end (s:={ s with heap:=h',toks:=tk' }) hq hit' (by omega) fun h₁ he₁=>?_
    refine K G' b' st' .next .next h₁ tk' (fun ω=>g'.ext1 nl he₁) (R'.ext1 hit' rfl gi' hi he₁) trivial (fin st' hI')
end
theorem lkL_delL (x y:String):∀ ρ:List (String × LV),lkL y (delL x ρ)=if y=x then none else lkL y ρ
  | []=>by unfold delL lkL; split <;> rfl
  | (z,k) :: r=>by
    have ih:=lkL_delL x y r
    unfold delL
    by_cases hz:z=x
    · rw [if_pos hz,ih]
      by_cases h:y=x
      · rw [if_pos h,if_pos h]
      · rw [if_neg h,if_neg h]
        show _=if z=y then some k else lkL y r
        rw [if_neg fun q:z=y=>h (q.symm.trans hz)]
    · rw [if_neg hz]
      show (if z=y then some k else lkL y (delL x r))=if y=x then none else if z=y then some k else lkL y r
      rw [ih]
      by_cases h:z=y
      · rw [if_pos h,if_pos h,if_neg fun q=>hz (h.trans q)]
      · rw [if_neg h,if_neg h]
section
variable {f:FR} {G:Froz} {la:LA} {st:St} {sc:Scope} {env:Env} {A:Around} {H:Nat} {s:Shared} {EC:Value→Shared→Prop}
theorem Env0.mark (E0:Env0 f sc env A H) (h:Option Value):Env0 f sc env (A.mark h) H:=
  ⟨E0.c,E0.scope,E0.kind,E0.loc,E0.fr,E0.gl,E0.bi,E0.cells,E0.envs,E0.frames,E0.guards,E0.depth,E0.units⟩
theorem Rel.goes {n:String} {pos:Pos} {QC:Unit→Shared→Prop} (e:Env0 f sc env A H) (R:Rel f G la st s.heap) (hk:sc.names.lookup (Str.ofString n)=some .local)
    (h:∀ h' tk',Rel f G la { st with ρ:=delL n st.ρ } h'→QC () { s with heap:=h',toks:=tk' }):wpAny f.c.M A (do bindName env (Str.ofString n) .none; unbindBehindTheSuite env (Str.ofString n) pos) QC EC s:=by
  obtain ⟨m,hV,hL⟩:=R.loc
  have kk:env.scope.kind = .function:=by rw [e.scope]; exact e.kind
  have ko:env.kindOf (Str.ofString n)=some .local:=by unfold Env.kindOf; rw [e.scope]; exact hk
  have kf:(env.scope.kind == ScopeKind.class || env.scope.kind == ScopeKind.module && env.locals != env.globals)=false:=by rw [kk]; rfl
  have hc:=e.cells
  have key:∃ m₀,s.heap.Ns f.L m₀∧∀ h' v,h'.Ns f.L (fun x=>if x=Str.ofString n then v else m₀ x)→Heap.SameBut f.L s.heap h'→∃ m',View f h' m'∧∀ y,y≠Str.ofString n→m' y=m y:=by
    unfold View at hV ⊢
    cases q:f.ck with
    | none=>
      rw [q] at hV
      exact ⟨m,hV,fun h' v hn hs=>⟨_,hn,fun y hy=>if_neg hy⟩⟩
    | some p=>
      rw [q] at hV
      refine bC fun ng=>?_;obtain ⟨m₀,o,h1,h2,h3⟩:=hV;refine ng ?_;clear ng
      refine ⟨m₀,h1,fun h' v hn hs=>⟨_,⟨_,o,hn,h2.sameBut hs fun k=>(R.base.ck _ q).2.2.1 (k ▸ R.base.lf),rfl⟩,fun y hy=>?_⟩⟩
      rw [h3]
      dsimp only
      rw [if_neg hy]
  obtain ⟨m₀,h0,k⟩:=key
  refine wpAny_nameGoes_keeps ko (by rw [e.loc]; exact h0) kf fun h' v hn hs=>?_
  rw [e.loc] at hn hs
  obtain ⟨m',V',hm⟩:=k h' v hn hs
  have S:Same f [f.L] s.heap h':=.but hs (by obtain ⟨o,es,ep,ho,_⟩:=hn; exact ⟨o,ho⟩)
  have hX:∀ y∈[f.L],y=f.L∨∃ v,s.heap.IsCell y v:=fun y hy=>.inl (List.mem_singleton.mp hy)
  refine h h' _ ⟨R.base.step S (.refl ..) (fun y hy=>by rw [List.mem_singleton.mp hy]; exact ⟨(R.base.fr _ R.base.lf).1,.inr R.base.sz,fun ω=>rfl⟩) (fun ω=>?_),⟨m',V',?_⟩,R.lex.step S (.refl ..) (notLex_of R.base hX R.lex)⟩
  · refine bC fun ng=>?_;obtain ⟨o,es,ep,ho,hd,_⟩:=hn;refine ng ?_;clear ng
    exact ⟨o,ho,fun vs q=>by rw [hd] at q; cases q⟩
  · refine Loc.step (h:=s.heap) ⟨fun y l q=>?_,fun y z vs ws u hyz q1 q2 q3=>?_⟩ S (.refl ..) (notList_of h0 hX)
    · rw [lkL_delL] at q
      by_cases hy:y=n
      · rw [if_pos hy] at q; cases q
      · rw [if_neg hy] at q
        obtain ⟨u,hu,hr⟩:=hL.rel y l q
        exact ⟨u,by rw [hm _ fun z=>hy (ofString_inj z)]; exact hu,hr⟩
    · rw [lkL_delL] at q1 q2
      by_cases hy:y=n
      · rw [if_pos hy] at q1; cases q1
      · rw [if_neg hy] at q1
        by_cases hz:z=n
        · rw [if_pos hz] at q2; cases q2
        · rw [if_neg hz] at q2
          rw [hm _ fun k=>hy (ofString_inj k)] at q3
          rw [hm _ fun k=>hz (ofString_inj k)]
          exact hL.apart y z vs ws u hyz q1 q2 q3
end
section
variable {Γ:Specs} {sc:Scope} {H:Nat} {e:Expr} {x:X}
theorem sndS_tryR {n:String} {tp rp hp pos:Pos} {body:List Stmt} {xb:List S} (hk:sc.names.lookup (Str.ofString n)=some .local) (hkl:sc.names.lookup (Str.ofString "LuaSyntaxError")=some .globalImplicit) (hb:SndSs Γ sc H body xb) (he:Snd Γ sc H e x) :
    SndS Γ sc H (.Try body [.ExceptHandler (some (.Name (Str.ofString "LuaSyntaxError") tp)) (some (Str.ofString n)) [.Return (some e) rp] hp] [] [] pos) (.tryR xb n x):=by
  intro f env A s G la st Q Xc QC EC E0 hΓ hq R hw K KE
  rw [s_tryR] at hw
  refine g_Try ?_
  refine hb E0 hΓ hq R hw K fun G1 st1 ex m h1 tk1 R1 hx=>?_
  obtain ⟨hqt,hw1⟩:=hx
  refine note_ok (s:={ s with heap:=h1,toks:=tk1 }) R1 E0.frames E0.envs E0.fr fun h2 R2 X2=>?_
  refine flight_ok (s:={ s with heap:=h2,toks:=tk1 }) R2 X2 (.inl rfl) fun h3 R3 X3=>?_
  refine g_handleBy (fun q=>nomatch q) ?_
  have E1:=E0.mark (some (.ref ex))
  refine load_glob (s:={ s with heap:=h3,toks:=tk1 }) E1 R3.base hkl (by rfl) (mg_of E0.c.K E0.c.g (lse_glob _).1) ?_
  have X:=Rel.kIn E0.c R3.base
  have h87:=X _ _ (lse_at f.c.P)
  refine bC fun ng=>?_;obtain ⟨de,vs,sl,es,n',t,T,oT,ts,hP⟩:=X3.parts;refine ng ?_;clear ng
  have hex:=hP.hex
  refine wpAny_excMatches_sub_self h87 hex rfl (by decide +kernel) ⟨rfl,?_⟩
  refine flight_ok (s:={ s with heap:=h3,toks:=tk1 }) R3 X3 (.inl rfl) fun h4 R4 X4=>?_
  clear hP hex
  refine bC fun ng=>?_;obtain ⟨de,vs,sl,es,n',t,T,oT,ts,hP⟩:=X4.parts;refine ng ?_;clear ng
  have hex:=hP.hex
  have hde:=hP.hde
  have hv:=hP.hv
  have hg:=setG_mono (G:=G1) (x:=ex) (o:=⟨.ref aLSE,some de,.fields vs,sl⟩) X4.ge
  have R5:Rel f (setG G1 ex ⟨.ref aLSE,some de,.fields vs,sl⟩) la { st1 with lx:=none } h4:=by
    have B:=R4.base
    have nfe:=not_fs B hex rfl
    have ne:∀ y,y≠ex→G1 y=none→setG G1 ex ⟨.ref aLSE,some de,.fields vs,sl⟩ y=none:=fun y hy e=>by unfold setG; rw [if_neg hy]; exact e
    obtain ⟨mm,hV,hL⟩:=R4.loc
    refine ⟨B.froze hV X4.ge hex X4.fr nfe (fun ω q=>nomatch q),⟨mm,hV,⟨fun y l q=>?_,hL.apart⟩⟩,trivial⟩
    · obtain ⟨u,hu,hr⟩:=hL.rel y l q
      refine ⟨u,hu,?_⟩
      cases l with
      | v V=>exact Rep.mono hg hr
      | own us=>
        refine bC fun ng=>?_;obtain ⟨z',ws',n',rfl,k1,k2,k3,k4,k5⟩:=hr;refine ng ?_;clear ng
        exact ⟨z',ws',n',rfl,k1,Reps.mono hg k2,ne _ (fun k=>by rw [k,hex] at k1; exact absurd (congrArg Obj.data (Option.some.inj k1)) (fun z=>nomatch z)) k3,k4,k5⟩
  have hkl:isLoc sc n=true:=by unfold isLoc; rw [hk]
  refine wpAny_bindName ?_
  refine R5.storeV (s:={ s with heap:=h4,toks:=tk1 }) E1 hkl (.exc (setG_at _ _ _) (hg _ _ hde) hv) fun h5 tk5 R6 x6=>?_
  refine g_execs (g_Return ?_)
  refine he E1 hΓ (.inl hqt) R6 hw1 (fun G7 b7 st7 v7 V7 h7 tk7 g7 R7 r7 hw7=>?_) fun G' st' e m h' tk' R' hx=>?_
  · exact R7.goes (s:={ s with heap:=h7,toks:=tk7 }) E0 hk fun h8 tk8 R8=>K G7 b7 _ (.ret V7) (.ret v7) h8 tk8 (fun q=>nomatch q) R8 r7 hw7
  · exact hx
end
section
open Builtin Builtin.Bytes
theorem slot_bytes_find:Slot "bytes" "find" "bytes.find":=
  .of (owner:="bytes") (n:="find") (by rw [typeLookup_type,builtinLookup_eq_fast]; kernel_rfl) (by decide +kernel) (by decide +kernel) (by decide +kernel)
    (by first | exact .inl (by decide +kernel) | exact .inr (by decide +kernel)) (by rw [isSubtype_type]; kernel_rfl)
theorem entry_bytes_find:entryFor table "bytes.find" = some Builtin.«bytes.find»:=entryFor_of_tree (by kernel_rfl)
theorem args_bytes_find (a b:Value):argsOk "bytes.find" ⟨[a,b],[]⟩:=by unfold argsOk; kernel_rfl
theorem type_bytes_find:typeOf (.builtin "bytes.find")=pure (.type "method_descriptor"):=by show builtinType _=_; rw [builtinType_eq_fast]; kernel_rfl
set_option tactic.hygienic true in
theorem find_meets (l:List UInt8) (t:Tok) (c:UInt8) (u:Tok):Meets (Builtin.«bytes.find» ⟨[.bytes l.toArray t,.bytes #[c] u],[]⟩)
    (fun _ R s=>∀ k,R (.ok (.ret (.int (((find? l.toArray #[c] 0 l.length).map Int.ofNat).getD (-1)) s.toks))) { s with toks:=k }):=
  .of_wp fun prog w A R s h=>by
    unfold Builtin.«bytes.find» searchM searchArgs
    refine wpAny_bind (wpAny_bind (wpAny_of_eq (a:=(.bytes l.toArray t,[.bytes #[c] u])) rfl ?_))
    refine wpAny_bind (wpAny_of_eq (a:=none) rfl ?_)
    refine wpAny_bind (wpAny_of_eq (a:=none) rfl ?_)
    refine wpAny_bind (wpAny_of_eq (KBy.buffer_eq (b:=#[c]) (t:=u)) ?_)
    refine wpAny_bind (wpAny_pure ?_)
    refine wpAny_bind (wpAny_of_eq (a:=l.toArray) rfl ?_)
    refine wpAny_pure ?_
    have hw:window l.toArray.size none none=(0,(l.length:Int)):=by
      unfold window
      simp only [Option.getD_none,List.size_toArray]
      rw [if_neg (by omega),if_neg (by omega),Int.min_self]
    show wpAny _ _ (match ((if (window l.toArray.size none none).2 - (window l.toArray.size none none).1 < ((#[c]:Array UInt8).size:Int) then none else some ((window l.toArray.size none none).1.toNat,(window l.toArray.size none none).2.toNat)):Option (Nat × Nat)).bind fun (lo,hi)=>find? l.toArray #[c] lo hi with
      | some i=>retInt i
      | none=>do
        rule _
        retInt (-1)) _ _ _
    rw [hw]
    have e:((if ((l.length:Int) - 0 < ((#[c]:Array UInt8).size:Int)) then none else some ((0:Int).toNat,(l.length:Int).toNat)):Option (Nat × Nat)).bind (fun (lo,hi)=>find? l.toArray #[c] lo hi)=find? l.toArray #[c] 0 l.length:=by
      split
      · rename_i q
        have:l.length=0:=by simp at q; omega
        rw [this]
        show none=find? _ _ _ _
        unfold find?
        simp
      · simp
    dsimp only at e ⊢
    rw [e]
    generalize find? l.toArray #[c] 0 l.length=o at h ⊢
    cases o with
    | some i=>exact wpAny_bind (wpAny_mkInt (wpAny_pure ⟨_,rfl,h _⟩))
    | none=>exact wpAny_bind (wpAny_rule (wpAny_bind (wpAny_mkInt (wpAny_pure ⟨_,rfl,h _⟩))))
section
variable {Γ:Specs} {sc:Scope} {H:Nat}
set_option tactic.hygienic true in
theorem bm_find {l:List UInt8} {m:String} {vs:List V} {Q:V→Prop} (h:bmV (.byt l) m vs Q):∃ c,vs=[.byt [c]]∧Q (.int (((Builtin.Bytes.find? l.toArray #[c] 0 l.length).map Int.ofNat).getD (-1))):=by
  rcases vs with _ | ⟨v,r⟩
  · exact False.elim h
  · cases v <;> first
      | exact False.elim h
      | (rename_i l
         rcases l with _ | ⟨c,_ | ⟨_,_⟩⟩ <;> rcases r with _ | ⟨_,_⟩ <;> first | exact False.elim h | exact ⟨_,rfl,h.2⟩)
theorem bm_ok {v:V} {m:String} (h:bmOk v m):(∃ l,v = .byt l∧m = "find")∨(v = .kinds∧m = "get"):=by
  cases v <;> first | exact False.elim h | exact .inl ⟨_,rfl,h⟩ | exact .inr ⟨rfl,h⟩
theorem snd_find {e a:Expr} {apos pos:Pos} {xe xa:X} (he:Snd Γ sc H e xe) (ho:methOk e apos pos) (hs:SndL Γ sc H [a] [xa]):Snd Γ sc H (.Call (.Attribute e (Str.ofString "find") apos) [a] [] pos) (.bm xe "find" [xa]):=by
  intro f env A s G la st Q Xc QC EC E0 hΓ hq R hw K KE
  rw [w_bm] at hw
  have hq:A.handled=none:=hq.resolve_left (fun e=>Bool.noConfusion (show false=true from e))
  refine g_meth ho (plain_any hs) (show 1 < 30 by decide) ?_
  refine he E0 hΓ (.inr hq) R hw (fun G1 b1 st1 v1 V1 hp1 tk1 g1 R1 r1 hw1=>?_) KE
  obtain ⟨h1,hw1⟩:=hw1
  obtain ⟨l,rfl⟩:∃ l,V1 = .byt l:=by
    rcases bm_ok h1 with h | ⟨_,q⟩
    · exact ⟨_,h.choose_spec.1⟩
    · exact absurd q (by decide)
  obtain ⟨t,rfl⟩:=rByt r1
  have hT:(⟨hp1,s.gens,s.drawn,tk1,s.os⟩:Shared).TypeIs (.bytes l.toArray t) "bytes":=typeIs_bytes _ _ _
  refine getMethod_builtin hT FB.plainAttrs_bytes slot_bytes_find type_bytes_find (fun a q=>nomatch q) ?_
  refine args_P hs E0 hΓ hq R1 hw1 (fun a q=>nomatch q) (fun G2 b2 st2 v2 V2 hp2 tk2 g2 R2 r2 hw2=>?_) (fun G' st' e m h' tk'=>KE G' st' e m h' tk')
  replace hw2:=bm_find hw2
  obtain ⟨c,e,hw2⟩:=hw2
  cases e
  refine bC fun ng=>?_;obtain ⟨_,_,rfl,r,rs⟩:=rCons r2;refine ng ?_;clear ng
  cases rs
  obtain ⟨u,rfl⟩:=rByt r
  refine wpG_of (call_meets slot_bytes_find (typeIs_bytes _ _ _) entry_bytes_find (args_bytes_find _ _) (find_meets l t c u) fun k=>?_)
  exact K G2 b2 st2 _ _ hp2 k (g1.trans g2) R2 (.int _ _) hw2
end
end
section
theorem kinds_map {w:World} {h:Heap} {d:Addr} {es:List DictEntry} {n:Nat} (hd:h.get? d=some (dictOf es n)) (k:KindsOk w.params es):h.MapOf (bytesKind pw w) d (findBy isBytes es.toArray):=
  ⟨_,_,_,hd,⟨rfl,rfl,rfl⟩,rfl,k.1,fun ω=>rfl⟩
variable {Γ:Specs} {sc:Scope} {H:Nat}
theorem bm_get {m:String} {vs:List V} {Q:V→Prop} (h:bmV .kinds m vs Q):∃ c,vs=[.byt c]∧Q (match wordTable.lookup c with | some k=>.int k | none=>.none):=by
  rcases vs with _ | ⟨v,_ | ⟨_,_⟩⟩
  · exact False.elim h
  · cases v <;> first | exact False.elim h | exact ⟨_,rfl,h.2⟩
  · cases v <;> exact False.elim h
theorem rKinds {P:Params} {G:Froz} {a:Addr} {v:Value} (r:Rep P G a .kinds v):∃ x n es,v = .ref x∧G x=some (dictOf es n)∧(x == sysModules)=false∧KindsOk P es:=by cases r; exact ⟨_,_,_,rfl,by assumption,by assumption,by assumption⟩
theorem snd_get {e a:Expr} {apos pos:Pos} {xe xa:X} (he:Snd Γ sc H e xe) (ho:methOk e apos pos) (hs:SndL Γ sc H [a] [xa]):Snd Γ sc H (.Call (.Attribute e (Str.ofString "get") apos) [a] [] pos) (.bm xe "get" [xa]):=by
  intro f env A s G la st Q Xc QC EC E0 hΓ hq R hw K KE
  rw [w_bm] at hw
  have hq:A.handled=none:=hq.resolve_left (fun e=>Bool.noConfusion (show false=true from e))
  refine g_meth ho (plain_any hs) (show 1 < 30 by decide) ?_
  refine he E0 hΓ (.inr hq) R hw (fun G1 b1 st1 v1 V1 hp1 tk1 g1 R1 r1 hw1=>?_) KE
  obtain ⟨h1,hw1⟩:=hw1
  obtain rfl:V1 = .kinds:=by
    rcases bm_ok h1 with ⟨_,_,q⟩ | h
    · exact absurd q (by decide)
    · exact h.1
  refine bC fun ng=>?_;obtain ⟨x,n,es,rfl,hx,hsys,hk⟩:=rKinds r1;refine ng ?_;clear ng
  have ho1:=R1.base.gh _ _ hx
  have hT:(⟨hp1,s.gens,s.drawn,tk1,s.os⟩:Shared).TypeIs (.ref x) "dict":=⟨_,ho1,rfl⟩
  refine getMethod_builtin hT F.plainAttrs_dict F.slot_dict_get F.type_dict_get (fun a q=>by cases q; exact ⟨_,ho1,rfl⟩) ?_
  refine args_P hs E0 hΓ hq R1 hw1 (fun a q=>nomatch q) (fun G2 b2 st2 v2 V2 hp2 tk2 g2 R2 r2 hw2=>?_) (fun G' st' e m h' tk'=>KE G' st' e m h' tk')
  replace hw2:=bm_get hw2
  obtain ⟨c,e,hw2⟩:=hw2
  cases e
  refine bC fun ng=>?_;obtain ⟨_,_,rfl,r,rs⟩:=rCons r2;refine ng ?_;clear ng
  cases rs
  obtain ⟨u,rfl⟩:=rByt r
  have ho2:=R2.base.gh _ _ (g2.mono _ _ hx)
  have hm:=kinds_map (w:=f.c.w) ho2 hk
  refine wpG_of (call_meetsIn F.slot_dict_get hm.typeIs F.entry_dict_get (F.args_dict_get_2 _ _) (meets_dict_get (bytesKind pw f.c.w) (k:=c) x (by simp [bytesKind,isBytes]) hsys) ⟨_,hm,?_⟩)
  have:=hk.2 c
  cases hl:wordTable.lookup c with
  | none=>
    rw [hl] at this hw2
    rw [this]
    exact K G2 b2 st2 _ _ hp2 (tk2+1) (g1.trans g2) R2 .none hw2
  | some i=>
    rw [hl] at this hw2
    obtain ⟨t',this⟩:=this
    rw [this]
    exact K G2 b2 st2 _ _ hp2 (tk2+1) (g1.trans g2) R2 (.int _ _) hw2
end
inductive InitB:List Stmt→List String→Prop
  | nil:InitB [] []
  | cons {p1 p2 p3 p4:Pos} {n:String} {r:List Stmt} {ns:List String}:InitB r ns→InitB (.Assign [.Attribute (.Name (Str.ofString "self") p1) (Str.ofString n) p2] (.Name (Str.ofString n) p3) p4 :: r) (n :: ns)
structure ClsI (P:Params) (C:Addr) (names:List String):Prop where
  set:findIn (KF P) (.ref C) "__setattr__" = some (some (.builtin "object.__setattr__"))
  over:plainOver (KF P) C=true
  dict:hasDictIn (KF P) C=true
  taker:∀ n∈names,takerIn (KF P) C (Str.ofString n)=some none
set_option tactic.hygienic true in
theorem getL_put_self {n:Str} {hsh:Int} {t:Tok} {v:Value}:∀ {es:List DictEntry},getL n (putL n hsh (.str n t) v es)=some (some v)
  | []=>by
    unfold putL getL
    rw [List.find?_cons_of_pos (by show (n == n)=true; exact beq_self_eq_true _)]
  | e :: r=>by
    unfold putL
    split
    · rename_i q
      unfold getL
      rw [List.find?_cons_of_pos (by exact q)]
    · rename_i q
      have ih:=getL_put_self (n:=n) (hsh:=hsh) (t:=t) (v:=v) (es:=r)
      unfold getL at ih ⊢
      rw [List.find?_cons_of_neg (by exact q)]
      cases hf:List.find? (fun x=>x.key.isStr n) (putL n hsh (.str n t) v r) with
      | some e'=>rw [hf] at ih; exact ih
      | none=>
        rw [hf] at ih
        dsimp only at ih
        split at ih <;> cases ih
section
variable {w:World} {A:Around} {E:Value→Shared→Prop} {env:Env} {x d C L:Addr} {m:Str→Option Value} {vals:String→Value}
theorem init_walk (kk:env.scope.kind = .function) (hL:env.locals=L) (ks:env.kindOf (Str.ofString "self")=some .local) (ms:m (Str.ofString "self")=some (.ref x)) (dL:d≠L) (xd:x≠d) (Kd:∀ b o,(KF w.params).lookup b=some o→b≠d) {stmts:List Stmt} {names:List String} (hb:InitB stmts names) :
    ∀ {s:Shared} {es:List DictEntry} {k:Nat} {Q:Flow→Shared→Prop},ClsI w.params C names→names.Nodup→(∀ n∈names,env.kindOf (Str.ofString n)=some .local∧m (Str.ofString n)=some (vals n)∧(Str.ofString n == ("__debug__" : Str))=false)→(KF w.params).In s.heap→s.heap.Ns L m→s.heap.get? x=some (instObj C d)→s.heap.get? d=some (dictOf es k)→es.any (·.refKey)=false→es.length+names.length≤900→
      (∀ h' tk es' k',Heap.SameBut d s.heap h'→h'.get? d=some (dictOf es' k')→(∀ n∈names,getL (Str.ofString n) es'=some (some (vals n)))→(∀ n,n ∉ names→getL (Str.ofString n) es'=getL (Str.ofString n) es)→Q .next { s with heap:=h',toks:=tk })→
      wpG (model pw w) A (execs stmts env) Q E s:=by
  induction hb with
  | nil=>
    intro s es k Q cls nd kv X hn hx D nr hz h
    exact wpG_of (wpAny_execs_nil (h s.heap s.toks es k ⟨rfl,fun ω ω=>rfl⟩ D (fun ω q=>nomatch q) fun ω ω=>rfl))
  | @cons p1 p2 p3 p4 n r ns hb ih=>
    intro s es k Q cls nd kv X hn hx D nr hz h
    obtain ⟨kn,mn,dn⟩:=kv n (.head _)
    subst hL
    refine g_execs (g_Assign_Attr (wpG_of (wpAny_Name (wpAny_loadName_local kk kn hn mn ?_) dn)) rfl)
    refine wpG_of (wpAny_Name (wpAny_loadName_local kk ks hn ms ?_))
    refine inst_set X hx D cls.set cls.over (cls.taker n (.head _)) cls.dict (by unfold getL; rw [nr]; split <;> rfl) (fun k=>Nat.le_trans len_putL (by have:ns.length+1=(n :: ns).length:=rfl; omega)) fun h1 tk tk' D1 hs=>?_
    have hl:(putL (Str.ofString n) (PyData.keyHash w.params (Str.ofString n)) (.str (Str.ofString n) tk) (vals n) es).length≤es.length+1:=len_putL
    have nd':=List.nodup_cons.mp nd
    refine ih (s:={ s with heap:=h1,toks:=tk' }) ⟨cls.set,cls.over,cls.dict,fun a ha=>cls.taker a (.tail _ ha)⟩ nd'.2 (fun a ha=>kv a (.tail _ ha)) (fun b o q=>(hs.2 b (Kd b o q)).trans (X b o q)) (hn.sameBut hs dL.symm) ((hs.2 x xd).trans hx) D1 (by rw [any_putL]; exact nr) (by have:ns.length+1=(n :: ns).length:=rfl; omega) fun h' tk'' es' k' hs' D' g1 g2=>?_
    refine h h' tk'' es' k' (hs.trans hs') D' (fun a ha=>?_) fun a ha=>?_
    · rcases List.mem_cons.mp ha with rfl | ha
      · rw [g2 a nd'.1]; exact getL_put_self
      · exact g1 a ha
    · rw [g2 a fun q=>ha (.tail _ q)]
      exact getL_putL fun q=>ha (by rw [ofString_inj q]; exact .head _)
theorem tok_cls (P:Params):ClsI P 262 ["kind","value"]:=by
  have h:(["kind","value"].all fun n=>takerIn (KF P) 262 (Str.ofString n) == some none)=true:=by kernel_rfl
  exact ⟨by kernel_rfl,by kernel_rfl,by kernel_rfl,fun n hn=>beq_iff_eq.mp (List.all_eq_true.mp h n hn)⟩
noncomputable abbrev limNames:List String:=["width","registers","upvalues","local_names","ccalls","frames","stack","flush","steps","text"]
theorem lim_cls (P:Params):ClsI P 53 limNames:=by
  have h:(limNames.all fun n=>takerIn (KF P) 53 (Str.ofString n) == some none)=true:=by kernel_rfl
  exact ⟨by kernel_rfl,by kernel_rfl,by kernel_rfl,fun n hn=>beq_iff_eq.mp (List.all_eq_true.mp h n hn)⟩
theorem tok_more (P:Params):makesIn (KF P) 262=true∧findIn (KF P) (.ref 262) "__init__" = some (some (.ref 259))∧typeIn (KF P) (.ref 259)=some (.type "function"):=⟨by kernel_rfl,by kernel_rfl,by kernel_rfl⟩
theorem lim_more (P:Params):makesIn (KF P) 53=true∧findIn (KF P) (.ref 53) "__init__" = some (some (.ref 36))∧typeIn (KF P) (.ref 36)=some (.type "function"):=⟨by kernel_rfl,by kernel_rfl,by kernel_rfl⟩
theorem tok_body:InitB (fBody (stc 62 0)) ["kind","value"]:=.cons (.cons .nil)
theorem lim_body:InitB (fBody (stc 3 0)) limNames:=.cons (.cons (.cons (.cons (.cons (.cons (.cons (.cons (.cons (.cons .nil)))))))))
theorem fn259 (P:Params):∃ fd,FnAt P 259 (stc 62 0) fd∧∀ S a b c,peek (KF P) S (bindArgs fd ⟨[a,b,c],[]⟩)=some [(Str.ofString "self",a),(Str.ofString "kind",b),(Str.ofString "value",c)]:=by
  refine ⟨_,⟨(show (KF P).lookup 259=some (o259 P) by kernel_rfl),rfl,rfl,rfl,rfl,rfl,rfl,⟨258,o258 P,_,_,rfl,(by kernel_rfl),rfl,rfl⟩⟩,fun S a b c=>?_⟩
  kernel_rfl
theorem fn36 (P:Params):∃ fd,FnAt P 36 (stc 3 0) fd∧∀ S a,peek (KF P) S (bindArgs fd ⟨[a],[]⟩)=some [(Str.ofString "self",a),(Str.ofString "width",.int 64 210),(Str.ofString "registers",.int 250 211),(Str.ofString "upvalues",.int 60 212),(Str.ofString "local_names",.int 200 213),(Str.ofString "ccalls",.int 40 214),(Str.ofString "frames",.int 200 215),(Str.ofString "stack",.int 2000 216),(Str.ofString "flush",.int 50 217),(Str.ofString "steps",.int 1000000000 218),(Str.ofString "text",.int 1000000 219)]:=by
  refine ⟨_,⟨(show (KF P).lookup 36=some (o36 P) by kernel_rfl),rfl,rfl,rfl,rfl,rfl,rfl,⟨35,o35 P,_,_,rfl,(by kernel_rfl),rfl,rfl⟩⟩,fun S a=>?_⟩
  kernel_rfl
end
structure InitF (P:Params) (C fa:Addr) (st:Stmt) (fd:FuncData) (names:List String) (vals:String→Value) (args:List Value):Prop where
  makes:makesIn (KF P) C=true
  init:findIn (KF P) (.ref C) "__init__" = some (some (.ref fa))
  fn:typeIn (KF P) (.ref fa)=some (.type "function")
  at_:FnAt P fa st fd
  body:InitB (fBody st) names
  cls:ClsI P C names
  nodup:names.Nodup
  few:names.length≤100
  kind:(fScope st).kind = .function
  co:(fScope st).isCoroutine=false
  gen:(fScope st).isGenerator=false
  cells:((fScope st).names.all fun x=>x.2 != .cell)=true
  self:(fScope st).names.lookup (Str.ofString "self")=some .local
  loc:(names.all fun n=>(fScope st).names.lookup (Str.ofString n) == some .local && (Str.ofString n == ("__debug__" : Str)) == false)=true
  binds:∀ S x,peek (KF P) S (bindArgs fd ⟨.ref x :: args,[]⟩)=some ((Str.ofString "self",.ref x) :: names.map fun n=>(Str.ofString n,vals n))
  ms:∀ x,((Str.ofString "self",Value.ref x) :: names.map fun n=>(Str.ofString n,vals n)).reverse.lookup (Str.ofString "self")=some (.ref x)
  mv:∀ x,∀ n∈names,((Str.ofString "self",Value.ref x) :: names.map fun n=>(Str.ofString n,vals n)).reverse.lookup (Str.ofString n)=some (vals n)
section
variable {w:World} {A:Around} {R:Result→Shared→Prop} {h:Heap} {g:Array GenState} {dr:Drawn} {t:Nat} {os:OsState} {C fa:Addr} {st:Stmt} {fd:FuncData} {names:List String} {vals:String→Value} {args:List Value}
theorem inst_made (I:InitF w.params C fa st fd names vals args) (X:(KF w.params).In h) (hroom:A.depth+1 < recursionLimit) (hlim:h.NoLimit)
    (hq:∀ h' tk es n,(∀ b o,h.get? b=some o→h'.get? b=some o)→h'.get? (h.objs.size+1)=some (instObj C h.objs.size)→h'.get? h.objs.size=some (dictOf es n)→(∀ a∈names,getL (Str.ofString a) es=some (some (vals a)))→R (.ok (.ret (.ref (h.objs.size+1)))) ⟨h',g,dr,tk,os⟩) :
    codeG (model pw w) A (.call (.ref C) ⟨args,[]⟩) R ⟨h,g,dr,t,os⟩:=by
  refine g_make X I.makes I.init I.fn ?_
  have kp:∀ b o,h.get? b=some o→((h.push emptyDict).push (instObj C h.objs.size)).get? b=some o:=fun b o q=>Heap.get?_push_of_some _ (Heap.get?_push_of_some _ q)
  have hx:((h.push emptyDict).push (instObj C h.objs.size)).get? (h.objs.size+1)=some (instObj C h.objs.size):=by heap_get
  have hd:((h.push emptyDict).push (instObj C h.objs.size)).get? h.objs.size=some (dictOf [] 0):=by heap_get
  have X1:=X.keeps kp
  have F:=I.at_
  refine bC fun ng=>?_;obtain ⟨c,oc,cvs,ct,q1,q2,q3,q4⟩:=F.code;refine ng ?_;clear ng
  have hl1:=hlim.keeps kp
  generalize hh:(h.push emptyDict).push (instObj C h.objs.size)=h1 at kp hx hd X1 hl1
  refine g_call_def (s:=⟨h1,g,dr,t,os⟩) (binds:=(Str.ofString "self",.ref (h.objs.size+1)) :: names.map fun n=>(Str.ofString n,vals n)) ?_ (X1 _ _ F.at_) rfl hl1 ⟨c,oc,cvs,ct,q1,X1 _ _ q2,q3,q4⟩ F.body (kp_binds (s:=⟨h1,g,dr,t,os⟩) X1 fun S=>I.binds S _) (by
      rw [F.scope]; intro x hx q
      have:=List.all_eq_true.mp I.cells x hx
      rw [q] at this; cases this) (by
      rw [F.scope]; intro x hx
      rcases List.mem_cons.mp hx with rfl | hx
      · exact I.self
      · obtain ⟨n,hn,rfl⟩:=List.mem_map.mp hx
        have:=List.all_eq_true.mp I.loc n hn
        exact beq_iff_eq.mp (Bool.and_eq_true_iff.mp this).1) (fun h₀ hns keep=>?_) (by rw [F.scope]; exact I.co) (by rw [F.scope]; exact I.gen) (by rw [F.scope]; exact I.kind)
  · show A.depth+1 < recursionLimit
    exact hroom
  have nd:h.objs.size≠h1.objs.size:=Nat.ne_of_lt (Heap.lt_size hd)
  refine init_walk (x:=h.objs.size+1) (d:=h.objs.size) (C:=C) (L:=h1.objs.size) (vals:=vals) (by show fd.scope.kind=_; rw [F.scope]; exact I.kind) rfl (by show fd.scope.names.lookup _=_; rw [F.scope]; exact I.self) (I.ms _) nd (Nat.succ_ne_self _) (fun b o q=>Nat.ne_of_lt (Heap.lt_size (X _ _ q))) I.body I.cls I.nodup (fun n hn=>⟨?_,I.mv _ n hn,?_⟩) (X1.keeps keep) hns (keep _ _ hx) (keep _ _ hd) rfl (by have:=I.few; show 0+_≤_; omega) fun h' tk es' k' hs D g1 g2=>?_
  · show fd.scope.names.lookup _=_
    rw [F.scope]
    exact beq_iff_eq.mp (Bool.and_eq_true_iff.mp (List.all_eq_true.mp I.loc n hn)).1
  · exact beq_iff_eq.mp (Bool.and_eq_true_iff.mp (List.all_eq_true.mp I.loc n hn)).2
  · refine ⟨rfl,hq h' tk es' k' (fun b o q=>?_) ((hs.2 _ (Nat.succ_ne_self _)).trans (keep _ _ hx)) D g1⟩
    exact (hs.2 b (Nat.ne_of_lt (Heap.lt_size q))).trans (keep _ _ (kp _ _ q))
end
noncomputable def tokVals (k v:Value):String→Value:=fun n=>if n = "kind" then k else v
theorem tok_init (P:Params) (k v:Value):∃ fd,InitF P 262 259 (stc 62 0) fd ["kind","value"] (tokVals k v) [k,v]:=by
  obtain ⟨fd,F,hb⟩:=fn259 P
  obtain ⟨h1,h2,h3⟩:=tok_more P
  exact ⟨fd,h1,h2,h3,F,tok_body,tok_cls P,by decide,by decide,by kernel_rfl,by kernel_rfl,by kernel_rfl,by kernel_rfl,by kernel_rfl,by kernel_rfl,fun S x=>hb S _ _ _,fun x=>by kernel_rfl,fun x n hn=>by
    rcases List.mem_cons.mp hn with rfl | hn
    · kernel_rfl
    rcases List.mem_cons.mp hn with rfl | hn
    · kernel_rfl
    · nomatch hn⟩
noncomputable def limVals:String→Value:=fun n=>if n = "width" then .int 64 210 else if n = "registers" then .int 250 211 else if n = "upvalues" then .int 60 212 else if n = "local_names" then .int 200 213 else if n = "ccalls" then .int 40 214 else if n = "frames" then .int 200 215 else if n = "stack" then .int 2000 216 else if n = "flush" then .int 50 217 else if n = "steps" then .int 1000000000 218 else .int 1000000 219
theorem lim_init (P:Params):∃ fd,InitF P 53 36 (stc 3 0) fd limNames limVals []:=by
  obtain ⟨fd,F,hb⟩:=fn36 P
  obtain ⟨h1,h2,h3⟩:=lim_more P
  refine ⟨fd,h1,h2,h3,F,lim_body,lim_cls P,by decide,by decide,by kernel_rfl,by kernel_rfl,by kernel_rfl,by kernel_rfl,by kernel_rfl,by kernel_rfl,fun S x=>hb S _,fun x=>by kernel_rfl,fun x n hn=>?_⟩
  have:(limNames.all fun n=>(((Str.ofString "self",Value.ref x) :: limNames.map fun n=>(Str.ofString n,limVals n)).reverse.lookup (Str.ofString n)) == some (limVals n))=true:=by kernel_rfl
  exact beq_iff_eq.mp (List.all_eq_true.mp this n hn)
theorem GNew.two {G:Froz} {h h':Heap} {x y:Addr} {o p:Obj} (hx:h.get? x=none) (hy:h.get? y=none) (gx:G x=none) (gy:G y=none) (ne:y≠x) (e1:h'.get? x=some o) (e2:h'.get? y=some p):GNew G (setG (setG G x o) y p) h h':=by
  have gy':setG G x o y=none:=by unfold setG; rw [if_neg ne]; exact gy
  refine ⟨fun b o' e=>setG_mono gy' _ _ (setG_mono gx _ _ e),fun b o' e=>?_⟩
  unfold setG at e
  by_cases q:b=y
  · rw [if_pos q] at e; cases e; exact .inr ⟨q ▸ hy,q ▸ e2⟩
  · rw [if_neg q] at e
    by_cases q':b=x
    · rw [if_pos q'] at e; cases e; exact .inr ⟨q' ▸ hx,q' ▸ e1⟩
    · rw [if_neg q'] at e; exact .inl e
theorem Ext.news {vw:Bool} {f:FR} {G G':Froz} {h h':Heap} (k:∀ b o,h.get? b=some o→h'.get? b=some o) (g:GNew G G' h h'):Ext vw f G G' h h':=
  ⟨g.mono,fun x o e=>(g.new x o e).elim .inl fun q=>.inr (.inl q.1),fun _ ⟨o,e⟩=>⟨o,k _ o e⟩,fun ω ω V=>V.keeps k,fun z o e ω ω=>k z o e⟩
theorem get_none_succ {h:Heap}:h.get? (h.objs.size+1)=none:=by
  cases q:h.get? (h.objs.size+1) with
  | none=>rfl
  | some o=>exact absurd (Heap.lt_size q) (Nat.not_lt.mpr (Nat.le_succ _))
theorem made_glob (P:Params):nsIn (KF P) mainGlobals (Str.ofString "Token")=some (some (.ref 262))∧keepIn (KF P) (.ref 262)=true∧nsIn (KF P) mainGlobals (Str.ofString "Limits")=some (some (.ref 53))∧keepIn (KF P) (.ref 53)=true:=⟨by kernel_rfl,by kernel_rfl,by kernel_rfl,by kernel_rfl⟩
section
variable {Γ:Specs} {sc:Scope} {H:Nat} {k v:Expr} {xk xv:X}
theorem wpX_two {Q:V→V→St→Prop} {Xc:Exc} {st:St} (h:wpX Γ xk (fun a st=>wpX Γ xv (fun b st=>Q a b st) Xc st) Xc st):wpXs Γ [xk,xv] (fun vs st=>∃ a b,vs=[a,b]∧Q a b st) Xc st:=by
  rw [w_cons]
  simp only [w_cons,w_nil]
  have e1:(fun (a:V) (st:St)=>wpX Γ xv (fun (b:V) (st:St)=>∃ a' b',[a,b]=[a',b']∧Q a' b' st) Xc st)=fun a st=>wpX Γ xv (fun b st=>Q a b st) Xc st:=by
    funext a st
    congr 1
    funext b st
    exact propext ⟨fun ⟨_,_,h1,h2⟩=>by cases h1; exact h2,fun h=>⟨a,b,rfl,h⟩⟩
  rw [e1]
  exact h
set_option tactic.hygienic true in
theorem snd_newTok {xp pos:Pos} (hk:sc.names.lookup (Str.ofString "Token")=some .globalImplicit) (hH:2≤H) (hs:SndL Γ sc H [k,v] [xk,xv]):Snd Γ sc H (.Call (.Name (Str.ofString "Token") xp) [k,v] [] pos) (.newTok xk xv):=by
  intro f env A s G la st Q Xc QC EC E0 hΓ hq R hw K KE
  rw [w_newTok] at hw
  have hq:A.handled=none:=hq.resolve_left (fun e=>Bool.noConfusion (show false=true from e))
  refine g_Call ?_
  refine wpG_of (load_glob E0 R.base hk (by rfl) (mg_of E0.c.K E0.c.g (made_glob _).1) ?_)
  refine args_K hs E0 hΓ hq R (wpX_two hw) (made_glob _).2.1 (fun G1 b1 st1 v1 V1 hp1 tk1 g1 R1 r1 hw1=>?_) KE
  refine bC fun ng=>?_;obtain ⟨_,vv,rfl,i,rfl,hQ⟩:=hw1;refine ng ?_;clear ng
  replace r1:=rCons r1
  refine bC fun ng=>?_;obtain ⟨_,_,rfl,r1,rs⟩:=r1;refine ng ?_;clear ng
  replace rs:=rCons rs
  refine bC fun ng=>?_;obtain ⟨_,_,rfl,r2,rs⟩:=rs;refine ng ?_;clear ng
  cases rs
  obtain ⟨t,rfl⟩:=rInt r1
  rename_i w
  obtain ⟨fd,I⟩:=tok_init f.c.P (.int i t) w
  refine wpG_call (inst_made I (Rel.kIn E0.c R1.base) (by have:=E0.depth; omega) (Base.noLimit E0.c R1.base) fun h' tk es n keep ex ed gs=>?_)
  have n1:=size_new hp1
  have n2:=get_none_succ (h:=hp1)
  have ne:hp1.objs.size+1≠hp1.objs.size:=Nat.succ_ne_self _
  have gn:=GNew.two n1 n2 (R1.base.fresh n1) (R1.base.fresh n2) ne ed ex
  have gd:setG (setG G1 hp1.objs.size (dictOf es n)) (hp1.objs.size+1) (instObj 262 hp1.objs.size) hp1.objs.size=some (dictOf es n):=by
    unfold setG; rw [if_neg ne.symm,if_pos rfl]
  exact K _ b1 st1 _ (.tok i vv) h' tk (g1.trans (.news keep gn)) (R1.grow (.of_keeps keep) gn) (.tok (setG_at _ _ _) gd (gs "kind" (.head _)) (gs "value" (.tail _ (.head _))) (Rep.mono gn.mono r2)) hQ
theorem snd_newLims {xp pos:Pos} (hk:sc.names.lookup (Str.ofString "Limits")=some .globalImplicit) (hH:2≤H):Snd Γ sc H (.Call (.Name (Str.ofString "Limits") xp) [] [] pos) .newLims:=by
  intro f env A s G la st Q Xc QC EC E0 hΓ hq R hw K KE
  rw [w_newLims] at hw
  have hq:A.handled=none:=hq.resolve_left (fun e=>Bool.noConfusion (show false=true from e))
  refine g_Call ?_
  refine wpG_of (load_glob E0 R.base hk (by rfl) (mg_of E0.c.K E0.c.g (made_glob _).2.2.1) ?_)
  refine args_K (xs:=[]) (Q:=fun vs st=>vs=[]∧Q .lims st) .nil E0 hΓ hq R ⟨rfl,hw⟩ (made_glob _).2.2.2 (fun G1 b1 st1 v1 V1 hp1 tk1 g1 R1 r1 hw1=>?_) KE
  obtain ⟨rfl,hw1⟩:=hw1
  cases r1
  obtain ⟨fd,I⟩:=lim_init f.c.P
  refine wpG_call (inst_made I (Rel.kIn E0.c R1.base) (by have:=E0.depth; omega) (Base.noLimit E0.c R1.base) fun h' tk es n keep ex ed gs=>?_)
  have n1:=size_new hp1
  have n2:=get_none_succ (h:=hp1)
  have ne:hp1.objs.size+1≠hp1.objs.size:=Nat.succ_ne_self _
  have gn:=GNew.two n1 n2 (R1.base.fresh n1) (R1.base.fresh n2) ne ed ex
  have gd:setG (setG G1 hp1.objs.size (dictOf es n)) (hp1.objs.size+1) (instObj 53 hp1.objs.size) hp1.objs.size=some (dictOf es n):=by
    unfold setG; rw [if_neg ne.symm,if_pos rfl]
  exact K _ b1 st1 _ .lims h' tk (g1.trans (.news keep gn)) (R1.grow (.of_keeps keep) gn) (.lims (setG_at _ _ _) gd (gs "width" (by decide)) (gs "text" (by decide))) hw1
end
section
variable {f:FR} {G G':Froz} {la la':LA} {lx lx':Option Lex} {h h₀ h':Heap} {env:Env} {L:Addr} {ck:Option (String × Addr)}
noncomputable def FR.inn (f:FR) (h:Heap) (G:Froz) (X:List Addr) (L:Addr) (env:Env) (ck:Option (String × Addr)):FR:=⟨f.c,h,G,X,L,env :: f.envs,ck⟩
theorem inn_fs (X:List Addr) (hf:env.frame=some L):(f.inn h G X L env ck).fs=L :: f.fs:=by
  show (env :: f.envs).filterMap (·.frame)=_
  rw [List.filterMap_cons,hf]; rfl
theorem fr_enter (B:Base f G h) (LX:LexOk f G h la lx) (keep:∀ b o,h.get? b=some o→h₀.get? b=some o) (hf:env.frame=some L) (hk:env.scope.kind = .function) (hL:h.get? L=none) (oL:∃ o,h₀.get? L=some o∧∀ vs,o.data ≠ .fields vs)
    (hc:∀ p,ck=some p→h.get? p.2=none∧p.2≠L∧Liv h₀ p.2):Base (f.inn h G (XS la lx) L env ck) G h₀∧LexOk (f.inn h G (XS la lx) L env ck) G h₀ la lx:=by
  have efs:=inn_fs (f:=f) (h:=h) (G:=G) (ck:=ck) (XS la lx) hf
  have live:∀ {x:Addr},Liv h x→x≠L:=fun ⟨o,e⟩ q=>by rw [q,hL] at e; cases e
  have nfs:∀ {x:Addr},Liv h x→x ∉ f.fs→x ∉ (f.inn h G (XS la lx) L env ck).fs:=fun l n q=>by
    rw [efs] at q
    rcases List.mem_cons.mp q with q | q
    · exact live l q
    · exact n q
  refine ⟨⟨B.bg,fun b o e=>keep _ _ (B.gh b o e),fun ω ω e=>e,fun ω ω e=>.inl e,fun b o e ω ω=>keep b o e,fun b o e ω=>⟨o,keep b o e,.refl _⟩,hL,fun b ⟨o,e⟩=>⟨o,keep b o e⟩,by rw [efs]; exact .head _,fun L' hL'=>?_,?_,fun p hp=>?_⟩,?_⟩
  · rw [efs] at hL'
    rcases List.mem_cons.mp hL' with rfl | hL'
    · obtain ⟨o,ho,_⟩:=oL
      exact ⟨B.fresh hL,o,ho⟩
    · obtain ⟨h1,o,h2⟩:=B.fr L' hL'
      exact ⟨h1,o,keep _ _ h2⟩
  · obtain ⟨o,ho,hd⟩:=oL
    refine ⟨by rw [hk]; decide,⟨L,o,hf,(show f.c.B.get? L=none from ?_),ho,hd⟩,B.fn.of_keeps fun b o ho ω=>⟨o,keep _ _ ho,rfl⟩⟩
    cases q:f.c.B.get? L with
    | none=>rfl
    | some o=>have:=B.gh _ _ (B.bg _ _ q); rw [hL] at this; cases this
  · obtain ⟨h1,h2,h3⟩:=hc p hp
    refine ⟨B.fresh h1,h1,fun q=>?_,h3⟩
    rw [efs] at q
    rcases List.mem_cons.mp q with q | q
    · exact h2 q
    · exact not_liv.mpr h1 (B.fr _ q).2
  · cases lx with
    | none=>trivial
    | some l=>
      have r:LexRel f G h la l:=LX
      obtain ⟨es,n,e1,e2⟩:=r.dict
      refine (show LexRel _ G h₀ la l from ⟨r.inst,⟨es,n,keep _ _ e1,e2⟩,r.gd,nfs ⟨_,e1⟩ r.nf,.inl ?_,r.one,fun b hb=>?_,r.has,r.nm⟩)
      · show la.d∈XS la (some l)
        unfold XS; exact .head _
      · have rb:=r.buf b hb
        refine ⟨keep _ _ rb.at_,rb.gb,nfs ⟨_,rb.at_⟩ rb.nf,.inl ?_⟩
        show la.b∈XS la (some l)
        show la.b∈la.d :: (match l.buf with | none=>[] | some _=>[la.b])
        rw [hb]; exact .tail _ (.head _)
theorem fr_leave (B:Base f G h) (LX:LexOk f G h la lx) (hf:env.frame=some L) (B':Base (f.inn h G (XS la lx) L env ck) G' h'):Same f (XS la lx) h h'∧GNew G G' h h'∧Base f G' h':=by
  have efs:=inn_fs (f:=f) (h:=h) (G:=G) (ck:=ck) (XS la lx) hf
  have hL:h.get? L=none:=B'.sz
  have live:∀ {x:Addr},Liv h x→x≠L:=fun ⟨o,e⟩ q=>by rw [q,hL] at e; cases e
  have F:=xs_facts LX
  have S:Same f (XS la lx) h h':=by
    refine ⟨fun b o e hx hfs=>B'.chg b o e hx fun q=>?_,fun b o e hx hfs=>B'.chf b o e (by rw [efs]; exact .tail _ hfs),B'.lv⟩
    rw [efs] at q
    rcases List.mem_cons.mp q with q | q
    · exact live ⟨o,e⟩ q
    · exact hfs q
  have g:GNew G G' h h':=⟨B'.gg,fun b o e=>(B'.gn b o e).imp id fun q=>⟨q,B'.gh b o e⟩⟩
  exact ⟨S,g,B.step S g (fun x hx=>⟨(F x hx).1,(F x hx).2.1,fun q=>absurd q (F x hx).2.2.1⟩) fun q=>absurd B.lf (F _ q).2.2.1⟩
theorem lex_leave (B:Base f G h) (LX:LexOk f G h la lx) (hf:env.frame=some L) (LX':LexOk (f.inn h G (XS la lx) L env ck) G' h' la' lx'):LexOk f G' h' la' lx':=by
  have efs:=inn_fs (f:=f) (h:=h) (G:=G) (ck:=ck) (XS la lx) hf
  have F:=xs_facts LX
  have pr:∀ {x:Addr},Priv (f.inn h G (XS la lx) L env ck) x→Priv f x:=fun q=>q.elim (fun q=>(F _ q).2.1) fun q=>.inr (B.freshS q)
  have nf:∀ {x:Addr},x ∉ (f.inn h G (XS la lx) L env ck).fs→x ∉ f.fs:=fun n q=>n (by rw [efs]; exact .tail _ q)
  cases lx' with
  | none=>trivial
  | some l=>
    have r:LexRel (f.inn h G (XS la lx) L env ck) G' h' la' l:=LX'
    exact (show LexRel f G' h' la' l from ⟨r.inst,r.dict,r.gd,nf r.nf,pr r.pr,r.one,fun b hb=>have rb:=r.buf b hb; ⟨rb.at_,rb.gb,nf rb.nf,pr rb.pr⟩,r.has,r.nm⟩)
theorem exc_leave {e:Addr} {m:List UInt8} {tb:Option Value} {X:List Addr} (B:Base f G h) (x:ExcIn (f.inn h G X L env ck) G' h' e m tb):ExcIn f G' h' e m tb:=by
  refine bC fun ng=>?_;obtain ⟨de,vs,sl,es,n,t,h1,h2,h3,h4⟩:=x.obj;refine ng ?_;clear ng
  refine ⟨⟨de,vs,sl,es,n,t,h1,h2,h3,?_⟩,x.ge,B.freshS x.fr⟩
  cases tb with
  | none=>exact h4
  | some fl=>
    refine bC fun ng=>?_;obtain ⟨T,oT,ts,k1,k2,k3,k4,k5,k6,k7⟩:=h4;refine ng ?_;clear ng
    exact ⟨T,oT,ts,k1,k2,k3,k4,k5,k6,B.freshS k7⟩
end
theorem lookup_of_mem {k:Str} {v:Value}:∀ {l:List (Str × Value)},(l.map (·.1)).Nodup→(k,v)∈l→l.lookup k=some v
  | (a,b) :: r,nd,h=>by
    rw [List.map_cons,List.nodup_cons] at nd
    rw [List.lookup_cons]
    rcases List.mem_cons.mp h with q | q
    · injection q with q1 q2
      rw [← q1,beq_self_eq_true]; exact congrArg some q2.symm
    · have:(k == a)=false:=beq_eq_false_iff_ne.mpr fun e=>nd.1 (e ▸ List.mem_map.mpr ⟨_,q,rfl⟩)
      rw [this]
      exact lookup_of_mem nd.2 q
theorem params_rel {P:Params} {G:Froz} {a:Addr} {x:String} {l:LV}:∀ {ps:List String} {vs:List V} {vals:List Value},Reps P G a vs vals→ps.length=vs.length→lkL x (ps.zip (vs.map .v))=some l→
    ∃ V v,l = .v V∧Rep P G a V v∧(Str.ofString x,v)∈(ps.map Str.ofString).zip vals
  | [],_,_,_,_,h=>by cases h
  | p :: ps,[],_,_,hl,_=>by cases hl
  | p :: ps,V :: vs,_,r,hl,h=>by
    cases r with | cons r rs=>
    have h:(if p=x then some (.v V) else lkL x (ps.zip (vs.map .v)))=some l:=h
    by_cases q:p=x
    · rw [if_pos q] at h
      cases h
      exact ⟨V,_,rfl,r,by rw [← q]; exact .head _⟩
    · rw [if_neg q] at h
      obtain ⟨V',v',h1,h2,h3⟩:=params_rel rs (Nat.succ.inj hl) h
      exact ⟨V',v',h1,h2,.tail _ h3⟩
theorem params_own {x:String} {us:List V}:∀ {ps:List String} {vs:List V},lkL x (ps.zip (vs.map .v))≠some (.own us)
  | [],_,h=>by cases h
  | _ :: _,[],h=>by cases h
  | p :: ps,V :: vs,h=>by
    have h:(if p=x then some (.v V) else lkL x (ps.zip (vs.map .v)))=some (.own us):=h
    by_cases q:p=x
    · rw [if_pos q] at h; cases h
    · rw [if_neg q] at h; exact params_own h
structure FnF (P:Params) (fa:Addr) (st:Stmt) (ps:List String) (fd:FuncData):Prop where
  at_:FnAt P fa st fd
  kind:(fScope st).kind = .function
  co:(fScope st).isCoroutine=false
  gen:(fScope st).isGenerator=false
  cells:((fScope st).names.all fun x=>x.2 != .cell)=true
  loc:(ps.all fun n=>(fScope st).names.lookup (Str.ofString n) == some .local)=true
  nodup:(ps.map Str.ofString).Nodup
  binds:∀ S args,args.length=ps.length→peek (KF P) S (bindArgs fd ⟨args,[]⟩)=some ((ps.map Str.ofString).zip args)
noncomputable def BodyOK (sc:Scope) (body:List Stmt) (H:Nat) (ρ:List (String × LV)) (lx:Option Lex) (Q:V→Option Lex→Prop) (Xc:List UInt8→Prop):Prop:=
  ∀ {f:FR} {env:Env} {A:Around} {s:Shared} {G:Froz} {la:LA} {QC EC:Value→Shared→Prop},
    Env0 f sc env A H→A.handled=none→Rel f G la ⟨ρ,lx⟩ s.heap→
    (∀ G' b' lx' v V h' tk',Base f G' h'→LexOk f G' h' { la with b:=b' } lx'→Rep f.c.P G' la.a V v→Q V lx'→QC v { s with heap:=h',toks:=tk' })→
    (∀ G' a' st' e m h' tk',RelE f G' a' st' h' e m→Xc m→EC (.ref e) { s with heap:=h',toks:=tk' })→
    wpG f.c.M A (execs body env) (fun fw s'=>QC (match fw with | .ret v=>v | _=>.none) s') EC s
section
variable {Γ:Specs} {H:Nat}
theorem body_of {sc:Scope} {body:List Stmt} {b:List S} {ps:List String} {vs:List V} {lx:Option Lex} {Q:V→Option Lex→Prop} {Xc:List UInt8→Prop} (hb:SndSs Γ sc H body b) (hΓ:ΓOK Γ H) (hw:wpFn Γ ps b vs lx Q Xc):BodyOK sc body H (ps.zip (vs.map .v)) lx Q Xc:=by
  intro f env A s G la QC EC E0 hh R0 K KE
  refine hb E0 hΓ hh R0 hw.2 (fun G' b' st' fl fw h' tk' ω R' r' q=>?_) fun G' st' e m h' tk' R' hx=>KE G' _ st' e m h' tk' R' hx
  cases fl with
  | next=>
    obtain rfl:=fr_next r'
    exact K G' b' st'.lx .none .none h' tk' R'.base R'.lex .none q
  | brk=>exact q.elim
  | ret V=>
    obtain ⟨_,rfl⟩:=fr_ret r'
    exact K G' b' st'.lx _ V h' tk' R'.base R'.lex r' q
theorem fn_core {f:FR} {A:Around} {s:Shared} {G:Froz} {la:LA} {lx:Option Lex} {ρ:List (String × LV)} {Q:V→Option Lex→Prop} {Xc:List UInt8→Prop} {QC EC:Value→Shared→Prop} {sc:Scope} {body:List Stmt} {env:Env} {L:Addr} {h₀:Heap} {m:Str→Option Value} {tk:Nat} {ck:Option (String × Addr)}
    (ok:f.c.Ok) (B:Base f G s.heap) (LX:LexOk f G s.heap la lx) (hfr:A.frames=some f.envs) (hg:A.guards=some []) (hdep:A.depth+(H+1) < recursionLimit) (hun:A.units+16 * (H+1)+40 < cLine) (hh:A.handled=none)
    (hcl:match ck with
      | none=>∀ y,sc.names.lookup y≠some .cell
      | some (x,c)=>env.cells.lookup (Str.ofString x)=some c∧sc.names.lookup (Str.ofString x)=some .cell∧∀ y,sc.names.lookup y=some .cell→y=Str.ofString x)
    (hk:sc.kind = .function) (hf:env.frame=some L) (hsc:env.scope=sc) (hlo:env.locals=L) (hgl:env.globals=mainGlobals) (hbi:env.builtins=builtinsNs) (hL:s.heap.get? L=none) (hns:∃ m,h₀.Ns L m) (keep:∀ b o,s.heap.get? b=some o→h₀.get? b=some o)
    (hc:∀ p,ck=some p→s.heap.get? p.2=none∧p.2≠L∧Liv h₀ p.2) (hV:View (f.inn s.heap G (XS la lx) L env ck) h₀ m) (hρ:∀ x l,lkL x ρ=some l→∃ V v,l = .v V∧m (Str.ofString x)=some v∧Rep f.c.P G la.a V v)
    (hb:BodyOK sc body H ρ lx Q Xc)
    (K:∀ G' b' lx' v V h' tk',Same f (XS la lx) s.heap h'→GNew G G' s.heap h'→Base f G' h'→LexOk f G' h' { la with b:=b' } lx'→Rep f.c.P G' la.a V v→Q V lx'→QC v { s with heap:=h',toks:=tk' })
    (KE:∀ G' e m h' tk',Same f (XS la lx) s.heap h'→GNew G G' s.heap h'→Base f G' h'→ExcIn f G' h' e m (some .none)→Xc m→EC (.ref e) { s with heap:=h',toks:=tk' }) :
    wpG f.c.M (A.deeper env) (execs body env) (fun fw s'=>QC (match fw with | .ret v=>v | _=>.none) s')
      (fun e s'=>wpG f.c.M (A.deeper env) (leaving env e) (fun ω s''=>EC e s'') (fun e' s''=>EC e' s'') s') { s with heap:=h₀,toks:=tk }:=by
  have oL:∃ o,h₀.get? L=some o∧∀ vs,o.data ≠ .fields vs:=by
    refine bC fun ng=>?_;obtain ⟨_,o,es,ep,ho,hd,_⟩:=hns;refine ng ?_;clear ng
    exact ⟨o,ho,fun vs q=>by rw [hd] at q; cases q⟩
  obtain ⟨B0,L0⟩:=fr_enter (ck:=ck) B LX keep hf (by rw [hsc]; exact hk) hL oL hc
  have R0:Rel (f.inn s.heap G (XS la lx) L env ck) G la ⟨ρ,lx⟩ h₀:=by
    refine ⟨B0,⟨m,hV,⟨fun x l e=>?_,fun x y us ws v ω e1 ω=>?_⟩⟩,L0⟩
    · refine bC fun ng=>?_;obtain ⟨V,v,rfl,h1,h2⟩:=hρ x l e;refine ng ?_;clear ng
      exact ⟨v,h1,h2⟩
    · obtain ⟨V,v,h1,_⟩:=hρ x _ e1
      cases h1
  have E0:Env0 (f.inn s.heap G (XS la lx) L env ck) sc env (A.deeper env) H:=by
    refine ⟨ok,hsc,hk,hlo,hf,hgl,hbi,hcl,⟨f.envs,rfl⟩,?_,hg,?_,?_⟩
    · show A.frames.map _=_
      rw [hfr]; rfl
    · show A.depth+1+H < recursionLimit
      omega
    · show A.units+3+16 * H+40 < cLine
      omega
  refine hb (f:=f.inn s.heap G (XS la lx) L env ck) (s:={ s with heap:=h₀,toks:=tk }) E0 hh R0 (fun G' b' lx' v V h' tk' B' X' r' q=>?_) fun G' a' st' e m h' tk' R' hx=>?_
  · obtain ⟨S1,g1,B1⟩:=fr_leave B LX hf B'
    exact K G' b' lx' v V h' tk' S1 g1 B1 (lex_leave B LX hf X') r' q
  · refine wpG_of ?_
    unfold leaving
    refine wpAny_bind (note_ok (s:={ s with heap:=h',toks:=tk' }) R' E0.frames E0.envs E0.fr fun h2 R2 X2=>?_)
    refine flight_ok (s:={ s with heap:=h2,toks:=tk' }) R2 X2 (.inl rfl) fun h3 R3 X3=>?_
    obtain ⟨S1,g1,B1⟩:=fr_leave B LX hf R3.base
    exact KE G' e m h3 tk' S1 g1 B1 (exc_leave B X3) hx
theorem fn_frame {fa:Addr} {st:Stmt} {ps:List String} {S:Spec} (F:∀ P,∃ fd,FnF P fa st ps fd) (hS:∀ vs lx Q Xc,S vs lx Q Xc→vs.length=ps.length∧BodyOK (fScope st) (fBody st) H (ps.zip (vs.map .v)) lx Q Xc):FnOK fa S (H+1):=by
  intro f A s G la lx vs vals Q Xc QC EC ok B LX hfr hg hdep hun hh r hs K KE
  obtain ⟨fd,F⟩:=F f.c.P
  obtain ⟨hlen,hw⟩:=hS vs lx Q Xc hs
  have hl:=reps_len r
  obtain ⟨c,oc,cvs,ct,q1,q2,q3,q4⟩:=F.at_.code
  have X:(KF f.c.P).In s.heap:=fun b o q=>B.gh b o (B.bg b o (ok.K b o q))
  refine wpG_call (g_call_def (binds:=(ps.map Str.ofString).zip vals) (by omega) (X _ _ F.at_.at_) rfl (Base.noLimit ok B) ⟨c,oc,cvs,ct,q1,X _ _ q2,q3,q4⟩ F.at_.body (kp_binds X fun S=>F.binds S _ (by omega)) (by
      rw [F.at_.scope]; intro x hx q
      have:=List.all_eq_true.mp F.cells x hx
      rw [q] at this; cases this) (by
      rw [F.at_.scope]; intro x hx
      obtain ⟨n,hn,e⟩:=List.mem_map.mp (List.of_mem_zip (a:=x.1) (b:=x.2) hx).1
      rw [← e]
      exact beq_iff_eq.mp (List.all_eq_true.mp F.loc n hn)) (fun h₀ hns keep=>?_) (by rw [F.at_.scope]; exact F.co) (by rw [F.at_.scope]; exact F.gen) (by rw [F.at_.scope]; exact F.kind))
  refine fn_core (ck:=none) (sc:=fScope st) ok B LX hfr hg hdep hun hh (fun y q=>?_) F.kind rfl F.at_.scope rfl F.at_.globals F.at_.builtins (size_new _) ⟨_,hns⟩ keep (fun p q=>nomatch q) (show View _ h₀ _ from hns) (fun x l e=>?_) hw K KE
  · have hm:(y,NameKind.cell)∈(fScope st).names:=mem_of_lookup q
    have:=List.all_eq_true.mp F.cells _ hm
    cases this
  · obtain ⟨V,v,rfl,rv,hm⟩:=params_rel r (by omega) e
    refine ⟨V,v,rfl,?_,rv⟩
    refine lookup_of_mem ?_ (List.mem_reverse.mpr hm)
    rw [List.map_reverse,List.map_fst_zip (by rw [List.length_map]; omega)]
    exact List.pairwise_reverse.mpr (F.nodup.imp fun h=>h.symm)
theorem fn_ok {fa:Addr} {st:Stmt} {ps:List String} {b:List S} {S:Spec} (F:∀ P,∃ fd,FnF P fa st ps fd) (hb:SndSs Γ (fScope st) H (fBody st) b) (hΓ:ΓOK Γ H) (hS:∀ vs lx Q Xc,S vs lx Q Xc→wpFn Γ ps b vs lx Q Xc):FnOK fa S (H+1):=
  fn_frame F fun vs lx Q Xc hs=>⟨(hS vs lx Q Xc hs).1,body_of hb hΓ (hS vs lx Q Xc hs)⟩
end
noncomputable def intTab:List (String × Int):=[("END_OF_TEXT",-1),("FIRST_RESERVED",257),("TK_CONCAT",278),("TK_DOTS",279),("TK_EQ",280),("TK_GE",281),("TK_LE",282),("TK_NE",283),("TK_NUMBER",284),("TK_NAME",285),("TK_STRING",286),("TK_EOS",287),("SOURCE_SIZE",80),("MOST_LINES",2147483645),("NEWLINE",10),("RETURN",13),("QUOTE_DOUBLE",34),("QUOTE_SINGLE",39),("PLUS",43),("MINUS",45),("DOT",46),("LESS",60),("EQUALS",61),("GREATER",62),("BRACKET_OPEN",91),("BACKSLASH",92),("BRACKET_CLOSE",93),("UNDERSCORE",95),("TILDE",126)]
noncomputable def fnTab:List (String × Addr):=[("is_number",96),("wrap",103),("is_blank_values",110),("digit_of",117),("read_digits",124),("skip_blanks",131),("str_to_number",138),("text_in_base",145),("number_text",152),("to_text",159),("c_text",166),("first_line",173),("chunk_id",180),("is_digit",189),("is_letter",196),("is_name_sign",203),("is_blank_lexer",210),("is_control",217),("is_newline",224),("escaped_sign",231),("reserved_kinds",238),("token_text",245),("all_tokens",476),("_law_shown",484),("_law_plain",491),("_law_peeked",496)]
noncomputable def mtTab:List (String × Addr):=[("next",287),("lookahead",294),("error",301),("syntax_error",308),("near_text",315),("move",322),("keep",329),("keep_and_move",336),("keep_if",343),("clear",350),("end_line",357),("read",364),("skip_blank",371),("sign_behind",378),("skip_comment",385),("read_compared",392),("read_dots",399),("read_word",406),("read_numeral",413),("read_bracket",420),("read_level",427),("read_long",434),("read_inner",441),("read_string",448),("read_escape",455),("read_digits",462)]
noncomputable def dbg (n:String):Bool:=Str.ofString n == ("__debug__" : Str)
noncomputable def isGl (sc:Scope) (n:String):Bool:=sc.names.lookup (Str.ofString n) == some .globalImplicit
theorem mem_lk {α β:Type} [BEq α] [LawfulBEq α] {k:α} {v:β}:∀ {l:List (α × β)},l.lookup k=some v→(k,v)∈l
  | [],h=>by cases h
  | (a,b) :: r,h=>by
    rw [List.lookup_cons] at h
    cases q:k == a with
    | true=>rw [q] at h; cases h; rw [beq_iff_eq.mp q]; exact .head _
    | false=>rw [q] at h; exact .tail _ (mem_lk h)
theorem int_glob (P:Params):(intTab.all fun p=>match nsIn (KF P) mainGlobals (Str.ofString p.1) with | some (some (.int i _))=>i == p.2 | _=>false)=true:=by kernel_rfl
theorem grep_int {n:String} {i:Int} (h:intTab.lookup n=some i):GRep (Str.ofString n) (.int i):=by
  intro c G a ok hG
  have h1:=List.all_eq_true.mp (int_glob c.P) (n,i) (mem_lk h)
  dsimp only at h1
  cases q:nsIn (KF c.P) mainGlobals (Str.ofString n) with
  | none=>rw [q] at h1; cases h1
  | some o=>
    cases o with
    | none=>rw [q] at h1; cases h1
    | some v=>
      cases v with
      | int j t=>
        rw [q] at h1
        rw [← beq_iff_eq.mp h1]
        exact ⟨_,mg_of ok.K ok.g q,.int j t⟩
      | _=>rw [q] at h1; cases h1
theorem reps_byts {P:Params} {G:Froz} {a:Addr}:∀ {l:List (List UInt8)} {vs:List Value},All2 (fun b v=>∃ t,v = .bytes b.toArray t) l vs→Reps P G a (l.map .byt) vs
  | [],_,h=>by cases h; exact .nil
  | _ :: _,_,h=>by
    cases h with | cons h r=>
    obtain ⟨t,rfl⟩:=h
    exact .cons (.byt _ t) (reps_byts r)
theorem grep_lst {n:String} {d:Addr} {l:List (List UInt8)} (o:Params→Obj) (h:∀ P,nsIn (KF P) mainGlobals (Str.ofString n)=some (some (.ref d))∧(KF P).lookup d=some (o P)) (vs:List Value) (k:Nat) (ho:∀ P,o P=lisObj vs k) (hl:All2 (fun b v=>∃ t,v = .bytes b.toArray t) l vs):GRep (Str.ofString n) (cByt l):=by
  intro c G a ok hG
  exact ⟨_,mg_of ok.K ok.g (h _).1,.lst (hG _ _ ((ho c.P) ▸ ok.K _ _ (h c.P).2)) (reps_byts hl)⟩
theorem grep_reserved:GRep (Str.ofString "RESERVED") (cByt vReserved):=
  grep_lst (d:=181) o181 (fun P=>⟨by kernel_rfl,by kernel_rfl⟩) _ _ (fun ω=>rfl) (by repeat (first | exact .nil | refine .cons ⟨_,rfl⟩ ?_))
theorem grep_others:GRep (Str.ofString "OTHER_TEXTS") (cByt vOthers):=
  grep_lst (d:=182) o182 (fun P=>⟨by kernel_rfl,by kernel_rfl⟩) _ _ (fun ω=>rfl) (by repeat (first | exact .nil | refine .cons ⟨_,rfl⟩ ?_))
theorem grep_blanks:GRep (Str.ofString "BLANKS") (.byt vBlanks):=fun c G a ok hG=>⟨_,mg_of ok.K ok.g (show nsIn (KF c.P) mainGlobals (Str.ofString "BLANKS")=some (some (.bytes vBlanks.toArray 196)) by kernel_rfl),.byt _ _⟩
noncomputable def gVal (n:String):Option V:=
  match intTab.lookup n with
  | some i=>some (.int i)
  | none=>if n = "RESERVED" then some (cByt vReserved) else if n = "OTHER_TEXTS" then some (cByt vOthers) else if n = "BLANKS" then some (.byt vBlanks) else none
theorem gVal_ok {n:String} {V:V} (h:gVal n=some V):GRep (Str.ofString n) V:=by
  unfold gVal at h
  cases q:intTab.lookup n with
  | some i=>rw [q] at h; cases h; exact grep_int q
  | none=>
    rw [q] at h
    dsimp only at h
    by_cases h1:n = "RESERVED"
    · rw [if_pos h1] at h; cases h; exact h1 ▸ grep_reserved
    rw [if_neg h1] at h
    by_cases h2:n = "OTHER_TEXTS"
    · rw [if_pos h2] at h; cases h; exact h2 ▸ grep_others
    rw [if_neg h2] at h
    by_cases h3:n = "BLANKS"
    · rw [if_pos h3] at h; cases h; exact h3 ▸ grep_blanks
    rw [if_neg h3] at h; cases h
theorem fn_glob (P:Params):(fnTab.all fun p=>nsIn (KF P) mainGlobals (Str.ofString p.1) == some (some (.ref p.2)) && keepIn (KF P) (.ref p.2))=true:=by kernel_rfl
theorem mt_glob (P:Params):(mtTab.all fun p=>findIn (KF P) (.ref aLex) (Str.ofString p.1) == some (some (.ref p.2)) && (typeIn (KF P) (.ref p.2) == some (.type "function") && (keepIn (KF P) (.ref p.2) && flds.all fun n=>!(Str.ofString n == Str.ofString p.1))))=true:=by kernel_rfl
noncomputable def biTab:List (String × Value):=[("len",.builtin "len"),("abs",.builtin "abs"),("bytes",.type "bytes"),("isinstance",.builtin "isinstance"),("int",.type "int"),("bool",.type "bool")]
theorem bi_glob (P:Params):(biTab.all fun p=>nsIn (KF P) mainGlobals (Str.ofString p.1) == some none)=true:=by kernel_rfl
theorem bi_boot:(biTab.all fun p=>bootBuiltins (Str.ofString p.1) == some p.2)=true:=by kernel_rfl
theorem bi_facts {n:String} {v:Value} (h:biTab.lookup n=some v):(∀ P,nsIn (KF P) mainGlobals (Str.ofString n)=some none)∧bootBuiltins (Str.ofString n)=some v:=by
  refine ⟨fun P=>?_,?_⟩
  · exact beq_iff_eq.mp (List.all_eq_true.mp (bi_glob P) (n,v) (mem_lk h))
  · exact beq_iff_eq.mp (List.all_eq_true.mp bi_boot (n,v) (mem_lk h))
noncomputable def isStarred:Expr→Bool
  | .Starred ..=>true
  | _=>false
noncomputable def nameOn (sc:Scope) (line:Nat):Expr→Option Str
  | .Name id pos=>if sc.names.lookup id == some .local && pos.line == line then some id else none
  | _=>none
noncomputable def swR (sc:Scope) (ts vs:List Expr):Option (Option (List Str)):=
  if (!(ts.length == 2 || ts.length == 3) || vs.length != ts.length || (if sc.kind.isAnnotationScope then ScopeKind.function else sc.kind) != .function)=true then some none
  else if vs.any isStarred=true then some none
  else if ((ts.filterMap (nameOn sc ((ts.head?.map (·.pos.line)).getD 0))).length != ts.length || (ts.filterMap (nameOn sc ((ts.head?.map (·.pos.line)).getD 0))).eraseDups.length != (ts.filterMap (nameOn sc ((ts.head?.map (·.pos.line)).getD 0))).length)=true then some none
  else if vs.all (foldedForSure 8)=true then some none
  else if vs.all (constantsAlone 8)=true then none
  else some (some (ts.filterMap (nameOn sc ((ts.head?.map (·.pos.line)).getD 0))))
theorem sw_key (c1 c2 c3 c4 c5:Bool) (N r:Option (List Str)) (h:(if c1=true then some none else if c2=true then some none else if c3=true then some none else if c4=true then some none else if c5=true then none else some N)=some r) :
    (do
      if c1=true then return none
      if c2=true then return none
      if c3=true then return none
      if c4=true then return none
      if c5=true then unsupported "assign.tuple-of-constant-expressions:order-of-the-stores"
      return N:Sem (Option (List Str)))=pure r:=by
  cases c1 <;> cases c2 <;> cases c3 <;> cases c4 <;> cases c5 <;> cases h <;> rfl
theorem swR_ok {sc:Scope} {ts vs:List Expr} {k k':Nat} {p p':Pos} {r:Option (List Str)} (h:swR sc ts vs=some r):swapOf sc [.Tuple ts k p] (.Tuple vs k' p') r:=fun env he=>by
  subst he
  exact sw_key _ _ _ _ _ _ _ h
section
variable {w:World} {A:Around} {E:Value→Shared→Prop} {s:Shared} {env:Env}
theorem comp_go {elt iter:Expr} {x:Str} {px pos:Pos} {ifs:List Expr} {scope:Scope} {cl:List (Str × Addr)} {Q:Value→Shared→Prop} (p:Value→Bool) (F:Value→Value→Prop) (hh:A.handled=none)
    (hclos:closureFor scope env=pure cl) (hcell:∀ y∈scope.names,y.2 ≠ .cell) (hkind:scope.kind = .function) (hnames:∀ y∈scope.names,y.2 = .local→scope.names.lookup y.1=some .local) (hx:scope.names.lookup x=some .local)
    (h:wpAny (model pw w) A (eval iter env) (fun xv s₁=>∃ ax ws n,xv = .ref ax∧s₁.heap.get? ax=some (lisObj ws n)∧ws.length≤16777216∧
      (∀ C v s₃ m₃ E',v∈ws→s₃.heap.Ns C m₃→m₃ x=some v→(∀ b o,s₁.heap.get? b=some o→s₃.heap.get? b=some o)→
        wpAny (model pw w) A (forIn ifs true fun c r=>if r=true then do let ok ← isTrue c (compEnvC scope cl C env) (eval c (compEnvC scope cl C env)); pure (ForInStep.yield ok) else pure (ForInStep.yield r)) (fun ok s₄=>ok=p v∧Keeps s₃ s₄) E' s₃)∧
      (∀ C v s₃ m₃ E',v∈ws→p v=true→s₃.heap.Ns C m₃→m₃ x=some v→(∀ b o,s₁.heap.get? b=some o→s₃.heap.get? b=some o)→
        wpAny (model pw w) A (eval elt (compEnvC scope cl C env)) (fun y s₄=>F v y∧Keeps s₃ s₄) E' s₃)∧
      (∀ D h' tk ys n',s₁.heap.get? D=none→h'.get? D=some (lisObj ys n')→Paired F (ws.filter p) ys→(∀ b o,s₁.heap.get? b=some o→h'.get? b=some o)→Q (.ref D) { s₁ with heap:=h',toks:=tk })) E s)
    (hs:∀ x,foldedSetIterable iter env x=pure x:=by intro _; rfl):wpAny (model pw w) A (eval (.ListComp elt [⟨.Name x px,iter,ifs,0⟩] scope pos) env) Q E s:=by
  refine wpAny_ListComp_free p F hclos hcell hkind hnames hx (wpAny_mono h (fun xv s₁ h₁=>?_) fun ω ω e=>e) hs
  refine bC fun ng=>?_;obtain ⟨ax,ws,n,rfl,hl,hz,ht,he,hQ⟩:=h₁;refine ng ?_;clear ng
  refine wpAny_pyIter_list ⟨_,hl,rfl,_,rfl⟩ ?_
  have hne:ax≠s₁.heap.objs.size:=Nat.ne_of_lt (Heap.lt_size hl)
  have kp:∀ b o,s₁.heap.get? b=some o→(s₁.heap.push { cls:=.type "list_iterator",data:=.fields #[.ref ax,.int 0 0] }).get? b=some o:=fun b o e=>Heap.get?_push_of_some _ e
  have live:∀ b o,s₁.heap.get? b=some o→b ∉ [s₁.heap.objs.size]:=fun b o e q=>by
    have:=Heap.lt_size e
    rw [List.mem_singleton.mp q] at this
    exact absurd this (Nat.lt_irrefl _)
  refine ⟨s₁.heap.objs.size,_,_,_,_,_,rfl,Walks.list hh s₁.heap.objs.size ax hne ws.toArray,by rw [List.size_toArray,sizeLine_eq]; exact hz,⟨⟨_,Heap.get?_push_size _ rfl,rfl,rfl⟩,⟨_,kp _ _ hl,rfl,_,rfl⟩⟩,fun b hb=>?_,⟨fun C i v s₃ m₃ E' ω hv hn hm hk ω=>?_,fun C i v s₃ m₃ E' ω hv hp hn hm hk ω=>?_⟩,fun D h' tk ys vs hD ω hpl hlen hP hF hk=>?_⟩
  · rw [Heap.size_push]
    rcases List.mem_cons.mp hb with rfl | hb
    · exact Nat.lt_succ_self _
    · rw [List.mem_singleton.mp hb]; exact Nat.lt_succ_of_lt (Heap.lt_size hl)
  · have hv:ws.toArray[i]? = some v:=hv
    rw [List.getElem?_toArray] at hv
    exact ht C v s₃ m₃ E' (List.mem_of_getElem? hv) hn hm fun b o e=>hk b o (live b o e) (kp b o e)
  · have hv:ws.toArray[i]? = some v:=hv
    rw [List.getElem?_toArray] at hv
    exact he C v s₃ m₃ E' (List.mem_of_getElem? hv) hp hn hm fun b o e=>hk b o (live b o e) (kp b o e)
  · have hvs:vs=ws:=by
      apply List.ext_getElem?
      intro j
      cases q:vs[j]? with
      | some v=>
        have hv:ws.toArray[j]? = some v:=hP j v q
        rw [List.getElem?_toArray] at hv
        exact hv.symm
      | none=>
        have h1:=List.getElem?_eq_none_iff.mp q
        rw [hlen,List.size_toArray] at h1
        exact (List.getElem?_eq_none_iff.mpr h1).symm
    subst hvs
    obtain ⟨n',hpl⟩:=hpl
    have hD':s₁.heap.get? D=none:=by
      cases q:s₁.heap.get? D with
      | none=>rfl
      | some o=>have:=(kp D o q).symm.trans hD; cases this
    exact hQ D h' tk ys.toList n' hD' (by simpa using hpl) hF fun b o e=>hk b o (live b o e) (kp b o e)
theorem no_tests {c:Expr→Bool→Sem (ForInStep Bool)} {Q:Bool→Shared→Prop} (h:Q true s):wpAny (model pw w) A (forIn ([]:List Expr) true c) Q E s:=by
  rw [List.forIn_nil]; exact wpAny_pure h
end
theorem reps_ints {P:Params} {G:Froz} {a:Addr}:∀ {ns:List Int} {vs:List Value},Reps P G a (ns.map .int) vs→IntsAre vs ns
  | [],_,h=>by cases h; exact .nil
  | n :: ns,_,h=>by
    cases h with | cons r rs=>
    obtain ⟨t,rfl⟩:=rInt r; exact .cons n t (reps_ints rs)
theorem ints_mem {vs:List Value} {ns:List Int} (h:IntsAre vs ns) {v:Value} (hv:v∈vs):∃ i t,v = .int i t:=by
  induction h with
  | nil=>nomatch hv
  | cons i t _ ih=>
    rcases List.mem_cons.mp hv with rfl | hv
    · exact ⟨i,t,rfl⟩
    · exact ih hv
def ElF (φ:Int→V) (v y:Value):Prop:=∃ i t,v = .int i t∧∀ P G a,Rep P G a (φ i) y
theorem paired_reps {P:Params} {G:Froz} {a:Addr} {φ:Int→V} {vs:List Value} {ns:List Int} (h:IntsAre vs ns):∀ {ys:List Value},Paired (ElF φ) vs ys→Reps P G a (ns.map φ) ys:=by
  induction h with
  | nil=>intro ys h; cases h; exact .nil
  | cons i t _ ih=>
    intro ys h
    cases h with | cons h r=>
    obtain ⟨j,u,q,hr⟩:=h
    cases q
    exact .cons (hr _ _ _) (ih r)
noncomputable def scOk (scope:Scope) (n:String):Bool:=
  scope.kind == .function && ((scope.names.all fun y=>y.2 != .free && (y.2 != .cell && (y.2 != .local || scope.names.lookup y.1 == some .local))) && (scope.names.lookup (Str.ofString n) == some .local && !dbg n))
theorem scOk_ok {scope:Scope} {n:String} (h:scOk scope n=true):scope.kind = .function∧(∀ y∈scope.names,y.2 ≠ .free)∧(∀ y∈scope.names,y.2 ≠ .cell)∧(∀ y∈scope.names,y.2 = .local→scope.names.lookup y.1=some .local)∧scope.names.lookup (Str.ofString n)=some .local∧dbg n=false:=by
  unfold scOk at h
  simp only [Bool.and_eq_true,List.all_eq_true,beq_iff_eq,bne_iff_ne,Bool.or_eq_true,Bool.not_eq_true'] at h
  obtain ⟨h1,h2,h3,h4⟩:=h
  exact ⟨h1,fun y hy=>(h2 y hy).1,fun y hy=>(h2 y hy).2.1,fun y hy q=>(h2 y hy).2.2.resolve_left fun k=>k q,h3,h4⟩
section
variable {w:World} {A:Around} {E:Value→Shared→Prop} {s:Shared} {env:Env}
theorem comp_name {scope:Scope} {cl:List (Str × Addr)} {C:Addr} {n:String} {p:Pos} {m:Str→Option Value} {v:Value} {Q:Value→Shared→Prop} (hk:scope.kind = .function) (hx:scope.names.lookup (Str.ofString n)=some .local) (hd:dbg n=false) (hn:s.heap.Ns C m) (hm:m (Str.ofString n)=some v) (h:Q v s) :
    wpAny (model pw w) A (eval (.Name (Str.ofString n) p) (compEnvC scope cl C env)) Q E s:=
  wpAny_Name (wpAny_loadName_local (show (relabel scope env).kind = .function from hk) (lookup_relabel_local hx) hn hm h) hd
theorem const_int {i:Int} {k:Nat} {p:Pos} {Q:Value→Shared→Prop} (h:Q (.int i s.toks) { s with toks:=s.toks+1 }):wpAny (model pw w) A (eval (.Constant (.int i) k p) env) Q E s:=fun ω ω ω=>h
theorem keeps_tok (s:Shared) (tk:Nat):Keeps s { s with toks:=tk }:=⟨s.heap,tk,rfl,fun ω ω e=>e⟩
end
section
variable {Γ:Specs} {sc:Scope} {H:Nat}
theorem lst_new {f:FR} {s:Shared} {G:Froz} {la:LA} {st:St} {Q:Post} {QC:Value→Shared→Prop} {h1:Heap} {D:Addr} {h':Heap} {tk:Nat} {ys:List Value} {n:Nat} {l:List V} (R:Rel f G la st s.heap) (k1:∀ b o,s.heap.get? b=some o→h1.get? b=some o) (hD:h1.get? D=none) (hd:h'.get? D=some (lisObj ys n)) (kp:∀ b o,h1.get? b=some o→h'.get? b=some o) (hr:∀ P G a,Reps P G a l ys) (hQ:Q (.lst l) st) (K:KX f la s G Q QC):QC (.ref D) { s with heap:=h',toks:=tk }:=by
  have keep:∀ b o,s.heap.get? b=some o→h'.get? b=some o:=fun b o e=>kp b o (k1 b o e)
  have hD0:s.heap.get? D=none:=by
    cases q:s.heap.get? D with
    | none=>rfl
    | some o=>have:=(k1 D o q).symm.trans hD; cases this
  have gn:GNew G (setG G D (lisObj ys n)) s.heap h':=.one (R.base.fresh hD0) hD0 hd
  exact K _ la.b st _ (.lst l) h' tk (.news keep gn) (R.grow (.of_keeps keep) gn) (.lst (setG_at _ _ _) (hr _ _ _)) hQ
theorem snd_divE {n y:String} {scope:Scope} {np px yp kp bp pos:Pos} {k:Nat} (hk:isLoc sc y=true) (hd:dbg y=false) (hs:scOk scope n=true) :
    Snd Γ sc H (.ListComp (.BinOp (.Name (Str.ofString n) np) .FloorDiv (.Constant (.int 24) k kp) bp) [⟨.Name (Str.ofString n) px,.Name (Str.ofString y) yp,[],0⟩] scope pos) (.divE y):=by
  intro f env A s G la st Q Xc QC EC E0 hΓ hq R hw K KE
  rw [w_divE] at hw
  have hq:A.handled=none:=hq.resolve_left (fun e=>Bool.noConfusion (show false=true from e))
  obtain ⟨ns,hx,hz,hQ⟩:=hw
  refine bC fun ng=>?_;obtain ⟨s1,s2,s3,s4,s5,s6⟩:=scOk_ok hs;refine ng ?_;clear ng
  obtain ⟨m,hV,hL⟩:=R.loc
  obtain ⟨v,hv,rv⟩:=hL.rel y _ hx
  have rv:Rep f.c.P G la.a (.lst (ns.map .int)) v:=rv
  refine bC fun ng=>?_;obtain ⟨ax,nn,ws,rfl,hg,rs⟩:=rLst rv;refine ng ?_;clear ng
  have hi:=reps_ints rs
  have hl:=reps_len rs
  rw [List.length_map] at hl
  refine wpG_of (comp_go (fun ω=>true) (ElF fun i=>.int (i.fdiv 24)) hq (closureFor_none s2) s3 s1 s4 s5 (wpAny_Name (load_ok E0 hV hk hv ⟨ax,ws,nn,rfl,R.base.gh _ _ hg,by omega,fun C v s₃ m₃ E' ω ω ω ω=>no_tests ⟨rfl,keeps_tok s₃ s₃.toks⟩,fun C v s₃ m₃ E' hv ω hn hm ω=>?_,fun D h' tk ys n' hD hd hp kp=>?_⟩) hd))
  · obtain ⟨i,t,rfl⟩:=ints_mem hi hv
    refine wpAny_BinOp (comp_name s1 s5 s6 hn hm (const_int ?_))
    exact floordiv_int (by decide) ⟨⟨i,t,rfl,fun ω ω ω=>.int _ _⟩,keeps_tok s₃ _⟩ (.inl (PyProof.noPylong_small (by decide)))
  · rw [List.filter_eq_self.mpr fun ω ω=>rfl] at hp
    have e:(ns.map fun n=>n.fdiv 24).map V.int=ns.map fun i=>V.int (i.fdiv 24):=by rw [List.map_map]; rfl
    rw [e] at hQ
    exact lst_new R (fun ω ω e=>e) hD hd kp (fun P G a=>paired_reps hi hp) hQ K
end
section
open Builtin Builtin.Bytes
theorem slot_bytes_join:Slot "bytes" "join" "bytes.join":=
  .of (owner:="bytes") (n:="join") (by rw [typeLookup_type,builtinLookup_eq_fast]; kernel_rfl) (by decide +kernel) (by decide +kernel) (by decide +kernel)
    (by first | exact .inl (by decide +kernel) | exact .inr (by decide +kernel)) (by rw [isSubtype_type]; kernel_rfl)
theorem entry_bytes_join:entryFor table "bytes.join" = some Builtin.«bytes.join»:=entryFor_of_tree (by kernel_rfl)
theorem args_bytes_join (a b:Value):argsOk "bytes.join" ⟨[a,b],[]⟩:=by unfold argsOk; kernel_rfl
theorem type_bytes_join:typeOf (.builtin "bytes.join")=pure (.type "method_descriptor"):=by show builtinType _=_; rw [builtinType_eq_fast]; kernel_rfl
theorem take_eq {id:String} {b:Array UInt8} {t:Tok}:takeBufferQuiet? id (.bytes b t) 0=pure (some (b,none)):=by
  have h:takeBuffer? id (.bytes b t) 0=pure (some (b,none)):=by
    unfold takeBuffer?
    rw [KBy.special_eq KBy.look_buffer,KBy.own_buffer]
    refine Eq.trans (b:=buffer? id (.bytes b t) (0 == fullReadOnly) >>= fun r=>pure (r.map (·,none))) (by kernel_rfl) ?_
    rw [show ((0:Int) == fullReadOnly)=false by decide,KBy.buffer_eq]
    rfl
  unfold takeBufferQuiet?
  rw [h]
  rfl
theorem joined_eq (parts:List (List UInt8)):joined #[] (parts.map List.toArray)=parts.flatten.toArray:=by
  unfold joined
  have key:∀ (ps:List (List UInt8)) (k:Nat) (acc:Array UInt8),((ps.map List.toArray).zipIdx k).foldl (fun out (p,i)=>(if i > 0 then out++(#[]:Array UInt8) else out)++p) acc=acc++ps.flatten.toArray:=by
    intro ps
    induction ps with
    | nil=>intro k acc; simp
    | cons p r ih=>
      intro k acc
      rw [List.map_cons,List.zipIdx_cons,List.foldl_cons,ih]
      have:(if k > 0 then acc++(#[]:Array UInt8) else acc)=acc:=by split <;> simp
      dsimp only
      rw [this]
      simp
  rw [key]; simp
theorem sum_le (parts:List (List UInt8)) (hz2:∀ p∈parts,p.length≤1000):∀ k:Nat,(parts.map List.toArray).foldl (fun x1 x2=>x1+x2.size) k≤k+1000 * parts.length:=by
  induction parts with
  | nil=>intro k; simp
  | cons p r ih=>
    intro k
    rw [List.map_cons,List.foldl_cons]
    have h1:=hz2 p (.head _)
    have h2:=ih (fun q hq=>hz2 q (.tail _ hq)) (k+p.toArray.size)
    rw [List.size_toArray] at h2 ⊢
    rw [List.length_cons]
    omega
theorem flat_le (parts:List (List UInt8)) (hz2:∀ p∈parts,p.length≤1000):parts.flatten.length≤1000 * parts.length:=by
  induction parts with
  | nil=>simp
  | cons p r ih=>
    have h1:=hz2 p (.head _)
    have h2:=ih fun q hq=>hz2 q (.tail _ hq)
    rw [List.flatten_cons,List.length_append,List.length_cons]
    omega
section
variable {w:World} {A:Around} {E:Value→Shared→Prop} {s:Shared}
theorem letGo_go {M:Model} {Q:Unit→Shared→Prop} {later:List Value} (h:Q () s):∀ l:List Value,wpAny M A (letGo l later) Q E s
  | []=>wpAny_pure h
  | _ :: r=>by
    unfold letGo
    exact wpAny_bind (wpAny_holding (wpAny_point (letGo_go h r)))
theorem joinLetGo_go {M:Model} {keep:List Value}:∀ (l:List Value) {Q:Unit→Shared→Prop},Q () s→wpAny M A (joinLetGo (l.map fun v=>(v,none)) keep) Q E s
  | [],_,h=>wpAny_pure h
  | v :: r,Q,h=>by
    rw [List.map_cons]
    unfold joinLetGo
    exact wpAny_bind (letGo_go (joinLetGo_go r h) _)
abbrev IsPc (p:List UInt8) (v:Value):Prop:=∃ t,v = .bytes p.toArray t
theorem all2_get {α β:Type} {R:α→β→Prop} {as:List α} {bs:List β} (h:All2 R as bs):∀ {i:Nat} (hi:i < bs.length),∃ a,as[i]? = some a∧R a bs[i]:=by
  induction h with
  | nil=>intro i hi; exact absurd hi (Nat.not_lt_zero _)
  | cons h _ ih=>
    intro i hi
    cases i with
    | zero=>exact ⟨_,rfl,h⟩
    | succ i=>
      obtain ⟨a,h1,h2⟩:=ih (Nat.lt_of_succ_lt_succ hi)
      exact ⟨a,by simpa using h1,by simpa using h2⟩
theorem one_ne {α:Type} {items:Array Value} {h1:Value→α} {h2:Array Value→α} (h:¬ items.size=1):joinM.match_1 (fun ω=>α) items h1 h2=h2 items:=by
  unfold joinM.match_1
  rw [dif_neg h]
theorem one_eq {α:Type} {x:Value} {h1:Value→α} {h2:Array Value→α}:joinM.match_1 (fun ω=>α) #[x] h1 h2=h1 x:=rfl
theorem join_go {R:PySem.Fin→Shared→Prop} {ax:Addr} {ws:List Value} {n:Nat} {t:Tok} {parts:List (List UInt8)} (hl:s.heap.get? ax=some (lisObj ws n)) (hp:All2 IsPc parts ws) (hne:ws≠[]) (hz:parts.length≤1000) (hz2:∀ p∈parts,p.length≤1000)
    (h:∀ u tk,R (.done (.ret (.bytes parts.flatten.toArray u))) { s with toks:=tk }):wpAny (model pw w) A (Builtin.«bytes.join» ⟨[.bytes #[] t,.ref ax],[]⟩) R E s:=by
  unfold Builtin.«bytes.join» joinM
  refine wpAny_bind (wpAny_of_eq (a:=(.bytes #[] t,.ref ax)) rfl ?_)
  have hT:s.TypeIs (.ref ax) "list":=⟨_,hl,rfl⟩
  refine wpAny_bind ?_
  show wpAny _ _ (joinItems (.ref ax)) _ _ _
  unfold joinItems
  refine wpAny_bind (wpAny_typeOf hT ?_)
  refine bm_if_true (by decide) ?_
  refine wpAny_pure ?_
  refine wpAny_bind (wpAny_seqItems hl rfl ?_)
  refine bm_if_true rfl ?_
  have hlen:=all2_len hp
  by_cases h1:ws.toArray.size=1
  · obtain ⟨x,e⟩:∃ x,ws=[x]:=List.length_eq_one_iff.mp (by simpa using h1)
    subst e
    rw [show ([x]:List Value).toArray = #[x] from rfl,one_eq]
    cases hp with | @cons p _ ps _ hx hr=>
    cases hr
    obtain ⟨u,rfl⟩:=hx
    refine wpAny_bind (wpAny_typeOf (typeIs_bytes _ _ _) ?_)
    refine bm_if_true (by decide) ?_
    refine wpAny_bind (wpAny_rule ?_)
    refine wpAny_pure ?_
    have:=h u s.toks
    simpa using this
  · rw [one_ne h1]
    dsimp only
    rw [Std.Legacy.Range.forIn_eq_forIn_range']
    refine wpAny_bind (wpAny_forIn_list _ (fun rest st s'=>s'=s∧∃ i,rest=List.range' i (ws.length - i)∧i≤ws.length∧st.1.toList=(parts.take i).map List.toArray∧st.2=(ws.take i).map fun v=>(v,none)) _ ?_ ?_ _ _ ⟨rfl,0,by simp [Std.Legacy.Range.size],Nat.zero_le _,rfl,rfl⟩)
    · intro x rest st s' hI
      refine Classical.byContradiction fun ng=>?_
      obtain ⟨ps,tk⟩:=st
      obtain ⟨rfl,i,hr,hi,k1,k2⟩:=hI
      obtain ⟨m,hm⟩:∃ m,ws.length - i=m+1:=by
        cases q:ws.length - i with
        | zero=>rw [q] at hr; cases hr
        | succ m=>exact ⟨m,rfl⟩
      rw [hm,List.range'_succ] at hr
      injection hr with hx hr
      subst hx
      have hlt:x < ws.length:=by omega
      obtain ⟨p,hp1,u,hp2⟩:=all2_get hp hlt
      refine ng ?_
      clear ng
      refine wpAny_bind (wpAny_seqItems hl rfl ?_)
      have ex:ws.toArray.getD x .none = .bytes p.toArray u:=by
        rw [← hp2]; simp [hlt]
      have eany:(tk.any fun x=>x.1.onHeap)=false:=by
        rw [show tk=_ from k2,List.any_map,List.any_eq_false]
        intro v hv
        obtain ⟨j,hj,e⟩:=List.mem_iff_getElem.mp (List.mem_of_mem_take hv)
        obtain ⟨q,_,u',hq⟩:=all2_get hp hj
        rw [← e,hq]
        exact Bool.false_ne_true
      dsimp only
      rw [ex]
      refine bm_if_false (by rw [eany]; rfl) ?_
      refine wpAny_bind (wpAny_holding (wpAny_of_eq take_eq ?_))
      refine wpAny_bind (wpAny_seqItems hl rfl ?_)
      refine bm_if_false (by simp) ?_
      refine wpAny_pure ⟨rfl,x+1,?_,hlt,?_,?_⟩
      · rw [hr]; congr 1; omega
      · rw [Array.toList_push,show ps.toList=_ from k1,List.take_add_one,hp1]
        simp
      · rw [show tk=_ from k2,List.take_add_one,List.getElem?_eq_getElem hlt,hp2]
        simp
    · intro st s' hI
      refine Classical.byContradiction fun ng=>?_
      obtain ⟨ps,tk⟩:=st
      obtain ⟨rfl,i,hr,hi,k1,k2⟩:=hI
      have hii:i=ws.length:=by
        cases q:ws.length - i with
        | zero=>omega
        | succ m=>rw [q,List.range'_succ] at hr; cases hr
      subst hii
      rw [← hlen,List.take_length] at k1
      rw [List.take_length] at k2
      have eps:ps=(parts.map List.toArray).toArray:=by
        rw [← k1]
      have etk:tk=ws.map fun v=>(v,none):=k2
      subst eps
      subst etk
      refine ng ?_
      clear ng
      refine wpAny_bind (wpAny_of_eq (a:=#[]) rfl ?_)
      have hsum:=sum_le parts hz2 0
      refine bm_if_false ?_ ?_
      · refine KBy.tooLong_not ?_
        rw [List.foldl_toArray]
        refine Nat.le_trans (sum_le parts hz2 _) ?_
        rw [show (#[]:Array UInt8).size=0 from rfl,Nat.zero_mul]
        omega
      rw [List.toList_toArray,joined_eq]
      refine wpAny_bind (wpAny_mkBytes ?_ ?_)
      · refine wpAny_bind (wpAny_holding (wpAny_point ?_))
        refine wpAny_bind (joinLetGo_go _ ?_)
        exact wpAny_pure (h _ _)
      · rw [List.size_toArray,sizeLine_eq]
        have:=flat_le parts hz2
        omega
end
end
theorem lookup_relabel_glob {env:Env}:∀ {names:List (Str × NameKind)} {x:Str},names.lookup x=some .globalImplicit→
    (names.map fun (n,k)=>if (k == NameKind.free && env.scope.kind == .function && env.kindOf n == some .cell) then (n,NameKind.cell) else (n,k)).lookup x=some .globalImplicit
  | [],_,h=>by cases h
  | (n,k) :: r,x,h=>by
    have ih:=@lookup_relabel_glob env r x
    show List.lookup x ((if (k == NameKind.free && env.scope.kind == .function && env.kindOf n == some .cell)=true then (n,NameKind.cell) else (n,k)) :: _)=_
    rw [List.lookup_cons] at h
    cases hx:x == n with
    | true=>
      rw [hx] at h
      cases h
      rw [if_neg (by simp),List.lookup_cons,hx]
    | false=>
      rw [hx] at h
      by_cases hc:(k == NameKind.free && env.scope.kind == .function && env.kindOf n == some .cell)=true
      · rw [if_pos hc,List.lookup_cons,hx]; exact ih h
      · rw [if_neg hc,List.lookup_cons,hx]; exact ih h
section
variable {w:World} {A:Around} {E:Value→Shared→Prop} {s:Shared} {env:Env}
theorem a_Subscript {value slice:Expr} {pos:Pos} {Q:Value→Shared→Prop} (h:wpAny (model pw w) A (eval value env) (fun o s₁=>wpAny (model pw w) A (eval slice env) (fun i s₂=>wpAny (model pw w) A (subscriptTail value slice o i) Q E s₂) E s₁) E s):wpAny (model pw w) A (eval (.Subscript value slice pos) env) Q E s:=by
  rw [eval_Subscript]
  exact wpAny_bind (wpAny_mono h (fun o s₁ h₁=>wpAny_bind (wpAny_holding (wpAny_mono h₁ (fun i s₂ h₂=>wpAny_bind (wpAny_standAt h₂)) fun ω ω x=>x))) fun ω ω x=>x)
theorem comp_glob {scope:Scope} {cl:List (Str × Addr)} {C:Addr} {x:Str} {p:Pos} {mg:Str→Option Value} {v:Value} {Q:Value→Shared→Prop} (hk:scope.kind = .function) (hx:scope.names.lookup x=some .globalImplicit) (hd:(x == ("__debug__" : Str))=false) (hn:s.heap.Ns env.globals mg) (hm:mg x=some v) (h:Q v s) :
    wpAny (model pw w) A (eval (.Name x p) (compEnvC scope cl C env)) Q E s:=
  Name_function_global (show (relabel scope env).kind = .function from hk) (lookup_relabel_glob hx) (loadGlobal_global hn hm h) hd
theorem comp_bi {scope:Scope} {cl:List (Str × Addr)} {C:Addr} {x:Str} {p:Pos} {mg mb:Str→Option Value} {v:Value} {Q:Value→Shared→Prop} (hk:scope.kind = .function) (hx:scope.names.lookup x=some .globalImplicit) (hd:(x == ("__debug__" : Str))=false) (hn:s.heap.Ns env.globals mg) (hm:mg x=none) (hb:s.heap.Ns env.builtins mb) (hv:mb x=some v) (h:Q v s) :
    wpAny (model pw w) A (eval (.Name x p) (compEnvC scope cl C env)) Q E s:=
  Name_function_global (show (relabel scope env).kind = .function from hk) (lookup_relabel_glob hx) (loadGlobal_builtin hn hm hb hv h) hd
end
theorem pieces_lst:All2 IsPc lawPieces [(.bytes #[97,32] 889),(.bytes #[97,110,100,32] 890),(.bytes #[49,50,32] 891),(.bytes #[48,120,103,32] 892),(.bytes #[43] 893),(.bytes #[46,46] 894),(.bytes #[61] 895),(.bytes #[39,116,39,32] 896),(.bytes #[34,117] 897),(.bytes #[91,91,108,93,93] 898),(.bytes #[91,61,61] 899),(.bytes #[45,45,99,10] 900),(.bytes #[45,45,91,91,100,93,93] 901),(.bytes #[10] 902),(.bytes #[46,46,46] 903),(.bytes #[126,61] 904),(.bytes #[92] 905),(.bytes #[40] 906),(.bytes #[39,92,51,48,48,39,32] 907),(.bytes #[120,49,61] 908),(.bytes #[93,61,61,93,32] 909),(.bytes #[48,120,49,101,32] 910),(.bytes #[91,91,97,91,91] 911),(.bytes #[91,61,91,10,93,61,93] 912)]:=by
  repeat (first | exact .nil | refine .cons ⟨_,rfl⟩ ?_)
theorem pieces_glob (P:Params):nsIn (KF P) mainGlobals (Str.ofString "_law_pieces")=some (some (.ref 477))∧(KF P).lookup 477=some (o477 P):=⟨by kernel_rfl,by kernel_rfl⟩
theorem pieces_obj (c:Cx) (ok:c.Ok):∃ vs n,c.B.get? 477=some (lisObj vs n)∧All2 IsPc lawPieces vs∧c.mg (Str.ofString "_law_pieces")=some (.ref 477):=
  ⟨_,0,ok.K _ _ (pieces_glob c.P).2,pieces_lst,mg_of ok.K ok.g (pieces_glob c.P).1⟩
section
variable {w:World} {A:Around} {E:Value→Shared→Prop} {s:Shared} {env:Env}
theorem a_call1 {f a:Expr} {pos:Pos} {id:String} {Q:Value→Shared→Prop} (hst:starEach [a] env=[(false,eval a env)]) (hf:wpAny (model pw w) A (eval f env) (fun v s₁=>v = .builtin id∧wpAny (model pw w) A (eval a env) (fun u s₂=>wpAny (model pw w) A (call (.builtin id) [u]) Q E s₂) E s₁) E s)
    (he:eval (.Call f [a] [] pos) env=(do callWith pos (← eval f env) [] (backTo pos (starEach [a] env)) (backToKw pos (keywordEach [] env))):=by rfl):wpAny (model pw w) A (eval (.Call f [a] [] pos) env) Q E s:=by
  rw [he]
  refine wpAny_bind (wpAny_mono hf (fun v s₁ h₁=>?_) fun ω ω x=>x)
  obtain ⟨rfl,h₁⟩:=h₁
  rw [hst]
  refine callWith_builtin rfl ?_
  exact evalArgs_plain (spliced_cons (wpAny_mono h₁ (fun u s₂ h₂=>spliced_nil h₂) fun ω ω x=>x))
end
theorem a_join {w:World} {A:Around} {E:Value→Shared→Prop} {s:Shared} {D:Addr} {ys:List Value} {n:Nat} {t:Tok} {parts:List (List UInt8)} {Q:Value→Shared→Prop} (hl:s.heap.get? D=some (lisObj ys n)) (hp:All2 IsPc parts ys) (hne:ys≠[]) (hz:parts.length≤1000) (hz2:∀ p∈parts,p.length≤1000)
    (h:∀ u tk,Q (.bytes parts.flatten.toArray u) { s with toks:=tk }):wpAny (model pw w) A (call (.builtin "bytes.join") [.bytes #[] t,.ref D]) Q E s:=
  wpAny_call_entry slot_bytes_join (typeIs_bytes _ _ _) entry_bytes_join (join_go hl hp hne hz hz2 fun u tk=>⟨_,rfl,h u tk⟩) (args_bytes_join _ _)
theorem elf_pcs {P:Params} {φ:Int→List UInt8} {vs:List Value} {ns:List Int} (h:IntsAre vs ns):∀ {ys:List Value},Paired (ElF fun i=>.byt (φ i)) vs ys→All2 IsPc (ns.map φ) ys:=by
  induction h with
  | nil=>intro ys h; cases h; exact .nil
  | cons i t _ ih=>
    intro ys h
    cases h with | cons h r=>
    obtain ⟨j,u,q,hr⟩:=h
    cases q
    have:=hr P (fun ω=>none) 0
    cases this with | byt _ t'=>exact .cons ⟨t',rfl⟩ (ih r)
theorem piece_len:∀ p∈lawPieces,p.length≤1000:=by decide
theorem all2_at {α β:Type} {R:α→β→Prop} {as:List α} {bs:List β} (h:All2 R as bs) (d:α):∀ {i:Nat},i < as.length→∃ b,bs[i]? = some b∧R (as.getD i d) b:=by
  induction h with
  | nil=>intro i hi; exact absurd hi (Nat.not_lt_zero _)
  | cons h _ ih=>
    intro i hi
    cases i with
    | zero=>exact ⟨_,rfl,h⟩
    | succ i=>
      obtain ⟨b,h1,h2⟩:=ih (Nat.lt_of_succ_lt_succ hi)
      exact ⟨b,by simpa using h1,by simpa using h2⟩
section
variable {Γ:Specs} {sc:Scope} {H:Nat}
theorem call_oneF {f:FR} {env:Env} {A:Around} {s:Shared} {QC EC:Value→Shared→Prop} {fv:Value} {first:List Value} {a:Expr} {pos:Pos} (hf:∀ a,fv ≠ .ref a) (hst:∀ rest,starEach (a :: rest) env=(false,eval a env) :: starEach rest env)
    (ha:wpG f.c.M A (eval a env) (fun u s'=>wpG f.c.M A (call fv (first++[u])) QC EC s') EC s):wpG f.c.M A (callWith pos fv first (backTo pos (starEach [a] env)) []) QC EC s:=by
  rw [hst]
  refine g_callWith rfl (keep_plain hf) ?_
  refine g_evalArgs ?_
  have:=g_more (M:=f.c.M) (A:=A) (E:=EC) (s:=s) (env:=env) (e:=a) (rest:=[]) (pos:=pos) (Q:=fun vs s'=>True∧wpG f.c.M A (call fv (first++vs)) QC EC s') ?_ (hst _)
  · rw [hst] at this; exact this
  refine wpG_mono ha (fun u s' h=>g_none ⟨trivial,h⟩) fun ω ω h=>h
theorem g_constBytes {M:Model} {A:Around} {E:Value→Shared→Prop} {s:Shared} {env:Env} {b:List UInt8} {k:Nat} {p:Pos} {Q:Value→Shared→Prop} (h:Q (.bytes b.toArray s.toks) { s with toks:=s.toks+1 }):wpG M A (eval (.Constant (.bytes b) k p) env) Q E s:=fun ω ω ω ω=>h
set_option maxHeartbeats 2000000 in
theorem snd_joinE {n y:String} {scope:Scope} {cp ap gp np bp c2 sp px yp lp pos:Pos} {k k2:Nat} (hk:isLoc sc y=true) (hd:dbg y=false) (hs:scOk scope n=true) (hg:scope.names.lookup (Str.ofString "_law_pieces")=some .globalImplicit) (ho:methOk (.Constant (.bytes []) k cp) ap pos) :
    Snd Γ sc H (.Call (.Attribute (.Constant (.bytes []) k cp) (Str.ofString "join") ap) [.ListComp (.Subscript (.Name (Str.ofString "_law_pieces") gp) (.BinOp (.Name (Str.ofString n) np) .Mod (.Constant (.int 24) k2 c2) bp) sp) [⟨.Name (Str.ofString n) px,.Name (Str.ofString y) yp,[],0⟩] scope lp] [] pos) (.joinE y):=by
  intro f env A s G la st Q Xc QC EC E0 hΓ hq R hw K KE
  rw [w_joinE] at hw
  have hq:A.handled=none:=hq.resolve_left (fun e=>Bool.noConfusion (show false=true from e))
  refine bC fun ng=>?_;obtain ⟨ns,hx,hne,hz,hQ⟩:=hw;refine ng ?_;clear ng
  refine bC fun ng=>?_;obtain ⟨s1,s2,s3,s4,s5,s6⟩:=scOk_ok hs;refine ng ?_;clear ng
  refine g_meth ho rfl (show 1 < 30 by decide) (g_constBytes ?_)
  refine getMethod_builtin (typeIs_bytes _ _ _) FB.plainAttrs_bytes slot_bytes_join type_bytes_join (fun a q=>nomatch q) ?_
  dsimp only
  refine call_oneF (fun a q=>nomatch q) (fun ω=>rfl) ?_
  refine wpG_of ?_
  obtain ⟨m,hV,hL⟩:=R.loc
  obtain ⟨v,hv,rv⟩:=hL.rel y _ hx
  have rv:Rep f.c.P G la.a (.lst (ns.map .int)) v:=rv
  refine bC fun ng=>?_;obtain ⟨ax,nn,ws,rfl,hgx,rs⟩:=rLst rv;refine ng ?_;clear ng
  have hi:=reps_ints rs
  have hl:=reps_len rs
  rw [List.length_map] at hl
  refine bC fun ng=>?_;obtain ⟨vs,vn,hB,hpc,hmg⟩:=pieces_obj f.c E0.c;refine ng ?_;clear ng
  refine comp_go (fun ω=>true) (ElF fun i=>.byt (lawPieces.getD (i.fmod 24).toNat [])) hq (closureFor_none s2) s3 s1 s4 s5 ?_
  refine wpAny_Name ?_ hd
  refine load_ok (s:={ s with toks:=s.toks+1 }) E0 hV hk hv ?_
  refine ⟨ax,ws,nn,rfl,R.base.gh _ _ hgx,by omega,fun C v s₃ m₃ E' ω ω ω ω=>no_tests ⟨rfl,keeps_tok s₃ s₃.toks⟩,fun C v s₃ m₃ E' hv ω hn hm hk3=>?_,fun D h' tk ys n' hD hdd hp kp=>?_⟩
  · obtain ⟨i,t,rfl⟩:=ints_mem hi hv
    have gl:s₃.heap.Ns mainGlobals f.c.mg:=(R.base.ns E0.c.g).keeps hk3
    refine a_Subscript (comp_glob s1 hg (by rfl) (by rw [E0.gl]; exact gl) hmg ?_)
    refine wpAny_BinOp (comp_name s1 s5 s6 hn hm (const_int ?_))
    refine mod_int' (by decide) ?_
    have h1:0≤i.fmod 24:=Int.fmod_nonneg_of_pos _ (by decide)
    have h2:i.fmod 24 < 24:=Int.fmod_lt_of_pos _ (by decide)
    have hlen:lawPieces.length=24:=by decide
    obtain ⟨b,hb1,t',hb2⟩:=all2_at hpc [] (i:=(i.fmod 24).toNat) (by rw [hlen]; omega)
    have hvl:=all2_len hpc
    have hob:s₃.heap.get? 477=some (lisObj vs vn):=hk3 _ _ (R.base.keeps _ _ hB)
    generalize hj:i.fmod 24=j at h1 h2 hb1 hb2 ⊢
    have hitem:vs.toArray[j.toNat]? = some b:=by rw [List.getElem?_toArray]; exact hb1
    obtain ⟨ops,hops⟩:=sub_ops (.BinOp (.Name (Str.ofString n) np) .Mod (.Constant (.int 24) k2 c2) bp) (.ref 477) (.int j (s₃.toks+1))
    refine tail_any (T:="list") ⟨_,hob,rfl⟩ F.slot_list_getitem.lookup (wpAny_getItem_list ⟨_,hob,rfl,_,rfl⟩ h1 (by omega) hitem ?_) hops
    refine ⟨⟨i,t,rfl,fun P G a=>?_⟩,keeps_tok s₃ _⟩
    rw [hb2,← hj]; exact .byt _ _
  · rw [List.filter_eq_self.mpr fun ω ω=>rfl] at hp
    have hpp:=elf_pcs (P:=f.c.P) hi hp
    refine wpG_of ?_
    have kp':∀ b o,s.heap.get? b=some o→h'.get? b=some o:=kp
    have keep:∀ b o,s.heap.get? b=some o→h'.get? b=some o:=kp
    have hy:=all2_len hpp
    rw [List.length_map] at hy
    refine a_join hdd hpp (fun q=>hne (by rw [q] at hy; exact List.length_eq_zero_iff.mp hy)) (by rw [List.length_map]; exact hz) (fun p hp=>?_) fun u tk=>?_
    · obtain ⟨i,_,rfl⟩:=List.mem_map.mp hp
      rcases Nat.lt_or_ge (i.fmod 24).toNat lawPieces.length with q | q
      · rw [List.getD_eq_getElem?_getD,List.getElem?_eq_getElem q]; exact piece_len _ (List.getElem_mem q)
      · rw [List.getD_eq_getElem?_getD,List.getElem?_eq_none q]; exact Nat.zero_le _
    · rw [List.flatMap_def] at hQ
      exact K G la.b st _ (.byt _) h' tk (.keeps keep) (R.grow (.of_keeps keep) (.refl ..)) (.byt _ u) hQ
end
section
variable {w:World} {A:Around} {E:Value→Shared→Prop} {s:Shared} {env:Env}
theorem a_SliceC {i:Int} {k:Nat} {cp p:Pos} {Q:Value→Shared→Prop}
    (h:Q (.ref s.heap.objs.size) { s with heap:=s.heap.push { cls:=.type "slice",data:=.fields #[.none,.int i s.toks,.none] },toks:=s.toks+1 }):wpAny (model pw w) A (eval (.Slice none (some (.Constant (.int i) k cp)) none p) env) Q E s:=by
  rw [arm_eval_Slice]
  refine wpAny_bind (wpAny_pure ?_)
  refine wpAny_bind (wpAny_holding (const_int (k:=k) (p:=cp) ?_))
  refine wpAny_bind (wpAny_holding (wpAny_pure ?_))
  show wpAny _ _ (newFields "slice" [.none,.int i s.toks,.none]) _ _ _
  exact wpAny_newObj_type h
end
theorem ints_take {vs:List Value} {ns:List Int} (h:IntsAre vs ns):∀ k:Nat,IntsAre (vs.take k) (ns.take k):=fun k=>IntsAre.take h k
theorem reps_app {P:Params} {G:Froz} {a:Addr} {us:List V} {xs:List Value} (h2:Reps P G a us xs):∀ {vs:List V} {ws:List Value},Reps P G a vs ws→Reps P G a (vs++us) (ws++xs)
  | [],_,h=>by cases h; exact h2
  | _ :: _,_,h=>by cases h with | cons a b=>exact .cons a (reps_app h2 b)
section
variable {Γ:Specs} {sc:Scope} {H:Nat}
theorem snd_someE {n y:String} {scope:Scope} {ap np cp px yp kp slp sp lp pos:Pos} {k:Nat} {e2:Expr} (hk:isLoc sc y=true) (hd:dbg y=false) (hs:scOk scope n=true) (hg:scope.names.lookup (Str.ofString "abs")=some .globalImplicit) (he2:Snd Γ sc H e2 (.lstD [.bin .Add (.bi "len" [.loc y]) (.cst (.int 2))])) :
    Snd Γ sc H (.BinOp (.ListComp (.Call (.Name (Str.ofString "abs") ap) [.Name (Str.ofString n) np] [] cp) [⟨.Name (Str.ofString n) px,.Subscript (.Name (Str.ofString y) yp) (.Slice none (some (.Constant (.int 12) k kp)) none slp) sp,[],0⟩] scope lp) .Add e2 pos) (.someE y):=by
  intro f env A s G la st Q Xc QC EC E0 hΓ hq R hw K KE
  rw [w_someE] at hw
  have hq:A.handled=none:=hq.resolve_left (fun e=>Bool.noConfusion (show false=true from e))
  obtain ⟨ns,hx,hz,hQ⟩:=hw
  refine bC fun ng=>?_;obtain ⟨s1,s2,s3,s4,s5,s6⟩:=scOk_ok hs;refine ng ?_;clear ng
  obtain ⟨m,hV,hL⟩:=R.loc
  obtain ⟨v,hv,rv⟩:=hL.rel y _ hx
  have rv:Rep f.c.P G la.a (.lst (ns.map .int)) v:=rv
  refine bC fun ng=>?_;obtain ⟨ax,nn,ws,rfl,hgx,rs⟩:=rLst rv;refine ng ?_;clear ng
  have hi:=reps_ints rs
  have hl:=reps_len rs
  rw [List.length_map] at hl
  obtain ⟨fb1,fb2⟩:=bi_facts (n:="abs") rfl
  obtain ⟨hmg,hmb⟩:=bi_at E0.c (fb1 _) fb2 (not_name (by decide))
  refine g_BinOp (wpG_of ?_)
  refine comp_go (fun ω=>true) (ElF fun i=>.int (if i < 0 then -i else i)) hq (closureFor_none s2) s3 s1 s4 s5 ?_
  refine a_Subscript (wpAny_Name (load_ok E0 hV hk hv (a_SliceC ?_)) hd)
  have hgx':=R.base.gh _ _ hgx
  have hob:(s.heap.push { cls:=.type "slice",data:=.fields #[.none,.int 12 s.toks,.none] }).get? ax=some (lisObj ws nn):=Heap.get?_push_of_some _ hgx'
  have isl:(s.heap.push { cls:=.type "slice",data:=.fields #[.none,.int 12 s.toks,.none] }).IsSliceOf s.heap.objs.size .none (.int 12 s.toks) .none:=Heap.IsSliceOf.new _ _ _ _
  obtain ⟨ops,hops⟩:=sub_ops (.Slice none (some (.Constant (.int 12) k kp)) none slp) (.ref ax) (.ref s.heap.objs.size)
  have kp1:∀ b o,s.heap.get? b=some o→(s.heap.push { cls:=.type "slice",data:=.fields #[.none,.int 12 s.toks,.none] }).get? b=some o:=fun b o e=>Heap.get?_push_of_some _ e
  generalize s.heap.push { cls:=.type "slice",data:=.fields #[.none,.int 12 s.toks,.none] }=h1 at hob isl kp1 ⊢
  refine tail_any (T:="list") ⟨_,hob,rfl⟩ F.slot_list_getitem.lookup (wpAny_getItem_list_slice (s:=⟨h1,s.gens,s.drawn,s.toks+1,s.os⟩) ⟨_,hob,rfl,_,rfl⟩ isl .none (.int 12 s.toks) .none (fun q=>nomatch q) ?_ (by rw [List.size_toArray,sizeLine_eq]; omega)) hops
  rw [show slicePick ws.toArray none (some 12) none=(ws.take 12).toArray from slicePick_upto' ws.toArray 12]
  have kp2:∀ b o,s.heap.get? b=some o→(h1.push { cls:=.type "list",data:=.seq (ws.take 12).toArray }).get? b=some o:=fun b o e=>Heap.get?_push_of_some _ (kp1 b o e)
  have hnew:(h1.push { cls:=.type "list",data:=.seq (ws.take 12).toArray }).get? h1.objs.size=some (lisObj (ws.take 12) 0):=Heap.get?_push_size _ rfl
  dsimp only
  generalize h1.push { cls:=.type "list",data:=.seq (ws.take 12).toArray }=h2 at kp2 hnew ⊢
  have hi2:=ints_take hi 12
  refine ⟨h1.objs.size,ws.take 12,0,rfl,hnew,by rw [List.length_take]; omega,fun C v s₃ m₃ E' ω ω ω ω=>no_tests ⟨rfl,keeps_tok s₃ s₃.toks⟩,fun C v s₃ m₃ E' hv ω hn hm hk3=>?_,fun D h' tk ys n' hD hdd hp kp=>?_⟩
  · obtain ⟨i,t,rfl⟩:=ints_mem hi2 hv
    have kpa:∀ b o,s.heap.get? b=some o→s₃.heap.get? b=some o:=fun b o e=>hk3 b o (kp2 b o e)
    refine a_call1 (id:="abs") rfl (comp_bi s1 hg (by rfl) (by rw [E0.gl]; exact (R.base.ns E0.c.g).keeps kpa) hmg (by rw [E0.bi]; exact (R.base.ns E0.c.b).keeps kpa) hmb ⟨rfl,comp_name s1 s5 s6 hn hm ?_⟩)
    exact call_abs_int fun u tk=>⟨⟨i,t,rfl,fun ω ω ω=>.int _ _⟩,keeps_tok s₃ _⟩
  · rw [List.filter_eq_self.mpr fun ω ω=>rfl] at hp
    have keep:∀ b o,s.heap.get? b=some o→h'.get? b=some o:=fun b o e=>kp b o (kp2 b o e)
    have hD0:s.heap.get? D=none:=by
      cases q:s.heap.get? D with
      | none=>rfl
      | some o=>have:=(kp2 D o q).symm.trans hD; cases this
    have gn:GNew G (setG G D (lisObj ys n')) s.heap h':=.one (R.base.fresh hD0) hD0 hdd
    have R1:=R.grow (.of_keeps keep) gn
    refine he2 (s:={ s with heap:=h',toks:=tk }) (Q:=fun v st'=>v = .lst [.int (ns.length+2)]∧st'=st) (Xc:=Xc) E0 hΓ (.inr hq) R1 ?_ (fun G2 b2 st2 v2 V2 hp2 tk2 g2 R2 r2 hw2=>?_) (fun G' st' e m h' tk'=>KE G' st' e m h' tk')
    · rw [w_lstD,w_cons,w_bin,w_bi,w_cons,w_loc,hx]
      exact Or.inl (And.intro rfl (And.intro (by rw [List.length_map]; omega) (And.intro (Nat.le_of_ble_eq_true rfl) (And.intro (by rw [List.length_map]) rfl))))
    · obtain ⟨rfl,rfl⟩:=hw2
      refine bC fun ng=>?_;obtain ⟨z,zn,zs,rfl,hz2,rz⟩:=rLst r2;refine ng ?_;clear ng
      have hzs:=reps_len rz
      have hD2:=R2.base.gh _ _ (g2.mono _ _ (setG_at G D (lisObj ys n')))
      have hys:ys.length≤12:=by
        have:=hp.length
        rw [List.length_take] at this
        omega
      refine wpG_of (PySem.P.add_list (l:=D) (n:=n') hD2 (R2.base.gh _ _ hz2) ?_ (by rw [List.size_toArray,List.size_toArray,← hzs,sizeLine_eq]; simp; omega))
      have r1:Reps f.c.P G2 la.a ((ns.take 12).map fun i=>V.int (if i < 0 then -i else i)) ys:=paired_reps hi2 hp
      have rr:=reps_app rz r1
      rw [List.append_toArray]
      refine K _ b2 st2 _ (.lst _) _ tk2 (((Ext.news keep gn).trans g2).trans (Ext.made R2.base _)) (R2.new (lisObj (ys++zs) 0) rfl) (.lst (setG_at _ _ _) (Reps.mono (setG_mono (R2.base.fresh (size_new _))) rr)) ?_
      have e:((ns.take 12).map (fun n=>if n < 0 then -n else n)++[(ns.length+2:Int)]).map V.int=((ns.take 12).map fun i=>V.int (if i < 0 then -i else i))++[V.int (ns.length+2)]:=by
        rw [List.map_append,List.map_map]; rfl
      rw [← e]
      exact hQ
end
abbrev filtNames:List (Str × NameKind):=[(Str.ofString ".0",.local),(Str.ofString "one",.local),(Str.ofString "token",.free)]
theorem filt_facts:(filtNames.all fun y=>y.2 != .cell && (y.2 != .local || filtNames.lookup y.1 == some .local))=true∧filtNames.lookup (Str.ofString "one")=some .local:=⟨by decide +kernel,by decide +kernel⟩
theorem clos_one {scope:Scope} {env:Env} {c:Addr} (hn:scope.names=filtNames) (hc:env.cells.lookup (Str.ofString "token")=some c):closureFor scope env=pure [(Str.ofString "token",c)]:=by
  unfold closureFor
  rw [hn]
  have h:cellOf env (Str.ofString "token")=pure c:=by unfold cellOf; rw [hc]
  simp only [List.forIn_cons,List.forIn_nil]
  rw [h]
  rfl
theorem relabel_token {scope:Scope} {env:Env} (hn:scope.names=filtNames) (hk:env.scope.kind = .function) (ht:env.kindOf (Str.ofString "token")=some .cell):(relabel scope env).names.lookup (Str.ofString "token")=some .cell:=by
  unfold relabel
  rw [hn]
  simp only [List.map_cons,List.map_nil]
  rw [show (NameKind.local == NameKind.free)=false from rfl,hk,ht]
  simp only [Bool.false_and,Bool.false_eq_true,if_false]
  decide +kernel
section
variable {Γ:Specs} {sc:Scope} {H:Nat}
theorem snd_filtNe {xs:String} {ep px ip op tp cp pos:Pos} {scope:Scope} (hk:isLoc sc xs=true) (hd:dbg xs=false) (ht:sc.names.lookup (Str.ofString "token")=some .cell) (hs:scope.kind = .function) (hn:scope.names=filtNames) :
    Snd Γ sc H (.ListComp (.Name (Str.ofString "one") ep) [⟨.Name (Str.ofString "one") px,.Name (Str.ofString xs) ip,[.Compare (.Name (Str.ofString "one") op) [.NotEq] [.Name (Str.ofString "token") tp] cp],0⟩] scope pos) (.filtNe xs "token" "one"):=by
  intro f env A s G la st Q Xc QC EC E0 hΓ hq R hw K KE
  rw [w_filtNe] at hw
  have hq:A.handled=none:=hq.resolve_left (fun e=>Bool.noConfusion (show false=true from e))
  refine bC fun ng=>?_;obtain ⟨n,k,w,hx,hy,heq,hz,hQ⟩:=hw;refine ng ?_;clear ng
  refine bC fun ng=>?_;obtain ⟨m,G',z,hV,hv,mono,R',rv⟩:=R.froze hx;refine ng ?_;clear ng
  have hck:=E0.cells
  have kk:env.scope.kind = .function:=by rw [E0.scope]; exact E0.kind
  have ko:env.kindOf (Str.ofString "token")=some .cell:=by unfold Env.kindOf; rw [E0.scope]; exact ht
  cases hfc:f.ck with
  | none=>rw [hfc] at hck; exact absurd ht (hck _)
  | some p=>
  obtain ⟨yn,c⟩:=p
  rw [hfc] at hck
  have hyn:=hck.2.2 _ ht
  have hcell:env.cells.lookup (Str.ofString "token")=some c:=by rw [hyn]; exact hck.1
  obtain ⟨m1,hV1,hL1⟩:=R'.loc
  obtain ⟨u,hu,ru⟩:=hL1.rel "token" (.v (.tup [.int k,w])) (by rw [lkL_setL,if_neg (fun q=>by rw [← q] at hx; rw [hx] at hy; cases hy)]; exact hy)
  have hce:s.heap.IsCell c (some u):=by
    unfold View at hV1
    rw [hfc] at hV1
    refine bC fun ng=>?_;obtain ⟨m₀,o,_,h2,h3⟩:=hV1;refine ng ?_;clear ng
    rw [h3] at hu
    dsimp only at hu
    rw [if_pos hyn] at hu
    rw [← hu]; exact h2
  have ru:Rep f.c.P G' la.a (.tup [.int k,w]) u:=ru
  refine bC fun ng=>?_;obtain ⟨_,nn,ws,e0,hgx,rs⟩:=rLst rv;refine ng ?_;clear ng
  cases e0
  have hl:=reps_len rs
  rw [List.length_replicate] at hl
  have ff:=List.all_eq_true.mp filt_facts.1
  refine wpG_of (comp_go (fun ω=>false) (fun ω ω=>False) hq (clos_one hn hcell) (by rw [hn]; exact fun y hy=>by have:=(Bool.and_eq_true_iff.mp (ff y hy)).1; simpa using this) hs (by rw [hn]; exact fun y hy q=>by have:=(Bool.and_eq_true_iff.mp (ff y hy)).2; rw [q] at this; simpa using this) (by rw [hn]; exact filt_facts.2) ?_)
  refine wpAny_Name (load_ok E0 hV hk hv ?_) hd
  refine ⟨z,ws,nn,rfl,R'.base.gh _ _ hgx,by omega,fun C v s₃ m₃ E' hvm hn3 hm hk3=>?_,fun C v s₃ m₃ E' ω q=>(nomatch q),fun D h' tk ys n' hD hdd hp kp=>?_⟩
  · have hrv:Rep f.c.P G' la.a (.tup [.int k,w]) v:=by
      have key:∀ {vs:List V} {ws:List Value},Reps f.c.P G' la.a vs ws→(∀ V∈vs,V = .tup [.int k,w])→∀ v∈ws,Rep f.c.P G' la.a (.tup [.int k,w]) v:=by
        intro vs
        induction vs with
        | nil=>intro ws r _ v hv; cases r; nomatch hv
        | cons V vs ih=>
          intro ws r hall v hv
          replace r:=rCons r
          refine bC fun ng=>?_;obtain ⟨_,_,rfl,r,rs⟩:=r;refine ng ?_;clear ng
          rcases List.mem_cons.mp hv with rfl | hv
          · rw [← hall V (.head _)]; exact r
          · exact ih rs (fun V hV=>hall V (.tail _ hV)) v hv
      exact key rs (fun V hV=>List.eq_of_mem_replicate hV) v hvm
    rw [List.forIn_cons]
    refine wpAny_bind (wpAny_ite ?_)
    rw [if_pos rfl]
    refine wpAny_bind (wpAny_isTrue_Compare1 (comp_name hs (by rw [hn]; exact filt_facts.2) (by rfl) hn3 hm ?_) (by rfl))
    have hce3:s₃.heap.IsCell c (some u):=by obtain ⟨o,h1,h2⟩:=hce; exact ⟨o,hk3 _ _ h1,h2⟩
    refine wpAny_Name (wpAny_loadName_cell (show (relabel scope env).kind = .function from hs) (relabel_token hn kk ko) (by show List.lookup _ [(Str.ofString "token",c)]=some c; rw [List.lookup_cons,beq_self_eq_true]) hce3 ?_) (by rfl)
    have hgh:∀ b o,G' b=some o→s₃.heap.get? b=some o:=fun b o e=>hk3 b o (R'.base.gh b o e)
    have e1:V.eqD (.tup [.int k,w]) (.tup [.int k,w])=some true:=by
      show eqL (eqN 5) [.int k,w] [.int k,w]=some true
      show (match eqN 5 (.int k) (.int k),(match eqN 5 w w,some true with | some x,some y=>some (x && y) | _,_=>none) with | some x,some y=>some (x && y) | _,_=>none)=some true
      rw [heq]
      show some ((k == k) && (true && true))=some true
      rw [beq_self_eq_true]
      rfl
    have e2:cmpV .NotEq (.tup [.int k,w]) (.tup [.int k,w])=some false:=by
      show (V.eqD (.tup [.int k,w]) (.tup [.int k,w])).map (!·)=some false
      rw [e1]; rfl
    refine cmp_ok (r:=false) hgh (by have:=E0.units; omega) hrv ru e2 ?_
    refine wpAny_truthy_bool (wpAny_pure ?_)
    dsimp only
    rw [List.forIn_nil]
    exact wpAny_pure ⟨rfl,keeps_tok s₃ s₃.toks⟩
  · have hys:ys=[]:=by
      have:ws.filter (fun ω=>false)=[]:=List.filter_eq_nil_iff.mpr fun ω ω=>by decide
      rw [this] at hp
      cases hp; rfl
    subst hys
    have hD0:=hD
    have gn:GNew G' (setG G' D (lisObj [] n')) s.heap h':=.one (R'.base.fresh hD0) hD0 hdd
    exact K _ la.b _ _ (.lst []) h' tk (mono.trans (.news kp gn)) (R'.grow (.of_keeps kp) gn) (.lst (setG_at _ _ _) .nil) hQ
end
structure Gd (Γ:Specs) (sc:Scope) (H:Nat) (e:Expr) (x:X):Prop where
  s:Snd Γ sc H e x
  t:SndT Γ sc H e x
  r:∀ env rest,starEach (e :: rest) env=(false,eval e env) :: starEach rest env
theorem lg {sc:Scope} {n:String} (h:(isLoc sc n && !dbg n)=true):isLoc sc n=true∧(Str.ofString n == ("__debug__" : Str))=false:=⟨(Bool.and_eq_true_iff.mp h).1,(show dbg n=false by have h2:=(Bool.and_eq_true_iff.mp h).2; rw [Bool.not_eq_true'] at h2; exact h2)⟩
theorem gg {sc:Scope} {n:String} (h:(isGl sc n && !dbg n)=true):sc.names.lookup (Str.ofString n)=some .globalImplicit∧(Str.ofString n == ("__debug__" : Str))=false:=⟨beq_iff_eq.mp (Bool.and_eq_true_iff.mp h).1,(show dbg n=false by have h2:=(Bool.and_eq_true_iff.mp h).2; rw [Bool.not_eq_true'] at h2; exact h2)⟩
section
variable {Γ:Specs} {sc:Scope} {H:Nat} {e a b c:Expr} {x y z:X} {es:List Expr} {xs:List X} {p q r p':Pos} {n m:String} {k:Nat} {l:List UInt8}
theorem sndT_ite {t a b:Expr} {pos:Pos} {xt xa xb:X} (ht:SndT Γ sc H t xt) (ha:SndT Γ sc H a xa) (hb:SndT Γ sc H b xb):SndT Γ sc H (.IfExp t a b pos) (.ite xt xa xb):=by
  intro f env A s G la st Q Xc QC EC E0 hΓ hq R hw K KE
  rw [w_ite] at hw
  obtain ⟨q1,q2,q3⟩:=quiet3 hq
  rw [arm_isTrue_IfExp]
  refine wpG_bind ?_
  refine ht (Q:=fun r st=>(r=true→wpX Γ xa (fun v st=>∃ b,v = .bool b∧Q b st) Xc st)∧(r=false→wpX Γ xb (fun v st=>∃ b,v = .bool b∧Q b st) Xc st)) E0 hΓ q1 R hw (fun G1 b1 st1 v1 hp1 tk1 g1 R1 hw1=>?_) KE
  cases v1 with
  | true=>exact ha E0 hΓ q2 R1 (hw1.1 rfl) (fun G2 b2 st2 v2 hp2 tk2 g2 R2 hw2=>K G2 b2 st2 v2 hp2 tk2 (g1.trans g2) R2 hw2) (fun G' st' e m h' tk'=>KE G' st' e m h' tk')
  | false=>exact hb E0 hΓ q3 R1 (hw1.2 rfl) (fun G2 b2 st2 v2 hp2 tk2 g2 R2 hw2=>K G2 b2 st2 v2 hp2 tk2 (g1.trans g2) R2 hw2) (fun G' st' e m h' tk'=>KE G' st' e m h' tk')
theorem kP (s:Snd Γ sc H e x) (t:∀ env,PySem.isTrue e env (eval e env)=(do let v ← eval e env; standAt e.pos; holding [v] (truthy v))) (r:∀ env rest,starEach (e :: rest) env=(false,eval e env) :: starEach rest env):Gd Γ sc H e x:=⟨s,sndT_of s t,r⟩
theorem kn:SndL Γ sc H [] []:=.nil
theorem kc (h:Gd Γ sc H e x) (hs:SndL Γ sc H es xs):SndL Γ sc H (e :: es) (x :: xs):=.cons ⟨h.s,h.t,h.r⟩ hs
theorem kNo:Gd Γ sc H (.Constant .none k p) (.cst .none):=kP snd_none (fun ω=>rfl) fun ω ω=>rfl
theorem kBo {v:Bool}:Gd Γ sc H (.Constant (.bool v) k p) (.cst (.bool v)):=kP snd_bool (fun ω=>rfl) fun ω ω=>rfl
theorem kIn {v:Int}:Gd Γ sc H (.Constant (.int v) k p) (.cst (.int v)):=kP snd_int (fun ω=>rfl) fun ω ω=>rfl
theorem kBy {v:List UInt8}:Gd Γ sc H (.Constant (.bytes v) k p) (.cst (.byt v)):=kP snd_bytes (fun ω=>rfl) fun ω ω=>rfl
theorem kL (h:(isLoc sc n && !dbg n)=true:=by kernel_rfl):Gd Γ sc H (.Name (Str.ofString n) p) (.loc n):=kP (snd_loc (lg h).1 (lg h).2) (fun ω=>rfl) fun ω ω=>rfl
theorem kG {v:V} (hv:gVal n=some v:=by rfl) (h:(isGl sc n && !dbg n)=true:=by kernel_rfl):Gd Γ sc H (.Name (Str.ofString n) p) (.cst v):=kP (snd_glob (gg h).1 (gg h).2 (gVal_ok hv)) (fun ω=>rfl) fun ω ω=>rfl
theorem kT (hs:SndL Γ sc H es xs):Gd Γ sc H (.Tuple es k p) (.tup xs):=kP (snd_tup hs) (fun ω=>rfl) fun ω ω=>rfl
theorem kLs (hs:SndL Γ sc H es xs):Gd Γ sc H (.List es p) (.lstD xs):=kP (snd_lst hs) (fun ω=>rfl) fun ω ω=>rfl
theorem kF (hb:AttrB e) (h:Gd Γ sc H e x) (hn:flds.contains n=true:=by kernel_rfl):Gd Γ sc H (.Attribute e (Str.ofString n) p) (.fld x n):=kP (snd_fld h.s hb (List.contains_iff_mem.mp hn)) (fun ω=>rfl) fun ω ω=>rfl
theorem kB {op:Operator} (ha:Gd Γ sc H a x) (hb:Gd Γ sc H b y):Gd Γ sc H (.BinOp a op b p) (.bin op x y):=kP (snd_bin ha.s hb.s) (fun ω=>rfl) fun ω ω=>rfl
theorem kN (ha:Gd Γ sc H a x):Gd Γ sc H (.UnaryOp .USub a p) (.neg x):=⟨snd_neg ha.s,sndT_of (snd_neg ha.s) fun ω=>rfl,fun ω ω=>rfl⟩
theorem kNt (ha:Gd Γ sc H a x):Gd Γ sc H (.UnaryOp .Not a p) (.notE x):=⟨snd_notV ha.s,snd_not ha.t,fun ω ω=>rfl⟩
theorem kAn (hs:SndL Γ sc H (e :: es) xs):Gd Γ sc H (.BoolOp .And (e :: es) p) (.andE xs):=⟨snd_and hs,sndT_and hs,fun ω ω=>rfl⟩
theorem kOr (hs:SndL Γ sc H (e :: es) xs):Gd Γ sc H (.BoolOp .Or (e :: es) p) (.orE xs):=⟨snd_or hs,sndT_or hs,fun ω ω=>rfl⟩
theorem kC {o:CmpOp} (ha:Gd Γ sc H a x) (hb:Gd Γ sc H b y) (hm:behindInMarks o b=false:=by rfl):Gd Γ sc H (.Compare a [o] [b] p) (.cmp x o y):=⟨snd_cmp ha.s hb.s hm,sndT_cmp ha.s hb.s hm,fun ω ω=>rfl⟩
theorem kC2 {o o':CmpOp} (ha:Gd Γ sc H a x) (hb:Gd Γ sc H b y) (hc:Gd Γ sc H c z) (hm:lastMarks [o,o'] [b,c]=false:=by rfl):Gd Γ sc H (.Compare a [o,o'] [b,c] p) (.cmp2 x o y o' z):=⟨snd_cmp2 ha.s hb.s hc.s hm,sndT_cmp2 ha.s hb.s hc.s hm,fun ω ω=>rfl⟩
theorem kI (ht:Gd Γ sc H c z) (ha:Gd Γ sc H a x) (hb:Gd Γ sc H b y):Gd Γ sc H (.IfExp c a b p) (.ite z x y):=⟨snd_ite ht.t ha.s hb.s,sndT_ite ht.t ha.t hb.t,fun ω ω=>rfl⟩
theorem kX (ha:Gd Γ sc H a x) (hb:Gd Γ sc H b y):Gd Γ sc H (.Subscript a b p) (.idx x y):=kP (snd_idx ha.s hb.s) (fun ω=>rfl) fun ω ω=>rfl
theorem kSa (ha:Gd Γ sc H a x) (hb:Gd Γ sc H b y):Gd Γ sc H (.Subscript a (.Slice none (some b) none q) p) (.slA x y):=kP (snd_slA ha.s hb.s) (fun ω=>rfl) fun ω ω=>rfl
theorem kSc (ha:Gd Γ sc H a x) (hb:Gd Γ sc H b y) (hc:Gd Γ sc H c z):Gd Γ sc H (.Subscript a (.Slice (some b) (some c) none q) p) (.slC x y z):=kP (snd_slC ha.s hb.s hc.s) (fun ω=>rfl) fun ω ω=>rfl
theorem kCa {fa:Addr} (hs:SndL Γ sc H es xs) (hf:fnTab.lookup n=some fa:=by kernel_rfl) (h:(isGl sc n && !dbg n)=true:=by kernel_rfl):Gd Γ sc H (.Call (.Name (Str.ofString n) q) es [] p) (.call fa xs):=by
  have F:∀ P,nsIn (KF P) mainGlobals (Str.ofString n)=some (some (.ref fa))∧keepIn (KF P) (.ref fa)=true:=fun P=>by
    obtain ⟨a,b⟩:=Bool.and_eq_true_iff.mp (List.all_eq_true.mp (fn_glob P) (n,fa) (mem_lk hf))
    exact ⟨beq_iff_eq.mp a,b⟩
  exact kP (snd_call (gg h).1 (gg h).2 (fun P=>(F P).1) (fun P=>(F P).2) hs) (fun ω=>rfl) fun ω ω=>rfl
theorem mt_fact {fa:Addr} (hf:mtTab.lookup n=some fa) (P:Params):findIn (KF P) (.ref aLex) (Str.ofString n)=some (some (.ref fa))∧typeIn (KF P) (.ref fa)=some (.type "function")∧keepIn (KF P) (.ref fa)=true∧∀ m∈flds,Str.ofString m≠Str.ofString n:=by
  obtain ⟨a,b⟩:=Bool.and_eq_true_iff.mp (List.all_eq_true.mp (mt_glob P) (n,fa) (mem_lk hf))
  obtain ⟨b,c⟩:=Bool.and_eq_true_iff.mp b
  obtain ⟨c,d⟩:=Bool.and_eq_true_iff.mp c
  refine ⟨beq_iff_eq.mp a,beq_iff_eq.mp b,c,fun m hm q=>?_⟩
  have:=List.all_eq_true.mp d m hm
  rw [q,beq_self_eq_true] at this
  cases this
theorem snd_mc {fa:Addr} (hM:MethB e) (he:Gd Γ sc H e x) (hs:SndL Γ sc H es xs) (hf:mtTab.lookup n=some fa) (ho:(q.endLine == p.line && decide (es.length < 30))=true):Snd Γ sc H (.Call (.Attribute e (Str.ofString n) q) es [] p) (.mcall x fa xs):=by
  intro f env A s G la st Q Xc QC EC E0 hΓ hq R hw K KE
  obtain ⟨h5,h6⟩:=Bool.and_eq_true_iff.mp ho
  have F:=mt_fact hf
  exact snd_mcall he.s ⟨hM,h5⟩ (of_decide_eq_true h6) (fun P=>(F P).1) (fun P=>(F P).2.1) (fun P=>(F P).2.2.1) (F f.c.P).2.2.2 hs E0 hΓ hq R hw K KE
theorem kM {fa:Addr} (hM:MethB e) (he:Gd Γ sc H e x) (hs:SndL Γ sc H es xs) (hf:mtTab.lookup n=some fa:=by kernel_rfl) (ho:(q.endLine == p.line && decide (es.length < 30))=true:=by rfl):Gd Γ sc H (.Call (.Attribute e (Str.ofString n) q) es [] p) (.mcall x fa xs):=kP (snd_mc hM he hs hf ho) (fun ω=>rfl) fun ω ω=>rfl
theorem kBi {v:Value} (hs:SndL Γ sc H es xs) (hv:biVal n=some v:=by rfl) (hb:biTab.lookup n=some v:=by rfl) (hn:n ≠ "__name__":=by decide) (h:(isGl sc n && !dbg n)=true:=by kernel_rfl):Gd Γ sc H (.Call (.Name (Str.ofString n) q) es [] p) (.bi n xs):=
  kP (snd_bi hv (gg h).1 (gg h).2 (bi_facts hb).1 (bi_facts hb).2 (not_name hn) hs) (fun ω=>rfl) fun ω ω=>rfl
theorem kIs {T:String} (he:Gd Γ sc H e x) (hb:biTab.lookup T=some (.type T):=by rfl) (hn:T ≠ "__name__":=by decide) (h:(isGl sc "isinstance" && !dbg "isinstance")=true:=by kernel_rfl) (h':(isGl sc T && !dbg T)=true:=by kernel_rfl):Gd Γ sc H (.Call (.Name (Str.ofString "isinstance") q) [e,.Name (Str.ofString T) r] [] p) (.isi x T):=
  kP (fun {_ _ _ _ _ _ _ _ _ _ _}=>snd_isi he.s he.r (gg h).1 (gg h).2 (bi_facts (n:="isinstance") rfl).1 (bi_facts (n:="isinstance") rfl).2 (not_name (by decide)) (gg h').1 (gg h').2 (bi_facts hb).1 (bi_facts hb).2 (not_name hn)) (fun ω=>rfl) fun ω ω=>rfl
theorem kFi (hM:MethB e) (he:Gd Γ sc H e x) (hs:SndL Γ sc H [a] [y]) (ho:(q.endLine == p.line)=true:=by rfl):Gd Γ sc H (.Call (.Attribute e (Str.ofString "find") q) [a] [] p) (.bm x "find" [y]):=kP (fun {_ _ _ _ _ _ _ _ _ _ _}=>snd_find he.s ⟨hM,ho⟩ hs) (fun ω=>rfl) fun ω ω=>rfl
theorem kGe (hM:MethB e) (he:Gd Γ sc H e x) (hs:SndL Γ sc H [a] [y]) (ho:(q.endLine == p.line)=true:=by rfl):Gd Γ sc H (.Call (.Attribute e (Str.ofString "get") q) [a] [] p) (.bm x "get" [y]):=kP (fun {_ _ _ _ _ _ _ _ _ _ _}=>snd_get he.s ⟨hM,ho⟩ hs) (fun ω=>rfl) fun ω ω=>rfl
theorem kTk (hH:3≤H) (hs:SndL Γ sc H [a,b] [x,y]) (h:(isGl sc "Token" && !dbg "Token")=true:=by kernel_rfl):Gd Γ sc H (.Call (.Name (Str.ofString "Token") q) [a,b] [] p) (.newTok x y):=kP (fun {_ _ _ _ _ _ _ _ _ _ _}=>snd_newTok (gg h).1 (by omega) hs) (fun ω=>rfl) fun ω ω=>rfl
theorem kLm (hH:3≤H) (h:(isGl sc "Limits" && !dbg "Limits")=true:=by kernel_rfl):Gd Γ sc H (.Call (.Name (Str.ofString "Limits") q) [] [] p) .newLims:=kP (snd_newLims (gg h).1 (by omega)) (fun ω=>rfl) fun ω ω=>rfl
theorem kLe (h:(isGl sc "len" && !dbg "len")=true:=by kernel_rfl) (h':(isLoc sc n && !dbg n)=true:=by kernel_rfl):Gd Γ sc H (.Call (.Name (Str.ofString "len") q) [.Attribute (.Name (Str.ofString n) r) (Str.ofString "buffer") p'] [] p) (.lenB n):=kP (snd_lenB (gg h).1 (lg h').1 (lg h').2) (fun ω=>rfl) fun ω ω=>rfl
theorem kBb (h:(isGl sc "bytes" && !dbg "bytes")=true:=by kernel_rfl) (h':(isLoc sc n && !dbg n)=true:=by kernel_rfl):Gd Γ sc H (.Call (.Name (Str.ofString "bytes") q) [.Attribute (.Name (Str.ofString n) r) (Str.ofString "buffer") p'] [] p) (.bytesB n):=kP (snd_bytesB (gg h).1 (lg h').1 (lg h').2) (fun ω=>rfl) fun ω ω=>rfl
theorem kBc {np ap xp sp pp pos:Pos} (ha:SndI sc a x) (hb:SndI sc b y) (h:(isGl sc "bytes" && !dbg "bytes")=true:=by kernel_rfl) (h':(isLoc sc n && !dbg n)=true:=by kernel_rfl):Gd Γ sc H (.Call (.Name (Str.ofString "bytes") xp) [.Subscript (.Attribute (.Name (Str.ofString n) np) (Str.ofString "buffer") ap) (.Slice (some a) (some b) none pp) sp] [] pos) (.bytesCut n x y):=kP (snd_bytesCut (gg h).1 (lg h').1 (lg h').2 ha hb) (fun ω=>rfl) fun ω ω=>rfl
theorem iI {v:Int}:SndI sc (.Constant (.int v) k p) (.cst (.int v)):=sndI_int
theorem iL (h:(isLoc sc n && !dbg n)=true:=by kernel_rfl):SndI sc (.Name (Str.ofString n) p) (.loc n):=sndI_loc (lg h).1 (lg h).2
theorem iS (ha:SndI sc a x) (hb:SndI sc b y):SndI sc (.BinOp a .Sub b p) (.bin .Sub x y):=sndI_sub ha hb
theorem iN (h:(isGl sc "len" && !dbg "len")=true:=by kernel_rfl) (h':(isLoc sc n && !dbg n)=true:=by kernel_rfl):SndI sc (.Call (.Name (Str.ofString "len") q) [.Attribute (.Name (Str.ofString n) r) (Str.ofString "buffer") p'] [] p) (.lenB n):=sndI_len (gg h).1 (lg h').1 (lg h').2
theorem kDi {scope:Scope} {np px yp kp bp pos:Pos} (h:(isLoc sc m && !dbg m)=true:=by kernel_rfl) (hs:scOk scope n=true:=by kernel_rfl):Gd Γ sc H (.ListComp (.BinOp (.Name (Str.ofString n) np) .FloorDiv (.Constant (.int 24) k kp) bp) [⟨.Name (Str.ofString n) px,.Name (Str.ofString m) yp,[],0⟩] scope pos) (.divE m):=kP (snd_divE (lg h).1 (lg h).2 hs) (fun ω=>rfl) fun ω ω=>rfl
theorem kJo {scope:Scope} {cp ap gp np bp c2 sp px yp lp pos:Pos} {k2:Nat} (h:(isLoc sc m && !dbg m)=true:=by kernel_rfl) (hs:scOk scope n=true:=by kernel_rfl) (hg:scope.names.lookup (Str.ofString "_law_pieces")=some .globalImplicit:=by kernel_rfl) (ho:(ap.endLine == pos.line)=true:=by rfl) :
    Gd Γ sc H (.Call (.Attribute (.Constant (.bytes []) k cp) (Str.ofString "join") ap) [.ListComp (.Subscript (.Name (Str.ofString "_law_pieces") gp) (.BinOp (.Name (Str.ofString n) np) .Mod (.Constant (.int 24) k2 c2) bp) sp) [⟨.Name (Str.ofString n) px,.Name (Str.ofString m) yp,[],0⟩] scope lp] [] pos) (.joinE m):=kP (snd_joinE (lg h).1 (lg h).2 hs hg ⟨mbC,ho⟩) (fun ω=>rfl) fun ω ω=>rfl
theorem kSo {scope:Scope} {ap np cp px yp kp slp sp lp pos:Pos} {e2:Expr} (he2:Gd Γ sc H e2 (.lstD [.bin .Add (.bi "len" [.loc m]) (.cst (.int 2))])) (h:(isLoc sc m && !dbg m)=true:=by kernel_rfl) (hs:scOk scope n=true:=by kernel_rfl) (hg:scope.names.lookup (Str.ofString "abs")=some .globalImplicit:=by kernel_rfl) :
    Gd Γ sc H (.BinOp (.ListComp (.Call (.Name (Str.ofString "abs") ap) [.Name (Str.ofString n) np] [] cp) [⟨.Name (Str.ofString n) px,.Subscript (.Name (Str.ofString m) yp) (.Slice none (some (.Constant (.int 12) k kp)) none slp) sp,[],0⟩] scope lp) .Add e2 pos) (.someE m):=kP (snd_someE (lg h).1 (lg h).2 hs hg he2.s) (fun ω=>rfl) fun ω ω=>rfl
theorem kFt {ep px ip op tp cp pos:Pos} {scope:Scope} (h:(isLoc sc n && !dbg n)=true:=by kernel_rfl) (ht:sc.names.lookup (Str.ofString "token")=some .cell:=by kernel_rfl) (hs:scope.kind = .function:=by rfl) (hn:scope.names=filtNames:=by rfl) :
    Gd Γ sc H (.ListComp (.Name (Str.ofString "one") ep) [⟨.Name (Str.ofString "one") px,.Name (Str.ofString n) ip,[.Compare (.Name (Str.ofString "one") op) [.NotEq] [.Name (Str.ofString "token") tp] cp],0⟩] scope pos) (.filtNe n "token" "one"):=kP (snd_filtNe (lg h).1 (lg h).2 ht hs hn) (fun ω=>rfl) fun ω ω=>rfl
end
section
variable {Γ:Specs} {sc:Scope} {H:Nat} {e a b:Expr} {x y:X} {p q r p':Pos} {n m:String} {k k':Nat} {xs ys:List S} {ss ts:List Stmt}
structure Gs (Γ:Specs) (sc:Scope) (H:Nat) (t:Stmt) (u:S):Prop where
  s:SndS Γ sc H t u
structure Gss (Γ:Specs) (sc:Scope) (H:Nat) (ss:List Stmt) (xs:List S):Prop where
  s:SndSs Γ sc H ss xs
theorem tN:Gss Γ sc H [] []:=⟨sndS_nil⟩
theorem tC {st:Stmt} {u:S} (h:Gs Γ sc H st u) (hs:Gss Γ sc H ss xs):Gss Γ sc H (st :: ss) (u :: xs):=⟨sndS_cons h.s hs.s⟩
theorem tD {st:Stmt}:Gs Γ sc H st .dead:=by
  refine ⟨?_⟩
  intro f env A s G la st Q Xc QC EC E0 hΓ hq R hw K KE
  exact (show False from hw).elim
theorem intf (hk:sc.kind = .function):∀ (env:Env),env.scope=sc→interactive env=false:=fun env he=>by
  unfold interactive
  rw [he,hk]
  rfl
theorem tA (he:Gd Γ sc H e x) (hk:isLoc sc n=true:=by kernel_rfl) (hs:∀ env,swapsWith e (some (.Name (Str.ofString n) q)) p.line env=pure false:=by intro _; rfl):Gs Γ sc H (.Assign [.Name (Str.ofString n) q] e p) (.asg n x):=⟨sndS_asg hk he.s hs⟩
theorem tT2 {pa pb tp vp:Pos} (hs:SndL Γ sc H [a,b] [x,y]) (hw:(match swR sc [.Name (Str.ofString n) pa,.Name (Str.ofString m) pb] [a,b] with | some r=>r == some [Str.ofString n,Str.ofString m] || r == none | none=>false)=true:=by kernel_rfl) (ha:isLoc sc n=true:=by kernel_rfl) (hb:isLoc sc m=true:=by kernel_rfl) (hab:n≠m:=by decide) :
    Gs Γ sc H (.Assign [.Tuple [.Name (Str.ofString n) pa,.Name (Str.ofString m) pb] k tp] (.Tuple [a,b] k' vp) p) (.asgT [n,m] [.e x,.e y]):=by
  cases hr:swR sc [.Name (Str.ofString n) pa,.Name (Str.ofString m) pb] [a,b] with
  | none=>rw [hr] at hw; cases hw
  | some r=>
    rw [hr] at hw
    rcases Bool.or_eq_true_iff.mp hw with e5 | e5
    · exact ⟨sndS_asgT2 ha hb hab hs (fun ω=>rfl) (.inl (swR_ok (by rw [hr,beq_iff_eq.mp e5])))⟩
    · exact ⟨sndS_asgT2 ha hb hab hs (fun ω=>rfl) (.inr (swR_ok (by rw [hr,beq_iff_eq.mp e5])))⟩
theorem tTn {pa pb tp vp lp:Pos} (he:Gd Γ sc H a x) (hw:swR sc [.Name (Str.ofString n) pa,.Name (Str.ofString m) pb] [a,.List [] lp]=some (some [Str.ofString n,Str.ofString m]):=by kernel_rfl) (ha:isLoc sc n=true:=by kernel_rfl) (hb:isLoc sc m=true:=by kernel_rfl) (hab:n≠m:=by decide) :
    Gs Γ sc H (.Assign [.Tuple [.Name (Str.ofString n) pa,.Name (Str.ofString m) pb] k tp] (.Tuple [a,.List [] lp] k' vp) p) (.asgT [n,m] [.e x,.nil]):=⟨sndS_asgT2n ha hb hab he.s he.r (fun ω=>rfl) (swR_ok hw)⟩
theorem tU2 {pa pb tp:Pos} (he:Gd Γ sc H e x) (hf:∀ env,swapsWithSole [.Tuple [.Name (Str.ofString n) pa,.Name (Str.ofString m) pb] k tp] e p.line env=pure false:=by intro _; rfl) (hw:∀ env,swappedStores [.Tuple [.Name (Str.ofString n) pa,.Name (Str.ofString m) pb] k tp] e env=pure none:=by intro _; rfl) (ha:isLoc sc n=true:=by kernel_rfl) (hb:isLoc sc m=true:=by kernel_rfl) :
    Gs Γ sc H (.Assign [.Tuple [.Name (Str.ofString n) pa,.Name (Str.ofString m) pb] k tp] e p) (.asgU [n,m] x):=⟨sndS_asgU2 ha hb he.s hf fun env ω=>hw env⟩
theorem tF (ho:Gd Γ sc H a y) (he:Gd Γ sc H e x) (hn:flds.contains n=true:=by kernel_rfl) (hs:∀ env,swapsWith e (some (.Attribute a (Str.ofString n) q)) p.line env=pure false:=by intro _; rfl):Gs Γ sc H (.Assign [.Attribute a (Str.ofString n) q] e p) (.setF y n x):=⟨sndS_setF he.s ho.s (List.contains_iff_mem.mp hn) hs⟩
theorem tCl {xp pp np cp pos:Pos} (hg:(isGl sc "bytearray" && !dbg "bytearray")=true:=by kernel_rfl) (h:(isLoc sc n && !dbg n)=true:=by kernel_rfl):Gs Γ sc H (.Assign [.Attribute (.Name (Str.ofString n) np) (Str.ofString "buffer") pp] (.Call (.Name (Str.ofString "bytearray") xp) [] [] cp) pos) (.clrB n):=⟨sndS_clrB (gg hg).1 (lg h).1 (lg h).2⟩
theorem tCu {pa np np' ap sp pp pos:Pos} (hi:SndI sc e x) (h:(isLoc sc n && !dbg n)=true:=by kernel_rfl):Gs Γ sc H (.Assign [.Attribute (.Name (Str.ofString n) np) (Str.ofString "buffer") pa] (.Subscript (.Attribute (.Name (Str.ofString n) np') (Str.ofString "buffer") ap) (.Slice none (some e) none pp) sp) pos) (.cutB n x):=⟨sndS_cutB (lg h).1 (lg h).2 hi⟩
theorem tAu (hi:SndI sc e x) (hk:isLoc sc n=true:=by kernel_rfl):Gs Γ sc H (.AugAssign (.Name (Str.ofString n) q) .Add e p) (.augN n x):=⟨sndS_augN hk hi⟩
theorem tAf (hi:SndI sc e x) (hn:flds.contains m=true:=by kernel_rfl) (h:(isLoc sc n && !dbg n)=true:=by kernel_rfl):Gs Γ sc H (.AugAssign (.Attribute (.Name (Str.ofString n) r) (Str.ofString m) q) .Add e p) (.augF n m x):=⟨sndS_augF (lg h).1 (lg h).2 (List.contains_iff_mem.mp hn) hi⟩
theorem tE (he:Gd Γ sc H e x) (hk:sc.kind = .function:=by kernel_rfl) (hs:∀ env,swapsWith e none p.line env=pure false:=by intro _; rfl):Gs Γ sc H (.Expr e p) (.expr x):=⟨sndS_expr he.s (intf hk) hs⟩
theorem tAp {np ap cp:Pos} (he:Gd Γ sc H e x) (ho:(ap.endLine == cp.line)=true:=by rfl) (hk:sc.kind = .function:=by kernel_rfl) (h:(isLoc sc n && !dbg n)=true:=by kernel_rfl):Gs Γ sc H (.Expr (.Call (.Attribute (.Name (Str.ofString n) np) (Str.ofString "append") ap) [e] [] cp) p) (.app n x):=⟨sndS_app (lg h).1 (lg h).2 ⟨mbN,ho⟩ he.s he.r (intf hk) fun ω=>rfl⟩
theorem tRv {np ap cp:Pos} (ho:(ap.endLine == cp.line)=true:=by rfl) (hk:sc.kind = .function:=by kernel_rfl) (h:(isLoc sc n && !dbg n)=true:=by kernel_rfl):Gs Γ sc H (.Expr (.Call (.Attribute (.Name (Str.ofString n) np) (Str.ofString "reverse") ap) [] [] cp) p) (.rev n):=⟨sndS_rev (lg h).1 (lg h).2 ⟨mbN,ho⟩ (intf hk) fun ω=>rfl⟩
theorem tAb {np bp ap cp:Pos} (hi:SndI sc e x) (hst:∀ env rest,starEach (e :: rest) env=(false,eval e env) :: starEach rest env:=by intro _ _; rfl) (ho:(ap.endLine == cp.line)=true:=by rfl) (hk:sc.kind = .function:=by kernel_rfl) (h:(isLoc sc n && !dbg n)=true:=by kernel_rfl) :
    Gs Γ sc H (.Expr (.Call (.Attribute (.Attribute (.Name (Str.ofString n) np) (Str.ofString "buffer") bp) (Str.ofString "append") ap) [e] [] cp) p) (.appB n x):=⟨sndS_appB (lg h).1 (lg h).2 ⟨mbA,ho⟩ hi hst (intf hk) fun ω=>rfl⟩
theorem tIf (ht:Gd Γ sc H e x) (ha:Gss Γ sc H ss xs) (hb:Gss Γ sc H ts ys):Gs Γ sc H (.If e ss ts p) (.ifS x xs ys):=⟨sndS_if ht.t ha.s hb.s⟩
theorem tW (ht:Gd Γ sc H e x) (hb:Gss Γ sc H ss xs):Gs Γ sc H (.While e ss [] p) (.whileS x xs):=⟨sndS_while ht.t hb.s⟩
theorem tFo {np rp cp:Pos} (hs:SndL Γ sc H [e] [x]) (hb:Gss Γ sc H ss xs) (hk:isLoc sc n=true:=by kernel_rfl) (hr:(isGl sc "range" && !dbg "range")=true:=by kernel_rfl):Gs Γ sc H (.For (.Name (Str.ofString n) np) (.Call (.Name (Str.ofString "range") rp) [e] [] cp) ss [] p) (.forR n x xs):=⟨sndS_forR hk (gg hr).1 hs hb.s⟩
theorem tR (he:Gd Γ sc H e x):Gs Γ sc H (.Return (some e) p) (.ret x):=⟨sndS_ret he.s⟩
theorem tRn:Gs Γ sc H (.Return none p) .retN:=⟨sndS_retN⟩
theorem tRa {xp cp:Pos} (hH:3≤H) (he:Gd Γ sc H e x) (hk:(isGl sc "LuaSyntaxError" && !dbg "LuaSyntaxError")=true:=by kernel_rfl):Gs Γ sc H (.Raise (some (.Call (.Name (Str.ofString "LuaSyntaxError") xp) [e] [] cp)) none p) (.raise x):=⟨sndS_raise (gg hk).1 (gg hk).2 hH he.s he.t he.r⟩
theorem tTr {tp rp hp:Pos} (hb:Gss Γ sc H ss xs) (he:Gd Γ sc H e x) (hk:sc.names.lookup (Str.ofString n)=some .local:=by kernel_rfl) (hl:(isGl sc "LuaSyntaxError" && !dbg "LuaSyntaxError")=true:=by kernel_rfl) :
    Gs Γ sc H (.Try ss [.ExceptHandler (some (.Name (Str.ofString "LuaSyntaxError") tp)) (some (Str.ofString n)) [.Return (some e) rp] hp] [] [] p) (.tryR xs n x):=⟨sndS_tryR hk (gg hl).1 hb.s he.s⟩
theorem tBk:Gs Γ sc H (.Break p) .brk:=⟨sndS_brk⟩
theorem tPs:Gs Γ sc H (.Pass p) .pass:=⟨sndS_pass⟩
end
section
set_option maxHeartbeats 400000
theorem len0 {α:Type} {l:List α} (h:l.length=0):l=[]:=List.length_eq_zero_iff.mp h
theorem len1 {α:Type} {l:List α} (h:l.length=0+1):∃ a,l=[a]:=by
  cases l with
  | nil=>cases h
  | cons a r=>exact ⟨a,by rw [len0 (Nat.succ.inj h)]⟩
theorem len2 {α:Type} {l:List α} (h:l.length=0+1+1):∃ a b,l=[a,b]:=by
  cases l with
  | nil=>cases h
  | cons a r=>obtain ⟨b,rfl⟩:=len1 (Nat.succ.inj h); exact ⟨a,b,rfl⟩
theorem len3 {α:Type} {l:List α} (h:l.length=0+1+1+1):∃ a b c,l=[a,b,c]:=by
  cases l with
  | nil=>cases h
  | cons a r=>obtain ⟨b,c,rfl⟩:=len2 (Nat.succ.inj h); exact ⟨a,b,c,rfl⟩
theorem len4 {α:Type} {l:List α} (h:l.length=0+1+1+1+1):∃ a b c d,l=[a,b,c,d]:=by
  cases l with
  | nil=>cases h
  | cons a r=>obtain ⟨b,c,d,rfl⟩:=len3 (Nat.succ.inj h); exact ⟨a,b,c,d,rfl⟩
theorem e_is_number (P:Params):∃ fd,FnF P 96 (stm 6) ["value"] fd:=by
  refine ⟨_,⟨(show (KF P).lookup 96=some (o96 P) by kernel_rfl),rfl,rfl,rfl,rfl,rfl,rfl,⟨95,o95 P,_,_,rfl,(by kernel_rfl),rfl,rfl⟩⟩,by kernel_rfl,by kernel_rfl,by kernel_rfl,by kernel_rfl,by kernel_rfl,by decide +kernel,fun S args h=>?_⟩
  obtain ⟨x0,rfl⟩:=len1 h
  kernel_rfl
theorem s_is_number {Γ:Specs} {H:Nat} (hH:3≤H):Gss Γ (fScope (stm 6)) H (fBody (stm 6)) b_is_number:=
  tC (tR (kAn (kc (kIs kL) (kc (kNt (kIs kL)) kn)))) tN
theorem e_wrap (P:Params):∃ fd,FnF P 103 (stm 7) ["n","width"] fd:=by
  refine ⟨_,⟨(show (KF P).lookup 103=some (o103 P) by kernel_rfl),rfl,rfl,rfl,rfl,rfl,rfl,⟨102,o102 P,_,_,rfl,(by kernel_rfl),rfl,rfl⟩⟩,by kernel_rfl,by kernel_rfl,by kernel_rfl,by kernel_rfl,by kernel_rfl,by decide +kernel,fun S args h=>?_⟩
  obtain ⟨x0,x1,rfl⟩:=len2 h
  kernel_rfl
theorem s_wrap {Γ:Specs} {H:Nat} (hH:3≤H):Gss Γ (fScope (stm 7)) H (fBody (stm 7)) b_wrap:=
  tC (tA (kB kL (kB (kB kIn kL) kIn))) (tC (tIf (kC kL (kB kIn (kB kL kIn))) (tC (tR (kB kL (kB kIn kL))) tN) tN) (tC (tR kL) tN))
theorem e_is_blank_values (P:Params):∃ fd,FnF P 110 (stm 8) ["octet"] fd:=by
  refine ⟨_,⟨(show (KF P).lookup 110=some (o110 P) by kernel_rfl),rfl,rfl,rfl,rfl,rfl,rfl,⟨109,o109 P,_,_,rfl,(by kernel_rfl),rfl,rfl⟩⟩,by kernel_rfl,by kernel_rfl,by kernel_rfl,by kernel_rfl,by kernel_rfl,by decide +kernel,fun S args h=>?_⟩
  obtain ⟨x0,rfl⟩:=len1 h
  kernel_rfl
theorem s_is_blank_values {Γ:Specs} {H:Nat} (hH:3≤H):Gss Γ (fScope (stm 8)) H (fBody (stm 8)) b_is_blank_values:=
  tC (tR (kC kL kG)) tN
theorem e_digit_of (P:Params):∃ fd,FnF P 117 (stm 10) ["octet"] fd:=by
  refine ⟨_,⟨(show (KF P).lookup 117=some (o117 P) by kernel_rfl),rfl,rfl,rfl,rfl,rfl,rfl,⟨116,o116 P,_,_,rfl,(by kernel_rfl),rfl,rfl⟩⟩,by kernel_rfl,by kernel_rfl,by kernel_rfl,by kernel_rfl,by kernel_rfl,by decide +kernel,fun S args h=>?_⟩
  obtain ⟨x0,rfl⟩:=len1 h
  kernel_rfl
theorem s_digit_of {Γ:Specs} {H:Nat} (hH:3≤H):Gss Γ (fScope (stm 10)) H (fBody (stm 10)) b_digit_of:=
  tC (tIf (kC2 kIn kL kIn) (tC (tR (kB kL kIn)) tN) tN) (tC (tIf (kC2 kIn kL kIn) (tC (tR (kB kL kIn)) tN) tN) (tC (tIf (kC2 kIn kL kIn) (tC (tR (kB kL kIn)) tN) tN) (tC (tR (kN kIn)) tN)))
theorem e_read_digits0 (P:Params):∃ fd,FnF P 124 (stm 11) ["text","at","base","width"] fd:=by
  refine ⟨_,⟨(show (KF P).lookup 124=some (o124 P) by kernel_rfl),rfl,rfl,rfl,rfl,rfl,rfl,⟨123,o123 P,_,_,rfl,(by kernel_rfl),rfl,rfl⟩⟩,by kernel_rfl,by kernel_rfl,by kernel_rfl,by kernel_rfl,by kernel_rfl,by decide +kernel,fun S args h=>?_⟩
  obtain ⟨x0,x1,x2,x3,rfl⟩:=len4 h
  kernel_rfl
theorem s_read_digits0 {Γ:Specs} {H:Nat} (hH:3≤H):Gss Γ (fScope (stm 11)) H (fBody (stm 11)) b_read_digits0:=
  tC (tT2 (kc kIn (kc (kB (kB kIn kL) kIn) kn))) (tC (tW (kC kL (kBi (kc kL kn))) (tC (tA (kCa (kc (kX kL kL) kn))) (tC (tIf (kOr (kc (kC kL kIn) (kc (kC kL kL) kn))) (tC tBk tN) tN) (tC (tA (kB (kB (kB kL kL) kL) kL)) (tC (tA (kB kL kIn)) tN))))) (tC (tR (kT (kc kL (kc kL kn)))) tN))
theorem e_skip_blanks (P:Params):∃ fd,FnF P 131 (stm 12) ["text","at"] fd:=by
  refine ⟨_,⟨(show (KF P).lookup 131=some (o131 P) by kernel_rfl),rfl,rfl,rfl,rfl,rfl,rfl,⟨130,o130 P,_,_,rfl,(by kernel_rfl),rfl,rfl⟩⟩,by kernel_rfl,by kernel_rfl,by kernel_rfl,by kernel_rfl,by kernel_rfl,by decide +kernel,fun S args h=>?_⟩
  obtain ⟨x0,x1,rfl⟩:=len2 h
  kernel_rfl
theorem s_skip_blanks {Γ:Specs} {H:Nat} (hH:3≤H):Gss Γ (fScope (stm 12)) H (fBody (stm 12)) b_skip_blanks:=
  tC (tW (kAn (kc (kC kL (kBi (kc kL kn))) (kc (kCa (kc (kX kL kL) kn)) kn))) (tC (tA (kB kL kIn)) tN)) (tC (tR kL) tN)
theorem e_str_to_number (P:Params):∃ fd,FnF P 138 (stm 13) ["text","limits"] fd:=by
  refine ⟨_,⟨(show (KF P).lookup 138=some (o138 P) by kernel_rfl),rfl,rfl,rfl,rfl,rfl,rfl,⟨137,o137 P,_,_,rfl,(by kernel_rfl),rfl,rfl⟩⟩,by kernel_rfl,by kernel_rfl,by kernel_rfl,by kernel_rfl,by kernel_rfl,by decide +kernel,fun S args h=>?_⟩
  obtain ⟨x0,x1,rfl⟩:=len2 h
  kernel_rfl
theorem s_str_to_number {Γ:Specs} {H:Nat} (hH:3≤H):Gss Γ (fScope (stm 13)) H (fBody (stm 13)) b_str_to_number:=
  tC (tR (kCa (kc kL (kc kIn (kc kL kn))))) tN
theorem e_text_in_base (P:Params):∃ fd,FnF P 145 (stm 14) ["text","base","limits"] fd:=by
  refine ⟨_,⟨(show (KF P).lookup 145=some (o145 P) by kernel_rfl),rfl,rfl,rfl,rfl,rfl,rfl,⟨144,o144 P,_,_,rfl,(by kernel_rfl),rfl,rfl⟩⟩,by kernel_rfl,by kernel_rfl,by kernel_rfl,by kernel_rfl,by kernel_rfl,by decide +kernel,fun S args h=>?_⟩
  obtain ⟨x0,x1,x2,rfl⟩:=len3 h
  kernel_rfl
theorem s_text_in_base {Γ:Specs} {H:Nat} (hH:3≤H):Gss Γ (fScope (stm 14)) H (fBody (stm 14)) b_text_in_base:=
  tC (tT2 (kc (kCa (kc kL (kc kIn kn))) (kc kBo kn))) (tC (tIf (kAn (kc (kC kL (kBi (kc kL kn))) (kc (kC (kX kL kL) kBy) kn))) (tC (tA (kC (kX kL kL) kIn)) (tC (tA (kB kL kIn)) tN)) tN) (tC (tA (kAn (kc (kC (kB kL kIn) (kBi (kc kL kn))) (kc (kC (kX kL kL) kIn) (kc (kC (kX kL (kB kL kIn)) kBy) (kc (kC kL (kT (kc kIn (kc kIn kn)))) kn)))))) (tC (tIf (kAn (kc kL (kc (kC2 kIn (kCa (kc (kX kL (kB kL kIn)) kn)) kIn) kn))) (tC (tT2 (kc (kB kL kIn) (kc kIn kn))) tN) tN) (tC (tU2 (kCa (kc kL (kc kL (kc (kI (kC kL kIn) kIn kL) (kc (kF abN kL) kn)))))) (tC (tIf (kOr (kc (kC kL kL) (kc (kC (kCa (kc kL (kc kL kn))) (kBi (kc kL kn))) kn))) (tC (tR kNo) tN) tN) (tC (tR (kCa (kc (kI kL (kN kL) kL) (kc (kF abN kL) kn)))) tN))))))
theorem e_number_text (P:Params):∃ fd,FnF P 152 (stm 15) ["n"] fd:=by
  refine ⟨_,⟨(show (KF P).lookup 152=some (o152 P) by kernel_rfl),rfl,rfl,rfl,rfl,rfl,rfl,⟨151,o151 P,_,_,rfl,(by kernel_rfl),rfl,rfl⟩⟩,by kernel_rfl,by kernel_rfl,by kernel_rfl,by kernel_rfl,by kernel_rfl,by decide +kernel,fun S args h=>?_⟩
  obtain ⟨x0,rfl⟩:=len1 h
  kernel_rfl
theorem s_number_text {Γ:Specs} {H:Nat} (hH:3≤H):Gss Γ (fScope (stm 15)) H (fBody (stm 15)) b_number_text:=
  tC (tTn (kBi (kc kL kn))) (tC (tW (kC kL kIn) (tC (tAp (kB kIn (kB kL kIn))) (tC (tA (kB kL kIn)) tN))) (tC (tAp (kB kIn kL)) (tC (tIf (kC kL kIn) (tC (tAp kIn) tN) tN) (tC tRv (tC (tR (kBi (kc kL kn))) tN)))))
theorem e_to_text (P:Params):∃ fd,FnF P 159 (stm 16) ["value"] fd:=by
  refine ⟨_,⟨(show (KF P).lookup 159=some (o159 P) by kernel_rfl),rfl,rfl,rfl,rfl,rfl,rfl,⟨158,o158 P,_,_,rfl,(by kernel_rfl),rfl,rfl⟩⟩,by kernel_rfl,by kernel_rfl,by kernel_rfl,by kernel_rfl,by kernel_rfl,by decide +kernel,fun S args h=>?_⟩
  obtain ⟨x0,rfl⟩:=len1 h
  kernel_rfl
theorem s_to_text {Γ:Specs} {H:Nat} (hH:3≤H):Gss Γ (fScope (stm 16)) H (fBody (stm 16)) b_to_text:=
  tC (tIf (kIs kL) (tC (tR kL) tN) tN) (tC (tIf (kCa (kc kL kn)) (tC (tR (kCa (kc kL kn))) tN) tN) (tC (tR kNo) tN))
theorem e_c_text (P:Params):∃ fd,FnF P 166 (stm 17) ["text"] fd:=by
  refine ⟨_,⟨(show (KF P).lookup 166=some (o166 P) by kernel_rfl),rfl,rfl,rfl,rfl,rfl,rfl,⟨165,o165 P,_,_,rfl,(by kernel_rfl),rfl,rfl⟩⟩,by kernel_rfl,by kernel_rfl,by kernel_rfl,by kernel_rfl,by kernel_rfl,by decide +kernel,fun S args h=>?_⟩
  obtain ⟨x0,rfl⟩:=len1 h
  kernel_rfl
theorem s_c_text {Γ:Specs} {H:Nat} (hH:3≤H):Gss Γ (fScope (stm 17)) H (fBody (stm 17)) b_c_text:=
  tC (tA kIn) (tC (tW (kAn (kc (kC kL (kBi (kc kL kn))) (kc (kC (kX kL kL) kIn) kn))) (tC (tA (kB kL kIn)) tN)) (tC (tR (kSa kL kL)) tN))
theorem e_chunk_id (P:Params):∃ fd,FnF P 180 (stm 19) ["source","size"] fd:=by
  refine ⟨_,⟨(show (KF P).lookup 180=some (o180 P) by kernel_rfl),rfl,rfl,rfl,rfl,rfl,rfl,⟨179,o179 P,_,_,rfl,(by kernel_rfl),rfl,rfl⟩⟩,by kernel_rfl,by kernel_rfl,by kernel_rfl,by kernel_rfl,by kernel_rfl,by decide +kernel,fun S args h=>?_⟩
  obtain ⟨x0,x1,rfl⟩:=len2 h
  kernel_rfl
theorem s_chunk_id {Γ:Specs} {H:Nat} (hH:3≤H):Gss Γ (fScope (stm 19)) H (fBody (stm 19)) b_chunk_id:=
  tC (tA (kCa (kc kL kn))) (tC (tIf (kC (kSa kL kIn) kBy) (tC (tR (kSc kL kIn kL)) tN) tN) (tC (tIf (kC (kSa kL kIn) kBy) (tC tD (tC tD tN)) tN) (tC tD (tC (tIf (kC (kBi (kc kL kn)) kL) (tC (tA (kSa kL kL)) tN) tN) (tC (tIf (kC (kBi (kc kL kn)) (kBi (kc kL kn))) (tC (tA (kB kL kBy)) tN) tN) (tC (tR (kB (kB kBy kL) kBy)) tN))))))
theorem e_is_digit (P:Params):∃ fd,FnF P 189 (stm 52) ["sign"] fd:=by
  refine ⟨_,⟨(show (KF P).lookup 189=some (o189 P) by kernel_rfl),rfl,rfl,rfl,rfl,rfl,rfl,⟨188,o188 P,_,_,rfl,(by kernel_rfl),rfl,rfl⟩⟩,by kernel_rfl,by kernel_rfl,by kernel_rfl,by kernel_rfl,by kernel_rfl,by decide +kernel,fun S args h=>?_⟩
  obtain ⟨x0,rfl⟩:=len1 h
  kernel_rfl
theorem s_is_digit {Γ:Specs} {H:Nat} (hH:3≤H):Gss Γ (fScope (stm 52)) H (fBody (stm 52)) b_is_digit:=
  tC (tR (kC2 kIn kL kIn)) tN
theorem e_is_letter (P:Params):∃ fd,FnF P 196 (stm 53) ["sign"] fd:=by
  refine ⟨_,⟨(show (KF P).lookup 196=some (o196 P) by kernel_rfl),rfl,rfl,rfl,rfl,rfl,rfl,⟨195,o195 P,_,_,rfl,(by kernel_rfl),rfl,rfl⟩⟩,by kernel_rfl,by kernel_rfl,by kernel_rfl,by kernel_rfl,by kernel_rfl,by decide +kernel,fun S args h=>?_⟩
  obtain ⟨x0,rfl⟩:=len1 h
  kernel_rfl
theorem s_is_letter {Γ:Specs} {H:Nat} (hH:3≤H):Gss Γ (fScope (stm 53)) H (fBody (stm 53)) b_is_letter:=
  tC (tR (kOr (kc (kC2 kIn kL kIn) (kc (kC2 kIn kL kIn) (kc (kC kL kG) kn))))) tN
theorem e_is_name_sign (P:Params):∃ fd,FnF P 203 (stm 54) ["sign"] fd:=by
  refine ⟨_,⟨(show (KF P).lookup 203=some (o203 P) by kernel_rfl),rfl,rfl,rfl,rfl,rfl,rfl,⟨202,o202 P,_,_,rfl,(by kernel_rfl),rfl,rfl⟩⟩,by kernel_rfl,by kernel_rfl,by kernel_rfl,by kernel_rfl,by kernel_rfl,by decide +kernel,fun S args h=>?_⟩
  obtain ⟨x0,rfl⟩:=len1 h
  kernel_rfl
theorem s_is_name_sign {Γ:Specs} {H:Nat} (hH:3≤H):Gss Γ (fScope (stm 54)) H (fBody (stm 54)) b_is_name_sign:=
  tC (tR (kOr (kc (kCa (kc kL kn)) (kc (kCa (kc kL kn)) kn)))) tN
theorem e_is_blank_lexer (P:Params):∃ fd,FnF P 210 (stm 55) ["sign"] fd:=by
  refine ⟨_,⟨(show (KF P).lookup 210=some (o210 P) by kernel_rfl),rfl,rfl,rfl,rfl,rfl,rfl,⟨209,o209 P,_,_,rfl,(by kernel_rfl),rfl,rfl⟩⟩,by kernel_rfl,by kernel_rfl,by kernel_rfl,by kernel_rfl,by kernel_rfl,by decide +kernel,fun S args h=>?_⟩
  obtain ⟨x0,rfl⟩:=len1 h
  kernel_rfl
theorem s_is_blank_lexer {Γ:Specs} {H:Nat} (hH:3≤H):Gss Γ (fScope (stm 55)) H (fBody (stm 55)) b_is_blank_lexer:=
  tC (tR (kOr (kc (kC kL kIn) (kc (kC2 kIn kL kIn) kn)))) tN
theorem e_is_control (P:Params):∃ fd,FnF P 217 (stm 57) ["sign"] fd:=by
  refine ⟨_,⟨(show (KF P).lookup 217=some (o217 P) by kernel_rfl),rfl,rfl,rfl,rfl,rfl,rfl,⟨216,o216 P,_,_,rfl,(by kernel_rfl),rfl,rfl⟩⟩,by kernel_rfl,by kernel_rfl,by kernel_rfl,by kernel_rfl,by kernel_rfl,by decide +kernel,fun S args h=>?_⟩
  obtain ⟨x0,rfl⟩:=len1 h
  kernel_rfl
theorem s_is_control {Γ:Specs} {H:Nat} (hH:3≤H):Gss Γ (fScope (stm 57)) H (fBody (stm 57)) b_is_control:=
  tC (tR (kOr (kc (kC2 kIn kL kIn) (kc (kC kL kIn) kn)))) tN
theorem e_is_newline (P:Params):∃ fd,FnF P 224 (stm 58) ["sign"] fd:=by
  refine ⟨_,⟨(show (KF P).lookup 224=some (o224 P) by kernel_rfl),rfl,rfl,rfl,rfl,rfl,rfl,⟨223,o223 P,_,_,rfl,(by kernel_rfl),rfl,rfl⟩⟩,by kernel_rfl,by kernel_rfl,by kernel_rfl,by kernel_rfl,by kernel_rfl,by decide +kernel,fun S args h=>?_⟩
  obtain ⟨x0,rfl⟩:=len1 h
  kernel_rfl
theorem s_is_newline {Γ:Specs} {H:Nat} (hH:3≤H):Gss Γ (fScope (stm 58)) H (fBody (stm 58)) b_is_newline:=
  tC (tR (kC kL (kT (kc kG (kc kG kn))))) tN
theorem e_escaped_sign (P:Params):∃ fd,FnF P 231 (stm 59) ["sign"] fd:=by
  refine ⟨_,⟨(show (KF P).lookup 231=some (o231 P) by kernel_rfl),rfl,rfl,rfl,rfl,rfl,rfl,⟨230,o230 P,_,_,rfl,(by kernel_rfl),rfl,rfl⟩⟩,by kernel_rfl,by kernel_rfl,by kernel_rfl,by kernel_rfl,by kernel_rfl,by decide +kernel,fun S args h=>?_⟩
  obtain ⟨x0,rfl⟩:=len1 h
  kernel_rfl
theorem s_escaped_sign {Γ:Specs} {H:Nat} (hH:3≤H):Gss Γ (fScope (stm 59)) H (fBody (stm 59)) b_escaped_sign:=
  tC (tA (kFi mbC kBy (kc (kBi (kc (kLs (kc kL kn)) kn)) kn))) (tC (tR (kI (kC kL kIn) kNo (kX kBy kL))) tN)
theorem e_token_text (P:Params):∃ fd,FnF P 245 (stm 61) ["kind"] fd:=by
  refine ⟨_,⟨(show (KF P).lookup 245=some (o245 P) by kernel_rfl),rfl,rfl,rfl,rfl,rfl,rfl,⟨244,o244 P,_,_,rfl,(by kernel_rfl),rfl,rfl⟩⟩,by kernel_rfl,by kernel_rfl,by kernel_rfl,by kernel_rfl,by kernel_rfl,by decide +kernel,fun S args h=>?_⟩
  obtain ⟨x0,rfl⟩:=len1 h
  kernel_rfl
theorem s_token_text {Γ:Specs} {H:Nat} (hH:3≤H):Gss Γ (fScope (stm 61)) H (fBody (stm 61)) b_token_text:=
  tC (tIf (kC kL kG) (tC (tIf (kCa (kc kL kn)) (tC (tR (kB (kB kBy (kCa (kc kL kn))) kBy)) tN) tN) (tC (tR (kBi (kc (kLs (kc kL kn)) kn))) tN)) tN) (tC (tA (kB kL kG)) (tC (tR (kI (kC kL (kBi (kc kG kn))) (kX kG kL) (kX kG (kB kL (kBi (kc kG kn)))))) tN))
theorem e_lexer_init (P:Params):∃ fd,FnF P 280 (stc 63 0) ["self","text","chunk","limits"] fd:=by
  refine ⟨_,⟨(show (KF P).lookup 280=some (o280 P) by kernel_rfl),rfl,rfl,rfl,rfl,rfl,rfl,⟨279,o279 P,_,_,rfl,(by kernel_rfl),rfl,rfl⟩⟩,by kernel_rfl,by kernel_rfl,by kernel_rfl,by kernel_rfl,by kernel_rfl,by decide +kernel,fun S args h=>?_⟩
  obtain ⟨x0,x1,x2,x3,rfl⟩:=len4 h
  kernel_rfl
theorem s_lexer_init {Γ:Specs} {H:Nat} (hH:3≤H):Gss Γ (fScope (stc 63 0)) H (fBody (stc 63 0)) b_lexer_init:=
  tC (tF kL kL) (tC (tF kL kL) (tC (tF kL (kCa (kc kL (kc kG kn)))) (tC (tF kL kL) (tC (tF kL (kCa kn)) (tC (tF kL kIn) (tC (tF kL (kI (kC (kBi (kc kL kn)) kIn) (kX kL kIn) kG)) (tC (tF kL kIn) (tC (tF kL kIn) (tC tCl (tC (tF kL (kTk hH (kc kG (kc kNo kn)))) (tC (tF kL kNo) tN)))))))))))
theorem e_next (P:Params):∃ fd,FnF P 287 (stc 63 1) ["self"] fd:=by
  refine ⟨_,⟨(show (KF P).lookup 287=some (o287 P) by kernel_rfl),rfl,rfl,rfl,rfl,rfl,rfl,⟨286,o286 P,_,_,rfl,(by kernel_rfl),rfl,rfl⟩⟩,by kernel_rfl,by kernel_rfl,by kernel_rfl,by kernel_rfl,by kernel_rfl,by decide +kernel,fun S args h=>?_⟩
  obtain ⟨x0,rfl⟩:=len1 h
  kernel_rfl
theorem s_next {Γ:Specs} {H:Nat} (hH:3≤H):Gss Γ (fScope (stc 63 1)) H (fBody (stc 63 1)) b_next:=
  tC (tF kL (kF abN kL)) (tC (tIf (kC (kF abN kL) kNo) (tC (tF kL (kF abN kL)) (tC (tF kL kNo) tN)) (tC (tF kL (kM mbN kL kn)) tN)) (tC (tR (kF abN kL)) tN))
theorem e_lookahead (P:Params):∃ fd,FnF P 294 (stc 63 2) ["self"] fd:=by
  refine ⟨_,⟨(show (KF P).lookup 294=some (o294 P) by kernel_rfl),rfl,rfl,rfl,rfl,rfl,rfl,⟨293,o293 P,_,_,rfl,(by kernel_rfl),rfl,rfl⟩⟩,by kernel_rfl,by kernel_rfl,by kernel_rfl,by kernel_rfl,by kernel_rfl,by decide +kernel,fun S args h=>?_⟩
  obtain ⟨x0,rfl⟩:=len1 h
  kernel_rfl
theorem s_lookahead {Γ:Specs} {H:Nat} (hH:3≤H):Gss Γ (fScope (stc 63 2)) H (fBody (stc 63 2)) b_lookahead:=
  tC (tIf (kC (kF abN kL) kNo) (tC (tF kL (kM mbN kL kn)) tN) tN) (tC (tR (kF abN kL)) tN)
theorem e_error (P:Params):∃ fd,FnF P 301 (stc 63 3) ["self","text","kind"] fd:=by
  refine ⟨_,⟨(show (KF P).lookup 301=some (o301 P) by kernel_rfl),rfl,rfl,rfl,rfl,rfl,rfl,⟨300,o300 P,_,_,rfl,(by kernel_rfl),rfl,rfl⟩⟩,by kernel_rfl,by kernel_rfl,by kernel_rfl,by kernel_rfl,by kernel_rfl,by decide +kernel,fun S args h=>?_⟩
  obtain ⟨x0,x1,x2,rfl⟩:=len3 h
  kernel_rfl
theorem s_error {Γ:Specs} {H:Nat} (hH:3≤H):Gss Γ (fScope (stc 63 3)) H (fBody (stc 63 3)) b_error:=
  tC (tA (kB (kB (kB (kB (kF abN kL) kBy) (kCa (kc (kF abN kL) kn))) kBy) kL)) (tC (tIf (kAn (kc (kC kL kNo) (kc (kC kL kIn) kn))) (tC (tA (kB (kB (kB kL kBy) (kM mbN kL (kc kL kn))) kBy)) tN) tN) (tC (tRa hH kL) tN))
theorem e_syntax_error (P:Params):∃ fd,FnF P 308 (stc 63 4) ["self","text"] fd:=by
  refine ⟨_,⟨(show (KF P).lookup 308=some (o308 P) by kernel_rfl),rfl,rfl,rfl,rfl,rfl,rfl,⟨307,o307 P,_,_,rfl,(by kernel_rfl),rfl,rfl⟩⟩,by kernel_rfl,by kernel_rfl,by kernel_rfl,by kernel_rfl,by kernel_rfl,by decide +kernel,fun S args h=>?_⟩
  obtain ⟨x0,x1,rfl⟩:=len2 h
  kernel_rfl
theorem s_syntax_error {Γ:Specs} {H:Nat} (hH:3≤H):Gss Γ (fScope (stc 63 4)) H (fBody (stc 63 4)) b_syntax_error:=
  tC (tE (kM mbN kL (kc kL (kc (kF abA (kF abN kL)) kn)))) tN
theorem e_near_text (P:Params):∃ fd,FnF P 315 (stc 63 5) ["self","kind"] fd:=by
  refine ⟨_,⟨(show (KF P).lookup 315=some (o315 P) by kernel_rfl),rfl,rfl,rfl,rfl,rfl,rfl,⟨314,o314 P,_,_,rfl,(by kernel_rfl),rfl,rfl⟩⟩,by kernel_rfl,by kernel_rfl,by kernel_rfl,by kernel_rfl,by kernel_rfl,by decide +kernel,fun S args h=>?_⟩
  obtain ⟨x0,x1,rfl⟩:=len2 h
  kernel_rfl
theorem s_near_text {Γ:Specs} {H:Nat} (hH:3≤H):Gss Γ (fScope (stc 63 5)) H (fBody (stc 63 5)) b_near_text:=
  tC (tIf (kC kL (kT (kc kG (kc kG (kc kG kn))))) (tC (tR (kCa (kc kBb kn))) tN) tN) (tC (tR (kCa (kc kL kn))) tN)
theorem e_move (P:Params):∃ fd,FnF P 322 (stc 63 6) ["self"] fd:=by
  refine ⟨_,⟨(show (KF P).lookup 322=some (o322 P) by kernel_rfl),rfl,rfl,rfl,rfl,rfl,rfl,⟨321,o321 P,_,_,rfl,(by kernel_rfl),rfl,rfl⟩⟩,by kernel_rfl,by kernel_rfl,by kernel_rfl,by kernel_rfl,by kernel_rfl,by decide +kernel,fun S args h=>?_⟩
  obtain ⟨x0,rfl⟩:=len1 h
  kernel_rfl
theorem s_move {Γ:Specs} {H:Nat} (hH:3≤H):Gss Γ (fScope (stc 63 6)) H (fBody (stc 63 6)) b_move:=
  tC (tAf iI) (tC (tF kL (kI (kC (kF abN kL) (kBi (kc (kF abN kL) kn))) (kX (kF abN kL) (kF abN kL)) kG)) tN)
theorem e_keep (P:Params):∃ fd,FnF P 329 (stc 63 7) ["self","sign"] fd:=by
  refine ⟨_,⟨(show (KF P).lookup 329=some (o329 P) by kernel_rfl),rfl,rfl,rfl,rfl,rfl,rfl,⟨328,o328 P,_,_,rfl,(by kernel_rfl),rfl,rfl⟩⟩,by kernel_rfl,by kernel_rfl,by kernel_rfl,by kernel_rfl,by kernel_rfl,by decide +kernel,fun S args h=>?_⟩
  obtain ⟨x0,x1,rfl⟩:=len2 h
  kernel_rfl
theorem s_keep {Γ:Specs} {H:Nat} (hH:3≤H):Gss Γ (fScope (stc 63 7)) H (fBody (stc 63 7)) b_keep:=
  tC (tIf (kC kLe (kF abA (kF abN kL))) (tC (tE (kM mbN kL (kc kBy (kc kNo kn)))) tN) tN) (tC (tAb iL) tN)
theorem e_keep_and_move (P:Params):∃ fd,FnF P 336 (stc 63 8) ["self"] fd:=by
  refine ⟨_,⟨(show (KF P).lookup 336=some (o336 P) by kernel_rfl),rfl,rfl,rfl,rfl,rfl,rfl,⟨335,o335 P,_,_,rfl,(by kernel_rfl),rfl,rfl⟩⟩,by kernel_rfl,by kernel_rfl,by kernel_rfl,by kernel_rfl,by kernel_rfl,by decide +kernel,fun S args h=>?_⟩
  obtain ⟨x0,rfl⟩:=len1 h
  kernel_rfl
theorem s_keep_and_move {Γ:Specs} {H:Nat} (hH:3≤H):Gss Γ (fScope (stc 63 8)) H (fBody (stc 63 8)) b_keep_and_move:=
  tC (tE (kM mbN kL (kc (kF abN kL) kn))) (tC (tE (kM mbN kL kn)) tN)
theorem e_keep_if (P:Params):∃ fd,FnF P 343 (stc 63 9) ["self","signs"] fd:=by
  refine ⟨_,⟨(show (KF P).lookup 343=some (o343 P) by kernel_rfl),rfl,rfl,rfl,rfl,rfl,rfl,⟨342,o342 P,_,_,rfl,(by kernel_rfl),rfl,rfl⟩⟩,by kernel_rfl,by kernel_rfl,by kernel_rfl,by kernel_rfl,by kernel_rfl,by decide +kernel,fun S args h=>?_⟩
  obtain ⟨x0,x1,rfl⟩:=len2 h
  kernel_rfl
theorem s_keep_if {Γ:Specs} {H:Nat} (hH:3≤H):Gss Γ (fScope (stc 63 9)) H (fBody (stc 63 9)) b_keep_if:=
  tC (tIf (kC (kF abN kL) kL) (tC (tR kBo) tN) tN) (tC (tE (kM mbN kL kn)) (tC (tR kBo) tN))
theorem e_clear (P:Params):∃ fd,FnF P 350 (stc 63 10) ["self"] fd:=by
  refine ⟨_,⟨(show (KF P).lookup 350=some (o350 P) by kernel_rfl),rfl,rfl,rfl,rfl,rfl,rfl,⟨349,o349 P,_,_,rfl,(by kernel_rfl),rfl,rfl⟩⟩,by kernel_rfl,by kernel_rfl,by kernel_rfl,by kernel_rfl,by kernel_rfl,by decide +kernel,fun S args h=>?_⟩
  obtain ⟨x0,rfl⟩:=len1 h
  kernel_rfl
theorem s_clear {Γ:Specs} {H:Nat} (hH:3≤H):Gss Γ (fScope (stc 63 10)) H (fBody (stc 63 10)) b_clear:=
  tC tCl tN
theorem e_end_line (P:Params):∃ fd,FnF P 357 (stc 63 11) ["self"] fd:=by
  refine ⟨_,⟨(show (KF P).lookup 357=some (o357 P) by kernel_rfl),rfl,rfl,rfl,rfl,rfl,rfl,⟨356,o356 P,_,_,rfl,(by kernel_rfl),rfl,rfl⟩⟩,by kernel_rfl,by kernel_rfl,by kernel_rfl,by kernel_rfl,by kernel_rfl,by decide +kernel,fun S args h=>?_⟩
  obtain ⟨x0,rfl⟩:=len1 h
  kernel_rfl
theorem s_end_line {Γ:Specs} {H:Nat} (hH:3≤H):Gss Γ (fScope (stc 63 11)) H (fBody (stc 63 11)) b_end_line:=
  tC (tA (kF abN kL)) (tC (tE (kM mbN kL kn)) (tC (tIf (kAn (kc (kCa (kc (kF abN kL) kn)) (kc (kC (kF abN kL) kL) kn))) (tC (tE (kM mbN kL kn)) tN) tN) (tC (tAf iI) (tC (tIf (kC (kF abN kL) kG) (tC (tE (kM mbN kL (kc kBy kn))) tN) tN) tN))))
theorem e_read (P:Params):∃ fd,FnF P 364 (stc 63 12) ["self"] fd:=by
  refine ⟨_,⟨(show (KF P).lookup 364=some (o364 P) by kernel_rfl),rfl,rfl,rfl,rfl,rfl,rfl,⟨363,o363 P,_,_,rfl,(by kernel_rfl),rfl,rfl⟩⟩,by kernel_rfl,by kernel_rfl,by kernel_rfl,by kernel_rfl,by kernel_rfl,by decide +kernel,fun S args h=>?_⟩
  obtain ⟨x0,rfl⟩:=len1 h
  kernel_rfl
theorem s_read {Γ:Specs} {H:Nat} (hH:3≤H):Gss Γ (fScope (stc 63 12)) H (fBody (stc 63 12)) b_read:=
  tC (tE (kM mbN kL kn)) (tC (tW (kM mbN kL kn) (tC tPs tN)) (tC (tA (kF abN kL)) (tC (tIf (kC kL kG) (tC (tR (kTk hH (kc kG (kc kNo kn)))) tN) tN) (tC (tIf (kC kL (kT (kc kG (kc kG kn)))) (tC (tR (kM mbN kL (kc kL kn))) tN) tN) (tC (tIf (kC kL kG) (tC (tR (kM mbN kL kn)) tN) tN) (tC (tIf (kC kL kG) (tC (tR (kM mbN kL kn)) tN) tN) (tC (tIf (kCa (kc kL kn)) (tC (tR (kM mbN kL kn)) tN) tN) (tC (tIf (kCa (kc kL kn)) (tC (tR (kM mbN kL kn)) tN) tN) (tC (tIf (kC kL kG) (tC (tE (kM mbN kL kn)) (tC (tR (kTk hH (kc kG (kc kNo kn)))) tN)) tN) (tC (tIf (kC kL (kT (kc kG (kc kG (kc kG (kc kG kn)))))) (tC (tR (kM mbN kL (kc kL kn))) tN) tN) (tC (tE (kM mbN kL kn)) (tC (tR (kTk hH (kc kL (kc kNo kn)))) tN))))))))))))
theorem e_skip_blank (P:Params):∃ fd,FnF P 371 (stc 63 13) ["self"] fd:=by
  refine ⟨_,⟨(show (KF P).lookup 371=some (o371 P) by kernel_rfl),rfl,rfl,rfl,rfl,rfl,rfl,⟨370,o370 P,_,_,rfl,(by kernel_rfl),rfl,rfl⟩⟩,by kernel_rfl,by kernel_rfl,by kernel_rfl,by kernel_rfl,by kernel_rfl,by decide +kernel,fun S args h=>?_⟩
  obtain ⟨x0,rfl⟩:=len1 h
  kernel_rfl
theorem s_skip_blank {Γ:Specs} {H:Nat} (hH:3≤H):Gss Γ (fScope (stc 63 13)) H (fBody (stc 63 13)) b_skip_blank:=
  tC (tIf (kCa (kc (kF abN kL) kn)) (tC (tE (kM mbN kL kn)) (tC (tR kBo) tN)) tN) (tC (tIf (kCa (kc (kF abN kL) kn)) (tC (tE (kM mbN kL kn)) (tC (tR kBo) tN)) tN) (tC (tIf (kAn (kc (kC (kF abN kL) kG) (kc (kC (kM mbN kL kn) kG) kn))) (tC (tE (kM mbN kL kn)) (tC (tR kBo) tN)) tN) (tC (tR kBo) tN)))
theorem e_sign_behind (P:Params):∃ fd,FnF P 378 (stc 63 14) ["self"] fd:=by
  refine ⟨_,⟨(show (KF P).lookup 378=some (o378 P) by kernel_rfl),rfl,rfl,rfl,rfl,rfl,rfl,⟨377,o377 P,_,_,rfl,(by kernel_rfl),rfl,rfl⟩⟩,by kernel_rfl,by kernel_rfl,by kernel_rfl,by kernel_rfl,by kernel_rfl,by decide +kernel,fun S args h=>?_⟩
  obtain ⟨x0,rfl⟩:=len1 h
  kernel_rfl
theorem s_sign_behind {Γ:Specs} {H:Nat} (hH:3≤H):Gss Γ (fScope (stc 63 14)) H (fBody (stc 63 14)) b_sign_behind:=
  tC (tR (kI (kC (kB (kF abN kL) kIn) (kBi (kc (kF abN kL) kn))) (kX (kF abN kL) (kB (kF abN kL) kIn)) kG)) tN
theorem e_skip_comment (P:Params):∃ fd,FnF P 385 (stc 63 15) ["self"] fd:=by
  refine ⟨_,⟨(show (KF P).lookup 385=some (o385 P) by kernel_rfl),rfl,rfl,rfl,rfl,rfl,rfl,⟨384,o384 P,_,_,rfl,(by kernel_rfl),rfl,rfl⟩⟩,by kernel_rfl,by kernel_rfl,by kernel_rfl,by kernel_rfl,by kernel_rfl,by decide +kernel,fun S args h=>?_⟩
  obtain ⟨x0,rfl⟩:=len1 h
  kernel_rfl
theorem s_skip_comment {Γ:Specs} {H:Nat} (hH:3≤H):Gss Γ (fScope (stc 63 15)) H (fBody (stc 63 15)) b_skip_comment:=
  tC (tE (kM mbN kL kn)) (tC (tE (kM mbN kL kn)) (tC (tIf (kC (kF abN kL) kG) (tC (tA (kM mbN kL kn)) (tC (tE (kM mbN kL kn)) (tC (tIf (kC kL kIn) (tC (tE (kM mbN kL (kc kL (kc kBo kn)))) (tC (tE (kM mbN kL kn)) (tC tRn tN))) tN) tN))) tN) (tC (tW (kAn (kc (kNt (kCa (kc (kF abN kL) kn))) (kc (kC (kF abN kL) kG) kn))) (tC (tE (kM mbN kL kn)) tN)) tN)))
theorem e_read_compared (P:Params):∃ fd,FnF P 392 (stc 63 16) ["self","sign"] fd:=by
  refine ⟨_,⟨(show (KF P).lookup 392=some (o392 P) by kernel_rfl),rfl,rfl,rfl,rfl,rfl,rfl,⟨391,o391 P,_,_,rfl,(by kernel_rfl),rfl,rfl⟩⟩,by kernel_rfl,by kernel_rfl,by kernel_rfl,by kernel_rfl,by kernel_rfl,by decide +kernel,fun S args h=>?_⟩
  obtain ⟨x0,x1,rfl⟩:=len2 h
  kernel_rfl
theorem s_read_compared {Γ:Specs} {H:Nat} (hH:3≤H):Gss Γ (fScope (stc 63 16)) H (fBody (stc 63 16)) b_read_compared:=
  tC (tE (kM mbN kL kn)) (tC (tIf (kC (kF abN kL) kG) (tC (tR (kTk hH (kc kL (kc kNo kn)))) tN) tN) (tC (tE (kM mbN kL kn)) (tC (tIf (kC kL kG) (tC (tR (kTk hH (kc kG (kc kNo kn)))) tN) tN) (tC (tIf (kC kL kG) (tC (tR (kTk hH (kc kG (kc kNo kn)))) tN) tN) (tC (tR (kTk hH (kc (kI (kC kL kG) kG kG) (kc kNo kn)))) tN)))))
theorem e_read_dots (P:Params):∃ fd,FnF P 399 (stc 63 17) ["self"] fd:=by
  refine ⟨_,⟨(show (KF P).lookup 399=some (o399 P) by kernel_rfl),rfl,rfl,rfl,rfl,rfl,rfl,⟨398,o398 P,_,_,rfl,(by kernel_rfl),rfl,rfl⟩⟩,by kernel_rfl,by kernel_rfl,by kernel_rfl,by kernel_rfl,by kernel_rfl,by decide +kernel,fun S args h=>?_⟩
  obtain ⟨x0,rfl⟩:=len1 h
  kernel_rfl
theorem s_read_dots {Γ:Specs} {H:Nat} (hH:3≤H):Gss Γ (fScope (stc 63 17)) H (fBody (stc 63 17)) b_read_dots:=
  tC (tE (kM mbN kL kn)) (tC (tIf (kM mbN kL (kc (kT (kc kG kn)) kn)) (tC (tIf (kM mbN kL (kc (kT (kc kG kn)) kn)) (tC (tR (kTk hH (kc kG (kc kNo kn)))) tN) tN) (tC (tR (kTk hH (kc kG (kc kNo kn)))) tN)) tN) (tC (tIf (kCa (kc (kF abN kL) kn)) (tC (tR (kM mbN kL kn)) tN) tN) (tC (tR (kTk hH (kc kG (kc kNo kn)))) tN)))
theorem e_read_word (P:Params):∃ fd,FnF P 406 (stc 63 18) ["self"] fd:=by
  refine ⟨_,⟨(show (KF P).lookup 406=some (o406 P) by kernel_rfl),rfl,rfl,rfl,rfl,rfl,rfl,⟨405,o405 P,_,_,rfl,(by kernel_rfl),rfl,rfl⟩⟩,by kernel_rfl,by kernel_rfl,by kernel_rfl,by kernel_rfl,by kernel_rfl,by decide +kernel,fun S args h=>?_⟩
  obtain ⟨x0,rfl⟩:=len1 h
  kernel_rfl
theorem s_read_word {Γ:Specs} {H:Nat} (hH:3≤H):Gss Γ (fScope (stc 63 18)) H (fBody (stc 63 18)) b_read_word:=
  tC (tW (kCa (kc (kF abN kL) kn)) (tC (tE (kM mbN kL kn)) tN)) (tC (tA kBb) (tC (tA (kGe mbA (kF abN kL) (kc kL kn))) (tC (tR (kI (kC kL kNo) (kTk hH (kc kG (kc kL kn))) (kTk hH (kc kL (kc kNo kn))))) tN)))
theorem e_read_numeral (P:Params):∃ fd,FnF P 413 (stc 63 19) ["self"] fd:=by
  refine ⟨_,⟨(show (KF P).lookup 413=some (o413 P) by kernel_rfl),rfl,rfl,rfl,rfl,rfl,rfl,⟨412,o412 P,_,_,rfl,(by kernel_rfl),rfl,rfl⟩⟩,by kernel_rfl,by kernel_rfl,by kernel_rfl,by kernel_rfl,by kernel_rfl,by decide +kernel,fun S args h=>?_⟩
  obtain ⟨x0,rfl⟩:=len1 h
  kernel_rfl
theorem s_read_numeral {Γ:Specs} {H:Nat} (hH:3≤H):Gss Γ (fScope (stc 63 19)) H (fBody (stc 63 19)) b_read_numeral:=
  tC (tW (kOr (kc (kCa (kc (kF abN kL) kn)) (kc (kC (kF abN kL) kG) kn))) (tC (tE (kM mbN kL kn)) tN)) (tC (tIf (kM mbN kL (kc (kT (kc kIn (kc kIn kn))) kn)) (tC (tE (kM mbN kL (kc (kT (kc kG (kc kG kn))) kn))) tN) tN) (tC (tW (kCa (kc (kF abN kL) kn)) (tC (tE (kM mbN kL kn)) tN)) (tC (tA (kCa (kc kBb (kc (kF abN kL) kn)))) (tC (tIf (kC kL kNo) (tC (tE (kM mbN kL (kc kBy (kc kG kn)))) tN) tN) (tC (tR (kTk hH (kc kG (kc kL kn)))) tN)))))
theorem e_read_bracket (P:Params):∃ fd,FnF P 420 (stc 63 20) ["self"] fd:=by
  refine ⟨_,⟨(show (KF P).lookup 420=some (o420 P) by kernel_rfl),rfl,rfl,rfl,rfl,rfl,rfl,⟨419,o419 P,_,_,rfl,(by kernel_rfl),rfl,rfl⟩⟩,by kernel_rfl,by kernel_rfl,by kernel_rfl,by kernel_rfl,by kernel_rfl,by decide +kernel,fun S args h=>?_⟩
  obtain ⟨x0,rfl⟩:=len1 h
  kernel_rfl
theorem s_read_bracket {Γ:Specs} {H:Nat} (hH:3≤H):Gss Γ (fScope (stc 63 20)) H (fBody (stc 63 20)) b_read_bracket:=
  tC (tA (kM mbN kL kn)) (tC (tIf (kC kL kIn) (tC (tR (kTk hH (kc kG (kc (kM mbN kL (kc kL (kc kBo kn))) kn)))) tN) tN) (tC (tIf (kC kL (kN kIn)) (tC (tE (kM mbN kL (kc kBy (kc kG kn)))) tN) tN) (tC (tR (kTk hH (kc kG (kc kNo kn)))) tN)))
theorem e_read_level (P:Params):∃ fd,FnF P 427 (stc 63 21) ["self"] fd:=by
  refine ⟨_,⟨(show (KF P).lookup 427=some (o427 P) by kernel_rfl),rfl,rfl,rfl,rfl,rfl,rfl,⟨426,o426 P,_,_,rfl,(by kernel_rfl),rfl,rfl⟩⟩,by kernel_rfl,by kernel_rfl,by kernel_rfl,by kernel_rfl,by kernel_rfl,by decide +kernel,fun S args h=>?_⟩
  obtain ⟨x0,rfl⟩:=len1 h
  kernel_rfl
theorem s_read_level {Γ:Specs} {H:Nat} (hH:3≤H):Gss Γ (fScope (stc 63 21)) H (fBody (stc 63 21)) b_read_level:=
  tC (tA (kF abN kL)) (tC (tA kIn) (tC (tE (kM mbN kL kn)) (tC (tW (kC (kF abN kL) kG) (tC (tE (kM mbN kL kn)) (tC (tAu iI) tN))) (tC (tR (kI (kC (kF abN kL) kL) kL (kB (kN kL) kIn))) tN))))
theorem e_read_long (P:Params):∃ fd,FnF P 434 (stc 63 22) ["self","level","is_text"] fd:=by
  refine ⟨_,⟨(show (KF P).lookup 434=some (o434 P) by kernel_rfl),rfl,rfl,rfl,rfl,rfl,rfl,⟨433,o433 P,_,_,rfl,(by kernel_rfl),rfl,rfl⟩⟩,by kernel_rfl,by kernel_rfl,by kernel_rfl,by kernel_rfl,by kernel_rfl,by decide +kernel,fun S args h=>?_⟩
  obtain ⟨x0,x1,x2,rfl⟩:=len3 h
  kernel_rfl
theorem s_read_long {Γ:Specs} {H:Nat} (hH:3≤H):Gss Γ (fScope (stc 63 22)) H (fBody (stc 63 22)) b_read_long:=
  tC (tE (kM mbN kL kn)) (tC (tIf (kCa (kc (kF abN kL) kn)) (tC (tE (kM mbN kL kn)) tN) tN) (tC (tA kLe) (tC (tW kBo (tC (tIf (kC (kF abN kL) kG) (tC (tE (kM mbN kL (kc (kI kL kBy kBy) (kc kG kn)))) tN) (tC (tIf (kC (kF abN kL) kG) (tC (tE (kM mbN kL (kc kL kn))) tN) (tC (tIf (kC (kF abN kL) kG) (tC (tIf (kC (kM mbN kL kn) kL) (tC (tE (kM mbN kL kn)) (tC (tR (kBc iL (iS (iS iN iL) iI))) tN)) tN) tN) (tC (tIf (kCa (kc (kF abN kL) kn)) (tC (tE (kM mbN kL (kc kG kn))) (tC (tE (kM mbN kL kn)) (tC (tIf (kNt kL) (tC (tCu iL) tN) tN) tN))) (tC (tIf kL (tC (tE (kM mbN kL kn)) tN) (tC (tE (kM mbN kL kn)) tN)) tN)) tN)) tN)) tN)) tN)) tN)))
theorem e_read_inner (P:Params):∃ fd,FnF P 441 (stc 63 23) ["self","level"] fd:=by
  refine ⟨_,⟨(show (KF P).lookup 441=some (o441 P) by kernel_rfl),rfl,rfl,rfl,rfl,rfl,rfl,⟨440,o440 P,_,_,rfl,(by kernel_rfl),rfl,rfl⟩⟩,by kernel_rfl,by kernel_rfl,by kernel_rfl,by kernel_rfl,by kernel_rfl,by decide +kernel,fun S args h=>?_⟩
  obtain ⟨x0,x1,rfl⟩:=len2 h
  kernel_rfl
theorem s_read_inner {Γ:Specs} {H:Nat} (hH:3≤H):Gss Γ (fScope (stc 63 23)) H (fBody (stc 63 23)) b_read_inner:=
  tC (tIf (kC (kM mbN kL kn) kL) (tC (tE (kM mbN kL kn)) (tC (tIf (kC kL kIn) (tC (tE (kM mbN kL (kc kBy (kc kG kn)))) tN) tN) tN)) tN) tN
theorem e_read_string (P:Params):∃ fd,FnF P 448 (stc 63 24) ["self","quote"] fd:=by
  refine ⟨_,⟨(show (KF P).lookup 448=some (o448 P) by kernel_rfl),rfl,rfl,rfl,rfl,rfl,rfl,⟨447,o447 P,_,_,rfl,(by kernel_rfl),rfl,rfl⟩⟩,by kernel_rfl,by kernel_rfl,by kernel_rfl,by kernel_rfl,by kernel_rfl,by decide +kernel,fun S args h=>?_⟩
  obtain ⟨x0,x1,rfl⟩:=len2 h
  kernel_rfl
theorem s_read_string {Γ:Specs} {H:Nat} (hH:3≤H):Gss Γ (fScope (stc 63 24)) H (fBody (stc 63 24)) b_read_string:=
  tC (tE (kM mbN kL kn)) (tC (tW (kC (kF abN kL) kL) (tC (tIf (kC (kF abN kL) kG) (tC (tE (kM mbN kL (kc kBy (kc kG kn)))) tN) (tC (tIf (kCa (kc (kF abN kL) kn)) (tC (tE (kM mbN kL (kc kBy (kc kG kn)))) tN) (tC (tIf (kC (kF abN kL) kG) (tC (tE (kM mbN kL kn)) (tC (tE (kM mbN kL kn)) tN)) (tC (tE (kM mbN kL kn)) tN)) tN)) tN)) tN)) (tC (tE (kM mbN kL kn)) (tC (tR (kTk hH (kc kG (kc (kBc iI (iS iN iI)) kn)))) tN)))
theorem e_read_escape (P:Params):∃ fd,FnF P 455 (stc 63 25) ["self"] fd:=by
  refine ⟨_,⟨(show (KF P).lookup 455=some (o455 P) by kernel_rfl),rfl,rfl,rfl,rfl,rfl,rfl,⟨454,o454 P,_,_,rfl,(by kernel_rfl),rfl,rfl⟩⟩,by kernel_rfl,by kernel_rfl,by kernel_rfl,by kernel_rfl,by kernel_rfl,by decide +kernel,fun S args h=>?_⟩
  obtain ⟨x0,rfl⟩:=len1 h
  kernel_rfl
theorem s_read_escape {Γ:Specs} {H:Nat} (hH:3≤H):Gss Γ (fScope (stc 63 25)) H (fBody (stc 63 25)) b_read_escape:=
  tC (tIf (kC (kF abN kL) kG) (tC tRn tN) tN) (tC (tIf (kCa (kc (kF abN kL) kn)) (tC (tE (kM mbN kL (kc kG kn))) (tC (tE (kM mbN kL kn)) (tC tRn tN))) tN) (tC (tIf (kCa (kc (kF abN kL) kn)) (tC (tE (kM mbN kL kn)) (tC tRn tN)) tN) (tC (tA (kCa (kc (kF abN kL) kn))) (tC (tE (kM mbN kL (kc (kI (kC kL kNo) (kF abN kL) kL) kn))) (tC (tE (kM mbN kL kn)) tN)))))
theorem e_read_digits (P:Params):∃ fd,FnF P 462 (stc 63 26) ["self"] fd:=by
  refine ⟨_,⟨(show (KF P).lookup 462=some (o462 P) by kernel_rfl),rfl,rfl,rfl,rfl,rfl,rfl,⟨461,o461 P,_,_,rfl,(by kernel_rfl),rfl,rfl⟩⟩,by kernel_rfl,by kernel_rfl,by kernel_rfl,by kernel_rfl,by kernel_rfl,by decide +kernel,fun S args h=>?_⟩
  obtain ⟨x0,rfl⟩:=len1 h
  kernel_rfl
theorem s_read_digits {Γ:Specs} {H:Nat} (hH:3≤H):Gss Γ (fScope (stc 63 26)) H (fBody (stc 63 26)) b_read_digits:=
  tC (tT2 (kc kIn (kc kIn kn))) (tC (tW (kAn (kc (kC kL kIn) (kc (kCa (kc (kF abN kL) kn)) kn))) (tC (tA (kB (kB (kB kIn kL) (kF abN kL)) kIn)) (tC (tAu iI) (tC (tE (kM mbN kL kn)) tN)))) (tC (tIf (kC kL kIn) (tC (tE (kM mbN kL (kc kBy (kc kG kn)))) tN) tN) (tC (tE (kM mbN kL (kc kL kn))) tN)))
theorem e_all_tokens (P:Params):∃ fd,FnF P 476 (stm 64) ["text","chunk","limits"] fd:=by
  refine ⟨_,⟨(show (KF P).lookup 476=some (o476 P) by kernel_rfl),rfl,rfl,rfl,rfl,rfl,rfl,⟨475,o475 P,_,_,rfl,(by kernel_rfl),rfl,rfl⟩⟩,by kernel_rfl,by kernel_rfl,by kernel_rfl,by kernel_rfl,by kernel_rfl,by decide +kernel,fun S args h=>?_⟩
  obtain ⟨x0,x1,x2,rfl⟩:=len3 h
  kernel_rfl
theorem s_all_tokens {Γ:Specs} {H:Nat} (hH:3≤H):Gss Γ (fScope (stm 64)) H (fBody (stm 64)).tail b_all_tokens.tail:=
  tC (tA (kM mbN kL kn)) (tC (tW (kC (kF abN kL) kG) (tC (tAp (kT (kc (kF abN kL) (kc (kF abN kL) kn)))) (tC (tA (kM mbN kL kn)) tN))) (tC (tR kL) tN))
theorem e_law_shown (P:Params):∃ fd,FnF P 484 (stm 67) ["token"] fd:=by
  refine ⟨_,⟨(show (KF P).lookup 484=some (o484 P) by kernel_rfl),rfl,rfl,rfl,rfl,rfl,rfl,⟨483,o483 P,_,_,rfl,(by kernel_rfl),rfl,rfl⟩⟩,by kernel_rfl,by kernel_rfl,by kernel_rfl,by kernel_rfl,by kernel_rfl,by decide +kernel,fun S args h=>?_⟩
  obtain ⟨x0,rfl⟩:=len1 h
  kernel_rfl
theorem s_law_shown {Γ:Specs} {H:Nat} (hH:3≤H):Gss Γ (fScope (stm 67)) H (fBody (stm 67)) b_law_shown:=
  tC (tR (kT (kc (kF abN kL) (kc (kF abN kL) kn)))) tN
theorem e_law_plain (P:Params):∃ fd,FnF P 491 (stm 68) ["text"] fd:=by
  refine ⟨_,⟨(show (KF P).lookup 491=some (o491 P) by kernel_rfl),rfl,rfl,rfl,rfl,rfl,rfl,⟨490,o490 P,_,_,rfl,(by kernel_rfl),rfl,rfl⟩⟩,by kernel_rfl,by kernel_rfl,by kernel_rfl,by kernel_rfl,by kernel_rfl,by decide +kernel,fun S args h=>?_⟩
  obtain ⟨x0,rfl⟩:=len1 h
  kernel_rfl
theorem s_law_plain {Γ:Specs} {H:Nat} (hH:3≤H):Gss Γ (fScope (stm 68)) H (fBody (stm 68)).tail b_law_plain.tail:=
  tC (tTr (tC (tW (kC (kF abM (kM mbN kL kn)) kG) (tC (tAp (kCa (kc (kF abN kL) kn))) tN)) tN) (kT (kc kL (kc (kF abN kL) kn)))) (tC (tR (kT (kc kL (kc kBy kn)))) tN)
theorem s_law_peeked {Γ:Specs} {H:Nat} (hH:3≤H):Gss Γ (fScope (stm 69)) H (fBody (stm 69)).tail b_law_peeked.tail:=
  tC (tTr (tC (tW (kOr (kc (kC kL kIn) (kc (kC (kF abA (kF abN kL)) kG) kn))) (tC (tTn (kCa (kc (kF abN kL) kn))) (tC (tFo (kc (kB (kX kL (kB kL (kBi (kc kL kn)))) kIn) kn) (tC (tAp (kCa (kc (kM mbN kL kn) kn))) tN)) (tC (tIf (kC (kCa (kc (kF abN kL) kn)) kL) (tC (tR kNo) tN) tN) (tC (tA (kCa (kc (kM mbN kL kn) kn))) (tC (tIf (kOr (kc (kC kL (kCa (kc (kF abN kL) kn))) (kc (kC kFt (kLs kn)) kn))) (tC (tR kNo) tN) tN) (tC (tIf (kC (kX kL kIn) kG) (tC (tAp kL) tN) tN) (tC (tA (kB kL kIn)) tN)))))))) tN) (kT (kc kL (kc (kF abN kL) kn)))) (tC (tE (kM mbN kL kn)) (tC (tR (kI (kAn (kc (kC (kF abM (kM mbN kL kn)) kG) (kc (kC (kF abM (kM mbN kL kn)) kG) kn))) (kT (kc kL (kc kBy kn))) kNo)) tN))
theorem e_law (P:Params):∃ fd,FnF P 501 (stm 70) ["script"] fd:=by
  refine ⟨_,⟨(show (KF P).lookup 501=some (o501 P) by kernel_rfl),rfl,rfl,rfl,rfl,rfl,rfl,⟨500,o500 P,_,_,rfl,(by kernel_rfl),rfl,rfl⟩⟩,by kernel_rfl,by kernel_rfl,by kernel_rfl,by kernel_rfl,by kernel_rfl,by decide +kernel,fun S args h=>?_⟩
  obtain ⟨x0,rfl⟩:=len1 h
  kernel_rfl
theorem s_law {Γ:Specs} {H:Nat} (hH:3≤H):Gss Γ (fScope (stm 70)) H (fBody (stm 70)) b_law:=
  tC (tA (kSo (kLs (kc (kB (kBi (kc kL kn)) kIn) kn)))) (tC (tA kJo) (tC (tA (kCa (kc kL kn))) (tC (tIf (kOr (kc (kC (kCa (kc kL (kc kDi kn))) kL) (kc (kC (kCa (kc kL (kc (kLs (kc kIn kn)) kn))) kL) (kc (kC (kCa (kc kL (kc (kLs (kc kIn (kc kIn kn))) kn))) kL) kn)))) (tC (tR kBo) tN) tN) (tC (tTr (tC (tR (kAn (kc (kC (kCa (kc kL (kc kBy (kc (kLm hH) kn)))) (kX kL kIn)) (kc (kC (kX kL kIn) kBy) kn)))) tN) (kC (kF abN kL) (kX kL kIn))) tN))))
end
theorem fnok_false (fa:Addr) (n:Nat):FnOK fa (fun ω ω ω ω=>False) n:=by
  intro f A s G la lx vs vals Q Xc QC EC ok B LX hfr hg hdep hun hh r hs K KE
  exact hs.elim
theorem fn1 {n H:Nat} {fa:Addr} {st:Stmt} {ps:List String} {b:List S} (hH:3≤H) (hΓ:ΓOK (GG n) H) (F:∀ P,∃ fd,FnF P fa st ps fd) (hs:∀ {Γ:Specs} {H:Nat},3≤H→Gss Γ (fScope st) H (fBody st) b):FnOK fa (wpFn (GG n) ps b) (H+1):=fn_ok F (hs hH).s hΓ fun ω ω ω ω h=>h
theorem mem_cons_ok {α:Type} {P:α→Prop} {a:α} {l:List α} (h:P a) (t:∀ r∈l,P r):∀ r∈a :: l,P r:=fun r hr=>by
  rcases List.mem_cons.mp hr with rfl | hr
  · exact h
  · exact t r hr
noncomputable def TabP (n H:Nat) (r:Addr × (List String × List S)):Prop:=FnOK r.1 (wpFn (GG n) r.2.1 r.2.2) (H+1)
theorem tab_ok {n H:Nat} (hH:3≤H) (hΓ:ΓOK (GG n) H):∀ r∈tab,TabP n H r:=
  mem_cons_ok (P:=TabP n H) (fn1 hH hΓ e_is_number s_is_number) (
  mem_cons_ok (P:=TabP n H) (fn1 hH hΓ e_wrap s_wrap) (
  mem_cons_ok (P:=TabP n H) (fn1 hH hΓ e_is_blank_values s_is_blank_values) (
  mem_cons_ok (P:=TabP n H) (fn1 hH hΓ e_digit_of s_digit_of) (
  mem_cons_ok (P:=TabP n H) (fn1 hH hΓ e_read_digits0 s_read_digits0) (
  mem_cons_ok (P:=TabP n H) (fn1 hH hΓ e_skip_blanks s_skip_blanks) (
  mem_cons_ok (P:=TabP n H) (fn1 hH hΓ e_str_to_number s_str_to_number) (
  mem_cons_ok (P:=TabP n H) (fn1 hH hΓ e_text_in_base s_text_in_base) (
  mem_cons_ok (P:=TabP n H) (fn1 hH hΓ e_number_text s_number_text) (
  mem_cons_ok (P:=TabP n H) (fn1 hH hΓ e_to_text s_to_text) (
  mem_cons_ok (P:=TabP n H) (fn1 hH hΓ e_c_text s_c_text) (
  mem_cons_ok (P:=TabP n H) (fn1 hH hΓ e_chunk_id s_chunk_id) (
  mem_cons_ok (P:=TabP n H) (fn1 hH hΓ e_is_digit s_is_digit) (
  mem_cons_ok (P:=TabP n H) (fn1 hH hΓ e_is_letter s_is_letter) (
  mem_cons_ok (P:=TabP n H) (fn1 hH hΓ e_is_name_sign s_is_name_sign) (
  mem_cons_ok (P:=TabP n H) (fn1 hH hΓ e_is_blank_lexer s_is_blank_lexer) (
  mem_cons_ok (P:=TabP n H) (fn1 hH hΓ e_is_control s_is_control) (
  mem_cons_ok (P:=TabP n H) (fn1 hH hΓ e_is_newline s_is_newline) (
  mem_cons_ok (P:=TabP n H) (fn1 hH hΓ e_escaped_sign s_escaped_sign) (
  mem_cons_ok (P:=TabP n H) (fn1 hH hΓ e_token_text s_token_text) (
  mem_cons_ok (P:=TabP n H) (fn1 hH hΓ e_lexer_init s_lexer_init) (
  mem_cons_ok (P:=TabP n H) (fn1 hH hΓ e_next s_next) (
  mem_cons_ok (P:=TabP n H) (fn1 hH hΓ e_lookahead s_lookahead) (
  mem_cons_ok (P:=TabP n H) (fn1 hH hΓ e_error s_error) (
  mem_cons_ok (P:=TabP n H) (fn1 hH hΓ e_syntax_error s_syntax_error) (
  mem_cons_ok (P:=TabP n H) (fn1 hH hΓ e_near_text s_near_text) (
  mem_cons_ok (P:=TabP n H) (fn1 hH hΓ e_move s_move) (
  mem_cons_ok (P:=TabP n H) (fn1 hH hΓ e_keep s_keep) (
  mem_cons_ok (P:=TabP n H) (fn1 hH hΓ e_keep_and_move s_keep_and_move) (
  mem_cons_ok (P:=TabP n H) (fn1 hH hΓ e_keep_if s_keep_if) (
  mem_cons_ok (P:=TabP n H) (fn1 hH hΓ e_clear s_clear) (
  mem_cons_ok (P:=TabP n H) (fn1 hH hΓ e_end_line s_end_line) (
  mem_cons_ok (P:=TabP n H) (fn1 hH hΓ e_read s_read) (
  mem_cons_ok (P:=TabP n H) (fn1 hH hΓ e_skip_blank s_skip_blank) (
  mem_cons_ok (P:=TabP n H) (fn1 hH hΓ e_sign_behind s_sign_behind) (
  mem_cons_ok (P:=TabP n H) (fn1 hH hΓ e_skip_comment s_skip_comment) (
  mem_cons_ok (P:=TabP n H) (fn1 hH hΓ e_read_compared s_read_compared) (
  mem_cons_ok (P:=TabP n H) (fn1 hH hΓ e_read_dots s_read_dots) (
  mem_cons_ok (P:=TabP n H) (fn1 hH hΓ e_read_word s_read_word) (
  mem_cons_ok (P:=TabP n H) (fn1 hH hΓ e_read_numeral s_read_numeral) (
  mem_cons_ok (P:=TabP n H) (fn1 hH hΓ e_read_bracket s_read_bracket) (
  mem_cons_ok (P:=TabP n H) (fn1 hH hΓ e_read_level s_read_level) (
  mem_cons_ok (P:=TabP n H) (fn1 hH hΓ e_read_long s_read_long) (
  mem_cons_ok (P:=TabP n H) (fn1 hH hΓ e_read_inner s_read_inner) (
  mem_cons_ok (P:=TabP n H) (fn1 hH hΓ e_read_string s_read_string) (
  mem_cons_ok (P:=TabP n H) (fn1 hH hΓ e_read_escape s_read_escape) (
  mem_cons_ok (P:=TabP n H) (fn1 hH hΓ e_read_digits s_read_digits) (
  mem_cons_ok (P:=TabP n H) (fn1 hH hΓ e_law_shown s_law_shown) (
  mem_cons_ok (P:=TabP n H) (fn1 hH hΓ e_law s_law) (
  fun ω h=>nomatch h)))))))))))))))))))))))))))))))))))))))))))))))))
theorem tab_lookup {f:Addr} {p:List String × List S}:∀ {l:List (Addr × (List String × List S))},l.lookup f=some p→(f,p)∈l
  | [],h=>by cases h
  | (a,b) :: l,h=>by
    rw [List.lookup_cons] at h
    cases q:f == a with
    | true=>rw [q] at h; cases h; rw [beq_iff_eq.mp q]; exact .head _
    | false=>rw [q] at h; exact .tail _ (tab_lookup h)
theorem gg_ok (hs:∀ n H fa,3≤H→ΓOK (GG n) H→FnOK fa (spc (GG n) fa) (H+1)):∀ n,ΓOK (GG n) (2 * n+4)
  | 0=>fun fa=>⟨0,by omega,fnok_false fa 0⟩
  | n+1=>fun fa=>by
    have ih:=gg_ok hs n
    refine ⟨2 * n+4+1,by omega,?_⟩
    cases q:tab.lookup fa with
    | none=>
      have e:GG (n+1) fa=spc (GG n) fa:=by show (match tab.lookup fa with | some (ps,b)=>wpFn (GG n) ps b | none=>spc (GG n) fa)=_; rw [q]
      rw [e]
      exact @hs n _ fa (by omega) ih
    | some p=>
      have e:GG (n+1) fa=wpFn (GG n) p.1 p.2:=by show (match tab.lookup fa with | some (ps,b)=>wpFn (GG n) ps b | none=>spc (GG n) fa)=_; rw [q]
      rw [e]
      exact @tab_ok _ _ (by omega) ih _ (tab_lookup q)
theorem rep_nolex {P:Params} {G:Froz} {a b:Addr} {v:V} {w:Value} (q:V.noLex v=true) (r:Rep P G a v w):Rep P G b v w:=
  Rep.rec (motive_1:=fun v w ω=>V.noLex v=true→Rep P G b v w) (motive_2:=fun v w ω=>V.noLexs v=true→Reps P G b v w) (fun ω=>.none) (fun b' ω=>.bool b') (fun i t ω=>.int i t) (fun l t ω=>.byt l t)
    (fun h1 h2 h3 h4 ω ih q=>.tok h1 h2 h3 h4 (ih q)) (fun h1 ω ih q=>.tup h1 (ih q)) (fun h1 ω ih q=>.lst h1 (ih q)) (fun ω q=>absurd q Bool.false_ne_true) (fun h1 h2 h3 h4 ω=>.lims h1 h2 h3 h4) (fun h1 h2 h3 ω=>.kinds h1 h2 h3) (fun h1 h2 h3 ω=>.exc h1 h2 h3)
    (fun ω=>.nil) (fun ω ω ih ihs q=>.cons (ih (Bool.and_eq_true_iff.mp q).1) (ihs (Bool.and_eq_true_iff.mp q).2)) r q
theorem reps_nolex {P:Params} {G:Froz} {a b:Addr} {v:List V} {w:List Value} (q:V.noLexs v=true) (r:Reps P G a v w):Reps P G b v w:=by
  induction v generalizing w with
  | nil=>cases r; exact .nil
  | cons _ _ ih=>
    cases r with | cons r rs=>
    exact .cons (rep_nolex (Bool.and_eq_true_iff.mp q).1 r) (ih (Bool.and_eq_true_iff.mp q).2 rs)
def Plainρ (ρ:List (String × LV)):Prop:=∀ x l,lkL x ρ=some l→∃ u:V,l = .v u∧V.noLex u=true
theorem plain_zip {ps:List String}:∀ {vs:List V},V.noLexs vs=true→Plainρ (ps.zip (vs.map .v)):=by
  induction ps with
  | nil=>intro vs _ x l h; cases h
  | cons p ps ih=>
    intro vs hv x l h
    cases vs with
    | nil=>cases h
    | cons v vs=>
      obtain ⟨h1,h2⟩:=Bool.and_eq_true_iff.mp hv
      have h:(if p=x then some (.v v) else lkL x (ps.zip (vs.map .v)))=some l:=h
      by_cases q:p=x
      · rw [if_pos q] at h; cases h; exact ⟨v,rfl,h1⟩
      · rw [if_neg q] at h; exact ih h2 x l h
section
variable {f:FR} {G:Froz} {la la':LA} {ρ:List (String × LV)} {h:Heap}
theorem Rel.swap (R:Rel f G la ⟨ρ,none⟩ h) (hρ:Plainρ ρ):Rel f G la' ⟨ρ,none⟩ h:=by
  obtain ⟨m,hV,hL⟩:=R.loc
  refine ⟨R.base,⟨m,hV,⟨fun x l e=>?_,hL.apart⟩⟩,trivial⟩
  obtain ⟨V,rfl,nl⟩:=hρ x l e
  obtain ⟨v,hv,r⟩:=hL.rel x _ e
  exact ⟨v,hv,rep_nolex nl r⟩
end
theorem lex_glob (P:Params):nsIn (KF P) mainGlobals (Str.ofString "Lexer")=some (some (.ref 465))∧keepIn (KF P) (.ref 465)=true:=⟨by kernel_rfl,by kernel_rfl⟩
theorem lex_more (P:Params):makesIn (KF P) 465=true∧findIn (KF P) (.ref 465) "__init__" = some (some (.ref 280))∧typeIn (KF P) (.ref 280)=some (.type "function"):=⟨by kernel_rfl,by kernel_rfl,by kernel_rfl⟩
section
variable {Γ:Specs} {sc:Scope} {H:Nat} {args:List Expr} {xs:List X} {f:FR} {env:Env} {A:Around} {s:Shared} {G:Froz} {la:LA} {ρ:List (String × LV)} {EC:Value→Shared→Prop}
theorem new_call {xp pos:Pos} {QC:Value→Shared→Prop} {W:Option Lex→Prop} {X:List UInt8→Prop} (hk:sc.names.lookup (Str.ofString "Lexer")=some .globalImplicit) (hs:SndL Γ sc H args xs) (E0:Env0 f sc env A H) (hΓ:ΓOK Γ H) (hq:A.handled=none) (R:Rel f G la ⟨ρ,none⟩ s.heap) (hρ:Plainρ ρ)
    (hw:wpXs Γ xs (fun us st=>st=⟨ρ,none⟩∧V.noLexs us=true∧Γ 280 (.lex :: us) (some ⟨[],none⟩) (fun v lx'=>v = .none∧W lx') X) (fun ω ω=>False) ⟨ρ,none⟩)
    (K:∀ G' la' lx' h' tk',Rel f G' la' ⟨ρ,lx'⟩ h'→Rep f.c.P G' la'.a .lex (.ref la'.a)→W lx'→QC (.ref la'.a) { s with heap:=h',toks:=tk' })
    (KE:∀ G' a' e m h' tk',RelE f G' a' ⟨ρ,none⟩ h' e m→X m→EC (.ref e) { s with heap:=h',toks:=tk' }) :
    wpG f.c.M A (eval (.Call (.Name (Str.ofString "Lexer") xp) args [] pos) env) QC EC s:=by
  refine g_Call ?_
  refine wpG_of (load_glob E0 R.base hk (by rfl) (mg_of E0.c.K E0.c.g (lex_glob _).1) ?_)
  refine args_K hs E0 hΓ hq R hw (lex_glob _).2 (fun G1 b1 st1 v1 V1 hp1 tk1 g1 R1 r1 hw1=>?_) (fun ω ω ω ω ω ω ω q=>q.elim)
  obtain ⟨rfl,nl,hw1⟩:=hw1
  obtain ⟨m1,m2,m3⟩:=lex_more f.c.P
  refine wpG_call (g_makeG (C:=465) (Rel.kIn E0.c R1.base) m1 m2 m3 ?_)
  have kp:∀ b o,hp1.get? b=some o→((hp1.push emptyDict).push (instObj 465 hp1.objs.size)).get? b=some o:=fun b o q=>Heap.get?_push_of_some _ (Heap.get?_push_of_some _ q)
  have hx:((hp1.push emptyDict).push (instObj 465 hp1.objs.size)).get? (hp1.objs.size+1)=some (instObj 465 hp1.objs.size):=by heap_get
  have hd:((hp1.push emptyDict).push (instObj 465 hp1.objs.size)).get? hp1.objs.size=some (dictOf [] 0):=by heap_get
  have n1:=size_new hp1
  have n2:=get_none_succ (h:=hp1)
  generalize (hp1.push emptyDict).push (instObj 465 hp1.objs.size)=h2 at kp hx hd
  have ne:hp1.objs.size≠hp1.objs.size+1:=(Nat.succ_ne_self _).symm
  generalize hp1.objs.size+1=x at hx n2 ne
  generalize hp1.objs.size=d at hx hd n1 ne
  have gn:GNew G1 (setG G1 x (instObj 465 d)) hp1 h2:=.one (R1.base.fresh n2) n2 hx
  have R2:Rel f (setG G1 x (instObj 465 d)) ⟨x,d,0⟩ ⟨ρ,none⟩ h2:=(R1.swap hρ).grow (.of_keeps kp) gn
  have L2:LexOk f (setG G1 x (instObj 465 d)) h2 ⟨x,d,0⟩ (some ⟨[],none⟩):=
    (show LexRel f _ h2 ⟨x,d,0⟩ ⟨[],none⟩ from ⟨setG_at _ _ _,⟨[],0,hd,.nil⟩,by show setG _ _ _ d=none; unfold setG; rw [if_neg ne]; exact R1.base.fresh n1,R1.base.freshF n1,.inr (R1.base.freshS n1),(fun ω q=>nomatch q),(fun ω q=>nomatch q),(fun ω q=>nomatch q),fun ω q=>nomatch q⟩)
  have R3:Rel f (setG G1 x (instObj 465 d)) ⟨x,d,0⟩ ⟨ρ,some ⟨[],none⟩⟩ h2:=⟨R2.base,R2.loc,L2⟩
  have rl:Rep f.c.P (setG G1 x (instObj 465 d)) x .lex (.ref x):=.lex (setG_at _ _ _)
  have rr:Reps f.c.P (setG G1 x (instObj 465 d)) x V1 v1:=reps_nolex nl (Reps.mono gn.mono r1)
  obtain ⟨n,hn,ok⟩:=hΓ 280
  have hdep:=E0.depth
  have hun:=E0.units
  refine ok (f:=f) (s:={ s with heap:=h2,toks:=tk1 }) (la:=⟨x,d,0⟩) E0.c R3.base L2 ((show (A.under _).frames=A.frames from rfl).trans E0.frames) ((show (A.under _).guards=A.guards from rfl).trans E0.guards) (by show A.depth+1+n < recursionLimit; omega) (by show A.units+1+16 * n+40 < cLine; omega) hq (.cons rl rr) hw1 (fun G' b' lx' v V h' tk' S g B L rv q=>?_) fun G' e m h' tk' S g B ex q=>?_
  · obtain ⟨rfl,q⟩:=q
    cases rv
    exact ⟨rfl,K G' ⟨x,d,b'⟩ lx' h' tk' (R3.back S g B L) (Rep.mono g.mono rl) q⟩
  · exact KE G' x e m h' tk' (R3.backE S g B ex) q
end
section
variable {Γ:Specs} {sc:Scope} {H:Nat} {f:FR} {env:Env} {A:Around} {s:Shared} {G:Froz} {la:LA} {st:St} {EC:Value→Shared→Prop}
theorem Rel.storeS {QC:Unit→Shared→Prop} {x:String} {V:V} {v:Value} (e:Env0 f sc env A H) (R:Rel f G la st s.heap) (hk:isLoc sc x=true) (hv:Rep f.c.P G la.a V v)
    (h:∀ h' tk',Rel f G la { st with ρ:=setL x (.v V) st.ρ } h'→(∀ z ws n,s.heap.get? z=some (lisObj ws n)→z ∉ f.fs→h'.get? z=some (lisObj ws n))→QC () { s with heap:=h',toks:=tk' }):wpAny f.c.M A (storeName env (Str.ofString x) v) QC EC s:=by
  obtain ⟨m,hV,hL⟩:=R.loc
  obtain ⟨m₀,hN⟩:=hV.ns
  refine store_ok e R.base hV hk fun h' tk' X S B V hX=>h h' tk' ⟨B,⟨_,V,(hL.set (l:=.v _) hv fun ω q=>nomatch q).step S (.refl ..) (notList_of hN hX)⟩,R.lex.step S (.refl ..) (notLex_of R.base hX R.lex)⟩ fun z ws n hz nf=>S.ob z _ hz (fun q=>notList_of hN hX z q ws n hz) nf
theorem plain_apart {ρ:List (String × LV)} (hρ:∀ y ws,lkL y ρ≠some (.own ws)) {m:Str→Option Value} {z:Addr}:∀ y ws,lkL y ρ=some (.own ws)→m (Str.ofString y)≠some (.ref z):=fun y ws h=>absurd h (hρ y ws)
theorem plain_own {ρ:List (String × LV)} (hρ:Plainρ ρ) (y:String) (ws:List V):lkL y ρ≠some (.own ws):=fun q=>by
  obtain ⟨u,h,_⟩:=hρ _ _ q
  cases h
end
section
variable {Γ:Specs} {sc:Scope} {H:Nat} {args:List Expr} {xs:List X} {f:FR} {env:Env} {A:Around} {s:Shared} {G:Froz} {la:LA} {ρ:List (String × LV)} {EC:Value→Shared→Prop} {rest:List Stmt} {xrest:List S} {QQ:Fl→St→Prop} {X:List UInt8→Prop} {QC:Flow→Shared→Prop}
noncomputable abbrev LXN:Str:=Str.ofString "lexer"
theorem new2 {pa pb tp vp lp cp xp pos:Pos} {k k':Nat} (hk:sc.names.lookup (Str.ofString "Lexer")=some .globalImplicit) (hs:SndL Γ sc H args xs) (ha:isLoc sc "lexer" = true) (hb:isLoc sc "found" = true) (hr:SndSs Γ sc H rest xrest)
    (hsw:swapOf sc [.Tuple [.Name LXN pa,.Name (Str.ofString "found") pb] k tp] (.Tuple [.Call (.Name (Str.ofString "Lexer") xp) args [] cp,.List [] lp] k' vp) (some [LXN,Str.ofString "found"]))
    (E0:Env0 f sc env A H) (hΓ:ΓOK Γ H) (hq:A.handled=none) (R:Rel f G la ⟨ρ,none⟩ s.heap) (hρ:Plainρ ρ)
    (hw:wpXs Γ xs (fun us st=>st=⟨ρ,none⟩∧V.noLexs us=true∧Γ 280 (.lex :: us) (some ⟨[],none⟩) (fun v lx'=>v = .none∧wpSs Γ xrest QQ (fun m ω=>X m) ⟨setAll ["lexer","found"] [.v .lex,.own []] ρ,lx'⟩) X) (fun ω ω=>False) ⟨ρ,none⟩)
    (K:∀ G' la' st' fl fw h' tk',Rel f G' la' st' h'→FlowRep f.c.P G' la'.a fl fw→QQ fl st'→QC fw { s with heap:=h',toks:=tk' })
    (KE:∀ G' a' st' e m h' tk',RelE f G' a' st' h' e m→X m→EC (.ref e) { s with heap:=h',toks:=tk' }) :
    wpG f.c.M A (execs (.Assign [.Tuple [.Name LXN pa,.Name (Str.ofString "found") pb] k tp] (.Tuple [.Call (.Name (Str.ofString "Lexer") xp) args [] cp,.List [] lp] k' vp) pos :: rest) env) QC EC s:=by
  refine g_execs (g_Assign_Swapped ?_ rfl (hsw env E0.scope))
  refine g_Tuple (g_more ?_ rfl)
  refine new_call hk hs E0 hΓ hq R hρ hw (fun G1 la1 lx1 hp1 tk1 R1 r1 hw1=>?_) (fun G' a' e m h' tk' R' hx=>KE G' a' _ e m h' tk' R' hx)
  refine g_more ?_ rfl
  refine g_List ?_
  refine g_none (wpG_of (wpAny_newList ?_ (by rw [sizeLine_eq]; show 0≤_; omega)))
  refine g_none (wpG_of (wpAny_newTuple ?_ (by rw [sizeLine_eq]; show 2≤_; omega)))
  have keep1:∀ b o,hp1.get? b=some o→(hp1.push (lisObj [] 0)).get? b=some o:=fun b o q=>Heap.get?_push_of_some _ q
  have hz1:(hp1.push (lisObj [] 0)).get? hp1.objs.size=some (lisObj [] 0):=Heap.get?_push_size _ rfl
  generalize hp1.push (lisObj [] 0)=hp2 at keep1 hz1
  have hz:=size_new hp1
  generalize hp1.objs.size=z at hz hz1
  have keep2:∀ b o,hp2.get? b=some o→(hp2.push (tupObj [.ref la1.a,.ref z])).get? b=some o:=fun b o q=>Heap.get?_push_of_some _ q
  have ht:(hp2.push (tupObj [.ref la1.a,.ref z])).get? hp2.objs.size=some (tupObj [.ref la1.a,.ref z]):=Heap.get?_push_size _ rfl
  generalize hp2.push (tupObj [.ref la1.a,.ref z])=hp3 at keep2 ht
  refine unpackItems_tuple (items:=#[.ref la1.a,.ref z]) hq ⟨_,ht,rfl,_,rfl⟩ fun h4 k4=>?_
  have keep:∀ b o,hp1.get? b=some o→h4.get? b=some o:=fun b o q=>extBut_keeps k4 _ _ (keep2 _ _ (keep1 _ _ q))
  have hz4:h4.get? z=some (lisObj [] 0):=extBut_keeps k4 _ _ (keep2 _ _ hz1)
  have R2:Rel f G1 la1 ⟨ρ,lx1⟩ h4:=R1.grow (.of_keeps keep) (.refl ..)
  obtain ⟨m,V2,L2⟩:=R2.loc
  refine assignInOrder_cons (wpAny_bindName ?_)
  refine R2.storeNil (s:={ s with heap:=h4,toks:=tk1 }) E0 hb V2 L2 hz4 (R1.base.fresh hz) (R1.base.freshS hz) (R1.base.freshF hz) (plain_apart (plain_own hρ)) fun h5 tk5 R5 x5=>?_
  refine assignInOrder_cons (wpAny_bindName ?_)
  refine R5.storeV (s:={ s with heap:=h5,toks:=tk5 }) E0 ha r1 fun h6 tk6 R6 x6=>?_
  refine assignInOrder_nil ?_
  exact hr (s:={ s with heap:=h6,toks:=tk6 }) E0 hΓ hq (R6.ext fun z=>(setL_comm (by decide) z).symm) hw1 (fun G' b' st' fl fw h' tk' ω R' r' q=>K G' _ st' fl fw h' tk' R' r' q) (fun G' st' e m h' tk' R' q=>KE G' _ st' e m h' tk' R' q)
theorem new3 {pa pb pc tp vp lp cp xp ip pos:Pos} {k k' ik:Nat} (hk:sc.names.lookup (Str.ofString "Lexer")=some .globalImplicit) (hs:SndL Γ sc H args xs) (ha:isLoc sc "lexer" = true) (hb:isLoc sc "found" = true) (hc:isLoc sc "turn" = true) (hr:SndSs Γ sc H rest xrest)
    (hsw:swapOf sc [.Tuple [.Name LXN pa,.Name (Str.ofString "found") pb,.Name (Str.ofString "turn") pc] k tp] (.Tuple [.Call (.Name (Str.ofString "Lexer") xp) args [] cp,.List [] lp,.Constant (.int 0) ik ip] k' vp) (some [LXN,Str.ofString "found",Str.ofString "turn"]))
    (E0:Env0 f sc env A H) (hΓ:ΓOK Γ H) (hq:A.handled=none) (R:Rel f G la ⟨ρ,none⟩ s.heap) (hρ:Plainρ ρ)
    (hw:wpXs Γ xs (fun us st=>st=⟨ρ,none⟩∧V.noLexs us=true∧Γ 280 (.lex :: us) (some ⟨[],none⟩) (fun v lx'=>v = .none∧wpSs Γ xrest QQ (fun m ω=>X m) ⟨setAll ["lexer","found","turn"] [.v .lex,.own [],.v (.int 0)] ρ,lx'⟩) X) (fun ω ω=>False) ⟨ρ,none⟩)
    (K:∀ G' la' st' fl fw h' tk',Rel f G' la' st' h'→FlowRep f.c.P G' la'.a fl fw→QQ fl st'→QC fw { s with heap:=h',toks:=tk' })
    (KE:∀ G' a' st' e m h' tk',RelE f G' a' st' h' e m→X m→EC (.ref e) { s with heap:=h',toks:=tk' }) :
    wpG f.c.M A (execs (.Assign [.Tuple [.Name LXN pa,.Name (Str.ofString "found") pb,.Name (Str.ofString "turn") pc] k tp] (.Tuple [.Call (.Name (Str.ofString "Lexer") xp) args [] cp,.List [] lp,.Constant (.int 0) ik ip] k' vp) pos :: rest) env) QC EC s:=by
  refine g_execs (g_Assign_Swapped ?_ rfl (hsw env E0.scope))
  refine g_Tuple (g_more ?_ rfl)
  refine new_call hk hs E0 hΓ hq R hρ hw (fun G1 la1 lx1 hp1 tk1 R1 r1 hw1=>?_) (fun G' a' e m h' tk' R' hx=>KE G' a' _ e m h' tk' R' hx)
  refine g_more ?_ rfl
  refine g_List ?_
  refine g_none (wpG_of (wpAny_newList ?_ (by rw [sizeLine_eq]; show 0≤_; omega)))
  have keep1:∀ b o,hp1.get? b=some o→(hp1.push (lisObj [] 0)).get? b=some o:=fun b o q=>Heap.get?_push_of_some _ q
  have hz1:(hp1.push (lisObj [] 0)).get? hp1.objs.size=some (lisObj [] 0):=Heap.get?_push_size _ rfl
  have hz:=size_new hp1
  have R1':Rel f G1 la1 ⟨ρ,lx1⟩ (hp1.push (lisObj [] 0)):=R1.grow (.of_keeps keep1) (.refl ..)
  refine g_more ?_ rfl
  refine sndI_int (s:={ s with heap:=hp1.push (lisObj [] 0),toks:=tk1 }) E0 R1' rfl fun t tk2=>?_
  generalize hp1.push (lisObj [] 0)=hp2 at keep1 hz1
  generalize hp1.objs.size=z at hz hz1
  refine g_none (wpG_of (wpAny_newTuple ?_ (by rw [sizeLine_eq]; show 3≤_; omega)))
  have keep2:∀ b o,hp2.get? b=some o→(hp2.push (tupObj [.ref la1.a,.ref z,.int 0 t])).get? b=some o:=fun b o q=>Heap.get?_push_of_some _ q
  have ht:(hp2.push (tupObj [.ref la1.a,.ref z,.int 0 t])).get? hp2.objs.size=some (tupObj [.ref la1.a,.ref z,.int 0 t]):=Heap.get?_push_size _ rfl
  dsimp only
  generalize hp2.push (tupObj [.ref la1.a,.ref z,.int 0 t])=hp3 at keep2 ht
  refine unpackItems_tuple (items:=#[.ref la1.a,.ref z,.int 0 t]) hq ⟨_,ht,rfl,_,rfl⟩ fun h4 k4=>?_
  have keep:∀ b o,hp1.get? b=some o→h4.get? b=some o:=fun b o q=>extBut_keeps k4 _ _ (keep2 _ _ (keep1 _ _ q))
  have hz4:h4.get? z=some (lisObj [] 0):=extBut_keeps k4 _ _ (keep2 _ _ hz1)
  have R2:Rel f G1 la1 ⟨ρ,lx1⟩ h4:=R1.grow (.of_keeps keep) (.refl ..)
  refine assignInOrder_cons (wpAny_bindName ?_)
  refine R2.storeS (s:={ s with heap:=h4,toks:=tk2 }) E0 hc (.int 0 t) fun h5 tk5 R5 x5=>?_
  obtain ⟨m,V5,L5⟩:=R5.loc
  refine assignInOrder_cons (wpAny_bindName ?_)
  refine R5.storeNil (s:={ s with heap:=h5,toks:=tk5 }) E0 hb V5 L5 (x5 z _ _ hz4 (R1.base.freshF hz)) (R1.base.fresh hz) (R1.base.freshS hz) (R1.base.freshF hz) (plain_apart fun y ws q=>?_) fun h6 tk6 R6 x6=>?_
  · have q:lkL y (setL "turn" (.v (.int 0)) ρ)=some (.own ws):=q
    rw [lkL_setL] at q
    by_cases hy:y = "turn"
    · rw [if_pos hy] at q; cases q
    · rw [if_neg hy] at q; exact plain_own hρ y ws q
  refine assignInOrder_cons (wpAny_bindName ?_)
  refine R6.storeV (s:={ s with heap:=h6,toks:=tk6 }) E0 ha r1 fun h7 tk7 R7 x7=>?_
  refine assignInOrder_nil ?_
  refine hr (s:={ s with heap:=h7,toks:=tk7 }) E0 hΓ hq (R7.ext (ρ':=setAll ["lexer","found","turn"] [.v .lex,.own [],.v (.int 0)] ρ) fun z=>?_) hw1 (fun G' b' st' fl fw h' tk' ω R' r' q=>K G' _ st' fl fw h' tk' R' r' q) (fun G' st' e m h' tk' R' q=>KE G' _ st' e m h' tk' R' q)
  show lkL z (setL "turn" (.v (.int 0)) (setL "found" (.own []) (setL "lexer" (.v .lex) ρ)))=lkL z (setL "lexer" (.v .lex) (setL "found" (.own []) (setL "turn" (.v (.int 0)) ρ)))
  rw [lkL_setL,lkL_setL,lkL_setL,lkL_setL,lkL_setL,lkL_setL]
  by_cases h1:z = "turn"
  · subst h1; rfl
  by_cases h2:z = "found"
  · subst h2; rfl
  simp only [if_neg h1,if_neg h2]
end
section
variable {Γ:Specs} {H:Nat}
variable {sc:Scope} {args:List Expr} {xs:List X} {body rest:List Stmt} {xrest:List S} {ps:List String} {vs:List V} {lx:Option Lex} {Q:V→Option Lex→Prop} {Xc:List UInt8→Prop}
theorem body_new2 {pa pb tp vp lp cp xp pos:Pos} {k k':Nat} (hbody:body = .Assign [.Tuple [.Name LXN pa,.Name (Str.ofString "found") pb] k tp] (.Tuple [.Call (.Name (Str.ofString "Lexer") xp) args [] cp,.List [] lp] k' vp) pos :: rest)
    (hk:sc.names.lookup (Str.ofString "Lexer")=some .globalImplicit) (hs:SndL Γ sc H args xs) (ha:isLoc sc "lexer" = true) (hb:isLoc sc "found" = true) (hr:SndSs Γ sc H body.tail xrest)
    (hsw:swR sc [.Name LXN pa,.Name (Str.ofString "found") pb] [.Call (.Name (Str.ofString "Lexer") xp) args [] cp,.List [] lp]=some (some [LXN,Str.ofString "found"]))
    (hΓ:ΓOK Γ H) (hw:wpNew Γ ps xs m_two xrest vs lx Q Xc):BodyOK sc body H (ps.zip (vs.map .v)) lx Q Xc:=by
  subst hbody
  obtain ⟨rfl,_,nl,hw⟩:=hw
  intro f env A s G la QC EC E0 hh R K KE
  refine new2 hk hs ha hb hr (swR_ok hsw) E0 hΓ hh R (plain_zip nl) hw (fun G' la' st' fl fw h' tk' R' r' q=>?_) KE
  cases fl with
  | next=>exact q.elim
  | brk=>exact q.elim
  | ret V=>
    obtain ⟨_,rfl⟩:=fr_ret r'
    exact K G' 0 none _ V h' tk' R'.base trivial (rep_nolex q.1 r') q.2
theorem body_new3 {pa pb pc tp vp lp cp xp ip pos:Pos} {k k' ik:Nat} (hbody:body = .Assign [.Tuple [.Name LXN pa,.Name (Str.ofString "found") pb,.Name (Str.ofString "turn") pc] k tp] (.Tuple [.Call (.Name (Str.ofString "Lexer") xp) args [] cp,.List [] lp,.Constant (.int 0) ik ip] k' vp) pos :: rest)
    (hk:sc.names.lookup (Str.ofString "Lexer")=some .globalImplicit) (hs:SndL Γ sc H args xs) (ha:isLoc sc "lexer" = true) (hb:isLoc sc "found" = true) (hc:isLoc sc "turn" = true) (hr:SndSs Γ sc H body.tail xrest)
    (hsw:swR sc [.Name LXN pa,.Name (Str.ofString "found") pb,.Name (Str.ofString "turn") pc] [.Call (.Name (Str.ofString "Lexer") xp) args [] cp,.List [] lp,.Constant (.int 0) ik ip]=some (some [LXN,Str.ofString "found",Str.ofString "turn"]))
    (hΓ:ΓOK Γ H) (hw:wpNew Γ ps xs m_three xrest vs lx Q Xc):BodyOK sc body H (ps.zip (vs.map .v)) lx Q Xc:=by
  subst hbody
  obtain ⟨rfl,_,nl,hw⟩:=hw
  intro f env A s G la QC EC E0 hh R K KE
  refine new3 hk hs ha hb hc hr (swR_ok hsw) E0 hΓ hh R (plain_zip nl) hw (fun G' la' st' fl fw h' tk' R' r' q=>?_) KE
  cases fl with
  | next=>exact q.elim
  | brk=>exact q.elim
  | ret V=>
    obtain ⟨_,rfl⟩:=fr_ret r'
    exact K G' 0 none _ V h' tk' R'.base trivial (rep_nolex q.1 r') q.2
theorem fn_476 {n:Nat} (hH:3≤H) (hΓ:ΓOK (GG n) H):FnOK 476 (wpNew (GG n) ["text","chunk","limits"] a_all m_two b_all_tokens.tail) (H+1):=
  fn_frame e_all_tokens fun vs lx Q Xc hs=>⟨hs.2.1,body_new2 rfl (by kernel_rfl) (kc kL (kc kL (kc kL kn))) (by kernel_rfl) (by kernel_rfl) (s_all_tokens hH).s (by kernel_rfl) hΓ hs⟩
theorem fn_491 {n:Nat} (hH:3≤H) (hΓ:ΓOK (GG n) H):FnOK 491 (wpNew (GG n) ["text"] a_law m_two b_law_plain.tail) (H+1):=
  fn_frame e_law_plain fun vs lx Q Xc hs=>⟨hs.2.1,body_new2 rfl (by kernel_rfl) (kc kL (kc kBy (kc (kLm hH) kn))) (by kernel_rfl) (by kernel_rfl) (s_law_plain hH).s (by kernel_rfl) hΓ hs⟩
end
section
variable {prog:Program} {w:World} {A:Around} {s:Shared} {R:Result→Shared→Prop}
theorem g_call_cells {a:Addr} {o:Obj} {fd:FuncData} {body:List Stmt} {args:Args} {binds:List (Str × Value)}
    (hroom:A.depth < recursionLimit) (ho:s.heap.get? a=some o) (hdata:o.data = .func fd) (hlim:s.heap.NoLimit) (hcd:s.heap.CodeRec fd.code fd.qualname)
    (hbody:fd.body = .stmts body) (hbind:BindsTo s fd args binds) (hclo:fd.closure=[]) (hloc:∀ x∈binds,fd.scope.names.lookup x.1=some .local)
    (h:∀ s₁,InCallC s (callEnvC fd s.heap.objs.size a).locals (bindL (callEnvC fd s.heap.objs.size a).kindOf binds fun ω=>none) (callEnvC fd s.heap.objs.size a).cells (bindC (callEnvC fd s.heap.objs.size a).kindOf binds fun ω=>none) s₁→
      wpG (model prog w) (A.deeper (callEnvC fd s.heap.objs.size a)) (execs body (callEnvC fd s.heap.objs.size a)) (fun f s'=>R (.ok (.ret (match f with | .ret v=>v | _=>.none))) s')
        (fun e s'=>wpG (model prog w) (A.deeper (callEnvC fd s.heap.objs.size a)) (leaving (callEnvC fd s.heap.objs.size a) e) (fun ω s''=>R (.error e) s'') (fun e' s''=>R (.error e') s'') s') s₁)
    (hco:fd.scope.isCoroutine=false) (hgen:fd.scope.isGenerator=false) (hk:fd.scope.kind = .function) :
    codeG (model prog w) A (.call (.ref a) args) R s:=by
  refine g_function hroom ho hdata hco hgen hbody hcd (hbind _ _ _ _ ?_)
  rw [hclo]
  refine wpAny_newFunctionEnv_cells hk (fun x hx=>.inl (hloc x hx)) fun env he s' x=>?_
  subst he
  exact ⟨hlim.keeps x.toInCall.keep,g_func (h s' x)⟩
end
theorem e_law_peeked (P:Params):∃ fd,FnAt P 496 (stm 69) fd∧∀ S a b,peek (KF P) S (bindArgs fd ⟨[a,b],[]⟩)=some [(Str.ofString "text",a),(Str.ofString "looks",b)]:=by
  refine ⟨_,⟨(show (KF P).lookup 496=some (o496 P) by kernel_rfl),rfl,rfl,rfl,rfl,rfl,rfl,⟨495,o495 P,_,_,rfl,(by kernel_rfl),rfl,rfl⟩⟩,fun S a b=>?_⟩
  kernel_rfl
theorem pk_scope:(fScope (stm 69)).kind = .function∧(fScope (stm 69)).isCoroutine=false∧(fScope (stm 69)).isGenerator=false∧(fScope (stm 69)).names.lookup (Str.ofString "token")=some .cell∧(fScope (stm 69)).names.lookup (Str.ofString "text")=some .local∧(fScope (stm 69)).names.lookup (Str.ofString "looks")=some .local∧((fScope (stm 69)).names.all fun x=>x.2 != .cell || x.1 == Str.ofString "token")=true:=
  ⟨by kernel_rfl,by kernel_rfl,by kernel_rfl,by kernel_rfl,by kernel_rfl,by kernel_rfl,by kernel_rfl⟩
theorem pk_cells (L:Nat):cellsFrom L (fScope (stm 69)).names []=[(Str.ofString "token",L)]:=by kernel_rfl
set_option tactic.hygienic true in
theorem fn_496 {H n:Nat} (hH:3≤H) (hΓ:ΓOK (GG n) H):FnOK 496 (wpNew (GG n) ["text","looks"] a_law m_three b_law_peeked.tail) (H+1):=by
  intro f A s G la lx vs vals Q Xc QC EC ok B LX hfr hg hdep hun hh r hs K KE
  obtain ⟨fd,F,hbi⟩:=e_law_peeked f.c.P
  refine bC fun ng=>?_;obtain ⟨k1,k2,k3,k4,k5,k6,k7⟩:=pk_scope;refine ng ?_;clear ng
  have hb:BodyOK (fScope (stm 69)) (fBody (stm 69)) H (["text","looks"].zip (vs.map .v)) lx Q Xc:=
    body_new3 rfl (by kernel_rfl) (kc kL (kc kBy (kc (kLm hH) kn))) (by kernel_rfl) (by kernel_rfl) (by kernel_rfl) (s_law_peeked hH).s (by kernel_rfl) hΓ hs
  have hlen:=hs.2.1
  obtain ⟨V0,V1,rfl⟩:=len2 hlen
  cases r with | cons r0 r=>
  cases r with | cons r1 r=>
  cases r
  rename_i v0 v1
  refine bC fun ng=>?_;obtain ⟨c,oc,cvs,ct,q1,q2,q3,q4⟩:=F.code;refine ng ?_;clear ng
  have X:(KF f.c.P).In s.heap:=fun b o q=>B.gh b o (B.bg b o (ok.K b o q))
  refine wpG_call (g_call_cells (binds:=[(Str.ofString "text",v0),(Str.ofString "looks",v1)]) (by omega) (X _ _ F.at_) rfl (Base.noLimit ok B) ⟨c,oc,cvs,ct,q1,X _ _ q2,q3,q4⟩ F.body (kp_binds X fun S=>hbi S _ _) F.closure (fun x hx=>?_) (fun s₁ x=>?_) (by rw [F.scope]; exact k2) (by rw [F.scope]; exact k3) (by rw [F.scope]; exact k1))
  · rw [F.scope]
    rcases List.mem_cons.mp hx with rfl | hx
    · exact k5
    · rw [List.mem_singleton.mp hx]; exact k6
  have hL:=size_new s.heap
  have hL2:=get_none_succ (h:=s.heap)
  refine bC fun ng=>?_;obtain ⟨⟨⟨h₀,tk,rfl⟩,hns,keep,_⟩,xc,_,_⟩:=x;refine ng ?_;clear ng
  have hcs:(callEnvC fd s.heap.objs.size 496).cells=[(Str.ofString "token",s.heap.objs.size+1)]:=by
    show cellsFrom (s.heap.objs.size+1) fd.scope.names []=_
    rw [F.scope]; exact pk_cells _
  have hcell:=xc (Str.ofString "token") (s.heap.objs.size+1) (by rw [hcs,List.lookup_cons,beq_self_eq_true])
  have kk:∀ y,(callEnvC fd s.heap.objs.size 496).kindOf y=(fScope (stm 69)).names.lookup y:=fun y=>by
    show fd.scope.names.lookup y=_
    rw [F.scope]
  generalize bindC (callEnvC fd s.heap.objs.size 496).kindOf [(Str.ofString "text",v0),(Str.ofString "looks",v1)] (fun _=>none) (Str.ofString "token")=oc' at hcell
  have hm:bindL (callEnvC fd s.heap.objs.size 496).kindOf [(Str.ofString "text",v0),(Str.ofString "looks",v1)] (fun _=>none)=fun y=>if y=Str.ofString "looks" then some v1 else if y=Str.ofString "text" then some v0 else none:=by
    unfold bindL
    rw [if_pos ((kk _).trans k5)]
    unfold bindL
    rw [if_pos ((kk _).trans k6)]
    rfl
  rw [hm] at hns
  refine fn_core (ck:=some ("token",s.heap.objs.size+1)) (env:=callEnvC fd s.heap.objs.size 496) (sc:=fScope (stm 69)) ok B LX hfr hg hdep hun hh ⟨by rw [hcs,List.lookup_cons,beq_self_eq_true],k4,fun y q=>?_⟩ k1 rfl F.scope rfl F.globals F.builtins hL ⟨_,hns⟩ keep (fun p q=>?_) (show View _ h₀ _ from ⟨_,oc',hns,hcell,rfl⟩) (fun x l e=>?_) hb K KE
  · have hm:=List.all_eq_true.mp k7 _ (mem_of_lookup q)
    exact beq_iff_eq.mp hm
  · cases q
    obtain ⟨o,ho,_⟩:=hcell
    exact ⟨hL2,Nat.succ_ne_self _,o,ho⟩
  · have e:(if "text" = x then some (LV.v V0) else if "looks" = x then some (LV.v V1) else none)=some l:=e
    by_cases h1 : "text" = x
    · rw [if_pos h1] at e
      cases e
      subst h1
      exact ⟨V0,v0,rfl,rfl,r0⟩
    · rw [if_neg h1] at e
      by_cases h2 : "looks" = x
      · rw [if_pos h2] at e
        cases e
        subst h2
        exact ⟨V1,v1,rfl,rfl,r1⟩
      · rw [if_neg h2] at e; cases e
section
variable {f:FR} {G:Froz} {la:LA} {lx:Option Lex} {m:Str→Option Value} {h h':Heap}
structure KI (f:FR) (G:Froz) (la:LA) (lx:Option Lex) (m:Str→Option Value) (h:Heap):Prop where
  B:Base f G h
  V:View f h m
  L:LexOk f G h la lx
structure KN (f:FR) (G:Froz) (la:LA) (lx:Option Lex) (x:Addr):Prop where
  g:G x=none
  h:f.h₀.get? x=none
  f:x ∉ f.fs
  l:∀ l,lx=some l→x≠la.d∧(l.buf≠none→x≠la.b)
theorem KN.of (B:Base f G h) (L:LexOk f G h la lx) {x:Addr} (hx:h.get? x=none):KN f G la lx x:=by
  refine ⟨B.fresh hx,B.freshS hx,B.freshF hx,fun l q=>?_⟩
  subst q
  have r:LexRel f G h la l:=L
  obtain ⟨es,n,e1,_⟩:=r.dict
  refine ⟨fun q=>(by rw [q,e1] at hx; cases hx),fun hb q=>?_⟩
  cases hl:l.buf with
  | none=>exact hb hl
  | some b=>rw [q,(r.buf b hl).at_] at hx; cases hx
theorem KI.step {X:List Addr} (k:KI f G la lx m h) (S:Same f X h h') (hX:∀ x∈X,KN f G la lx x∧∃ o,h.get? x=some o∧∀ v,o.data ≠ .cell v):KI f G la lx m h':=by
  have hL:f.L ∉ X:=fun q=>(hX _ q).1.f k.B.lf
  have hc:∀ x∈X,∀ v,¬ h.IsCell x v:=fun x hx v hq=>by
    obtain ⟨o,ho,hd⟩:=hq
    obtain ⟨_,o',ho',k'⟩:=hX x hx
    rw [ho] at ho'
    cases ho'
    exact k' v hd
  have hl:∀ l,lx=some l→la.d ∉ X∧(l.buf≠none→la.b ∉ X):=fun l q=>⟨fun z=>((hX _ z).1.l l q).1 rfl,fun hb z=>((hX _ z).1.l l q).2 hb rfl⟩
  exact ⟨k.B.step S (.refl ..) (fun x hx=>⟨(hX x hx).1.g,.inr (hX x hx).1.h,fun q=>absurd q (hX x hx).1.f⟩) (fun q=>absurd q hL),k.V.step k.B S hL hc,k.L.step S (.refl ..) hl⟩
theorem KI.keep (k:KI f G la lx m h) (kp:∀ b o,h.get? b=some o→h'.get? b=some o):KI f G la lx m h':=k.step (.of_keeps kp) fun ω q=>nomatch q
theorem same_but {X:List Addr} (he:∀ b o,b ∉ X→h.get? b=some o→h'.get? b=some o) (hl:∀ x∈X,Liv h' x):Same f X h h':=
  ⟨fun b o e hx ω=>he b o hx e,fun b o e hx ω=>⟨o,he b o hx e,.refl _⟩,fun b ⟨o,e⟩=>by
    by_cases q:b∈X
    · exact hl b q
    · exact ⟨o,he b o q e⟩⟩
theorem KI.store {sc:Scope} {env:Env} {A:Around} {H:Nat} {s:Shared} {EC:Value→Shared→Prop} {QC:Unit→Shared→Prop} {x:String} {v:Value} (E0:Env0 f sc env A H) (k:KI f G la lx m s.heap) (hk:isLoc sc x=true)
    (K:∀ h' tk',KI f G la lx (fun y=>if y=Str.ofString x then some v else m y) h'→(∀ t o,s.heap.get? t=some o→KN f G la lx t→(∀ v,o.data ≠ .cell v)→h'.get? t=some o)→QC () { s with heap:=h',toks:=tk' }):wpAny f.c.M A (storeName env (Str.ofString x) v) QC EC s:=
  store_ok E0 k.B k.V hk fun h' tk' X S B V hX=>K h' tk' ⟨B,V,k.L.step S (.refl ..) (notLex_of k.B hX k.L)⟩ fun t o ho hn hc=>S.ob t o ho (fun q=>by
    rcases hX t q with rfl | ⟨v,o',ho',hd⟩
    · exact hn.f k.B.lf
    · rw [ho] at ho'; cases ho'; exact hc v hd) hn.f
end
noncomputable def KvOk (i:Nat) (kvs:List (List UInt8 × Value)):Prop:=All2 (fun p kv=>kv.1=p.1∧∃ t,kv.2 = .int p.2 t) (wordTable.take i) kvs
theorem all2_append {α β:Type} {R:α→β→Prop} {a:α} {b:β} (r:R a b):∀ {as:List α} {bs:List β},All2 R as bs→All2 R (as++[a]) (bs++[b])
  | _,_,.nil=>.cons r .nil
  | _,_,.cons h t=>.cons h (all2_append r t)
theorem kv_look {k:List UInt8}:∀ {l:List (List UInt8 × Int)} {kvs:List (List UInt8 × Value)},All2 (fun p kv=>kv.1=p.1∧∃ t,kv.2 = .int p.2 t) l kvs→match l.lookup k with
    | some i=>∃ t,valueAt kvs k=some (.int i t)
    | none=>valueAt kvs k=none
  | _,_,.nil=>rfl
  | (a,i) :: _,(b,v) :: kvs,.cons ⟨h1,t,h2⟩ r=>by
    have h1:b=a:=h1
    have h2:v = .int i t:=h2
    subst h1 h2
    have ih:=kv_look (k:=k) r
    rw [List.lookup_cons]
    by_cases q:k=b
    · subst q
      rw [beq_self_eq_true]
      refine ⟨t,?_⟩
      unfold valueAt
      rw [List.find?_cons_of_pos (by exact decide_eq_true rfl)]
      rfl
    · rw [beq_eq_false_iff_ne.mpr q]
      have e:valueAt ((b,Value.int i t) :: kvs) k=valueAt kvs k:=by
        unfold valueAt
        rw [List.find?_cons_of_neg (by simpa using fun e:b=k=>q e.symm)]
      rw [e]
      exact ih
theorem kv_any {k:List UInt8}:∀ {l:List (List UInt8 × Int)} {kvs:List (List UInt8 × Value)},All2 (fun p kv=>kv.1=p.1∧∃ t,kv.2 = .int p.2 t) l kvs→(kvs.any fun kv=>decide (kv.1=k))=l.any fun p=>decide (p.1=k)
  | _,_,.nil=>rfl
  | (a,i) :: _,(b,v) :: kvs,.cons ⟨h1,_⟩ r=>by
    have h1:b=a:=h1
    subst h1
    rw [List.any_cons,List.any_cons,kv_any r]
theorem words_ok:((List.range 21).all fun i=>decide (wordTable.take (i+1)=wordTable.take i++[(vReserved.getD i [],257+(i:Int))]) && !((wordTable.take i).any fun p=>decide (p.1=vReserved.getD i [])))=true:=by decide +kernel
theorem kv_step {i:Nat} {kvs:List (List UInt8 × Value)} {t:Tok} (hi:i < 21) (h:KvOk i kvs):KvOk (i+1) (stored kvs (vReserved.getD i []) (.int (257+(i:Int)) t)):=by
  obtain ⟨h1,h2⟩:=Bool.and_eq_true_iff.mp (List.all_eq_true.mp words_ok i (List.mem_range.mpr hi))
  have h3:=(kv_any (k:=vReserved.getD i []) h).trans (by simpa using h2:_=false)
  unfold stored
  rw [if_neg (by rw [h3]; decide)]
  unfold KvOk
  rw [of_decide_eq_true h1]
  exact all2_append ⟨rfl,t,rfl⟩ h
section
variable {f:FR} {G:Froz} {la:LA} {lx:Option Lex} {m:Str→Option Value} {h h':Heap}
theorem KI.ext1 {it:Addr} {o:Obj} (k:KI f G la lx m h) (hn:KN f G la lx it) (ho:h.get? it=some o) (hd:∀ v,o.data ≠ .cell v) (he:∀ b o,b≠it→h.get? b=some o→h'.get? b=some o):KI f G la lx m h':=by
  have cellN:∀ x v,h.IsCell x v→x≠it:=fun x v ⟨o',ho',hd'⟩ q=>by rw [q,ho] at ho'; cases ho'; exact hd _ hd'
  have hV:=k.V
  have hLn:f.L≠it:=fun q=>hn.f (q ▸ k.B.lf)
  have key:∀ m,h.Ns f.L m→h'.Ns f.L m:=fun m x=>x.at fun o e=>he _ o hLn e
  refine ⟨k.B.ext1 he hn.g hn.h hn.f fun p hp=>?_,?_,?_⟩
  · unfold View at hV
    rw [hp] at hV
    obtain ⟨m₀,v,h1,h2,h3⟩:=hV
    exact cellN _ _ h2
  · unfold View at hV ⊢
    split at hV
    · exact key _ hV
    · obtain ⟨m₀,v,h1,h2,h3⟩:=hV
      obtain ⟨o',ho',hd'⟩:=id h2
      exact ⟨m₀,v,key _ h1,⟨o',he _ o' (cellN _ _ h2) ho',hd'⟩,h3⟩
  · have rl:=k.L
    cases hlx:lx with
    | none=>trivial
    | some l=>
      obtain ⟨n1,n2⟩:=hn.l l hlx
      subst hlx
      have rl:LexRel f G h la l:=rl
      obtain ⟨es,k,e1,e2⟩:=rl.dict
      exact (show LexRel f G h' la l from ⟨rl.inst,⟨es,k,he _ _ n1.symm e1,e2⟩,rl.gd,rl.nf,rl.pr,rl.one,fun b hb=>have rb:=rl.buf b hb; ⟨he _ _ (n2 (by rw [hb]; exact fun q=>nomatch q)).symm rb.at_,rb.gb,rb.nf,rb.pr⟩,rl.has,rl.nm⟩)
end
theorem enum_glob (P:Params):nsIn (KF P) mainGlobals (Str.ofString "enumerate")=some none∧bootBuiltins (Str.ofString "enumerate")=some (.type "enumerate"):=⟨by kernel_rfl,by kernel_rfl⟩
theorem e_reserved (P:Params):∃ fd,FnF P 238 (stm 60) [] fd:=by
  refine ⟨_,⟨(show (KF P).lookup 238=some (o238 P) by kernel_rfl),rfl,rfl,rfl,rfl,rfl,rfl,⟨237,o237 P,_,_,rfl,(by kernel_rfl),rfl,rfl⟩⟩,by kernel_rfl,by kernel_rfl,by kernel_rfl,by kernel_rfl,by kernel_rfl,by decide +kernel,fun S args h=>?_⟩
  obtain rfl:=len0 h
  kernel_rfl
theorem rk_scope:isLoc (fScope (stm 60)) "kinds" = true∧isLoc (fScope (stm 60)) "at" = true∧isLoc (fScope (stm 60)) "word" = true∧(fScope (stm 60)).names.lookup (Str.ofString "enumerate")=some .globalImplicit∧(fScope (stm 60)).names.lookup (Str.ofString "RESERVED")=some .globalImplicit∧(fScope (stm 60)).names.lookup (Str.ofString "FIRST_RESERVED")=some .globalImplicit:=⟨by kernel_rfl,by kernel_rfl,by kernel_rfl,by kernel_rfl,by kernel_rfl,by kernel_rfl⟩
theorem words_len:(vReserved.map V.byt).length=21:=by decide
section
variable {H:Nat} {f:FR} {env:Env} {A:Around} {s:Shared} {G:Froz} {la:LA} {lx:Option Lex} {EC:Value→Shared→Prop} {m:Str→Option Value} {p1 p2 p3 p4 p5 p6 p7 p8 p9 p10:Pos}
theorem rk_body {QC:Flow→Shared→Prop} {d i:Nat} {w:List UInt8} {t t2:Tok} {kvs:List (List UInt8 × Value)} (E0:Env0 f (fScope (stm 60)) env A H) (k:KI f G la lx m s.heap)
    (hm1:m (Str.ofString "kinds")=some (.ref d)) (hm2:m (Str.ofString "at")=some (.int i t)) (hm3:m (Str.ofString "word")=some (.bytes w.toArray t2)) (hd:s.heap.DictOf (bytesKind pw f.c.w) d kvs) (hz:kvs.length≤100)
    (K:∀ h' tk t,h'.DictOf (bytesKind pw f.c.w) d (stored kvs w (.int (257+(i:Int)) t))→Heap.SameBut d s.heap h'→QC .next { s with heap:=h',toks:=tk }) :
    wpAny f.c.M A (execs [.Assign [.Subscript (.Name (Str.ofString "kinds") p1) (.Name (Str.ofString "word") p2) p3] (.BinOp (.Name (Str.ofString "FIRST_RESERVED") p4) .Add (.Name (Str.ofString "at") p5) p6) p7] env) QC EC s:=by
  refine bC fun ng=>?_;obtain ⟨j1,j2,j3,_,_,j6⟩:=rk_scope;refine ng ?_;clear ng
  obtain ⟨v0,hg,r0⟩:=grep_int (n:="FIRST_RESERVED") (i:=257) (by kernel_rfl) f.c G la.a E0.c k.B.bg
  obtain ⟨t0,rfl⟩:=rInt r0
  refine wpAny_execs_cons (wpAny_Assign_Subscript (wpAny_BinOp ?_) rfl)
  refine load_glob E0 k.B j6 (by rfl) hg ?_
  refine wpAny_Name (load_ok E0 k.V j2 hm2 ?_) (by rfl)
  refine bin_ok (P:=f.c.P) (G:=G) (a:=la.a) (Q:=fun v=>v = .int (257+(i:Int))) (.int 257 t0) (.int i t) rfl fun v V tk hv rv=>?_
  subst hv
  obtain ⟨t3,rfl⟩:=rInt rv
  refine wpAny_Name (load_ok (s:={ s with toks:=tk }) E0 k.V j1 hm1 ?_) (by rfl)
  refine wpAny_Name (load_ok (s:={ s with toks:=tk }) E0 k.V j3 hm3 ?_) (by rfl)
  refine wpAny_setItem_pairs (s:={ s with toks:=tk }) (bytesKind_is pw f.c.w w t2) hd (fun h' hd' hs=>?_) (by rw [sizeLine_eq]; omega)
  exact wpAny_execs_nil (K h' _ t3 hd' hs)
structure KL (f:FR) (G:Froz) (la:LA) (lx:Option Lex) (m:Str→Option Value) (d e it l:Addr) (h:Heap) (i:Nat) (old:Value) (kvs:List (List UInt8 × Value)):Prop where
  k:KI f G la lx m h
  mm:m (Str.ofString "kinds")=some (.ref d)
  he:IsEnum h e it (i:Nat) old
  hi:h.IsListIter it l i
  hd:h.DictOf (bytesKind pw f.c.w) d kvs
  ok:KvOk i kvs
theorem kv_len {i:Nat} {kvs:List (List UInt8 × Value)} (h:KvOk i kvs):kvs.length≤21:=by
  have e:=all2_len h
  rw [List.length_take] at e
  have:wordTable.length=21:=by decide
  omega
theorem rk_loop {d e it l:Addr} {vs:List Value} {QC:Flow→Shared→Prop} {n0:Nat} (E0:Env0 f (fScope (stm 60)) env A H) (hq:A.handled=none) (gl:G l=some (lisObj vs n0)) (rs:Reps f.c.P G la.a (vReserved.map .byt) vs)
    (nd:KN f G la lx d) (ne:KN f G la lx e) (ni:KN f G la lx it) (de:d≠e) (di:d≠it) (ei:e≠it) (h0:KL f G la lx m d e it l s.heap 0 .none [])
    (K:∀ m h' tk kvs,KI f G la lx m h'→m (Str.ofString "kinds")=some (.ref d)→h'.DictOf (bytesKind pw f.c.w) d kvs→KvOk 21 kvs→QC .next { s with heap:=h',toks:=tk }) :
    codeAny f.c.M A (.forLoop (.Tuple [.Name (Str.ofString "at") p8,.Name (Str.ofString "word") p9] 0 p10) (.ref e) [.Assign [.Subscript (.Name (Str.ofString "kinds") p1) (.Name (Str.ofString "word") p2) p3] (.BinOp (.Name (Str.ofString "FIRST_RESERVED") p4) .Add (.Name (Str.ofString "at") p5) p6) p7] [] env)
      (fun r s'=>match r with | .ok f=>QC f s' | .error e=>cameBackBy f.c.M A env EC e s') s:=by
  obtain ⟨j1,j2,j3,_,_,j6⟩:=rk_scope
  refine codeAny_forLoop_any (fun k s'=>∃ m h' tk i old kvs,s' = { s with heap:=h',toks:=tk }∧KL f G la lx m d e it l h' i old kvs∧i≤21∧k=22 - i) ?_ 22 ⟨m,s.heap,s.toks,0,.none,[],rfl,h0,by omega,rfl⟩
  clear h0
  intro k s' hI
  refine Classical.byContradiction fun ng=>?_
  obtain ⟨m,h,tk,i,old,kvs,rfl,k0,hi,rfl⟩:=hI
  have hl:h.IsList l vs.toArray:=⟨_,k0.k.B.gh _ _ gl,rfl,n0,rfl⟩
  have hlen:=(reps_len rs).symm.trans words_len
  obtain ⟨oi,hoi,hci,hdi⟩:=id k0.hi
  obtain ⟨od,esd,epd,hod,hxd,hdd,_⟩:=id k0.hd
  by_cases hlt:i < 21
  · obtain ⟨v,hv,rv⟩:=getL_of rs (i:=i) (by rw [words_len]; exact hlt)
    have rv:Rep f.c.P G la.a (.byt (vReserved.getD i [])) v:=by
      have e:(vReserved.map V.byt).getD i .none = .byt (vReserved.getD i []):=by
        have hh:=words_len
        rw [List.length_map] at hh
        rw [List.getD_eq_getElem?_getD,List.getD_eq_getElem?_getD,List.getElem?_map,List.getElem?_eq_getElem (by omega:i < vReserved.length)]
        rfl
      rw [e] at rv
      exact rv
    obtain ⟨t2,rfl⟩:=rByt rv
    refine ng ?_
    clear ng
    refine wpAny_pyNext_enum_item (s:={ s with heap:=h,toks:=tk }) k0.he k0.hi hl hv ei fun h₁ heo hit₁ ht₁ hz₁ hk₁=>?_
    have hk₁:∀ b o,b≠e→b≠it→h.get? b=some o→h₁.get? b=some o:=hk₁
    refine Classical.byContradiction fun ng=>?_
    have ht₁:h₁.get? h.objs.size=some { cls:=.type "tuple",data:=.seq #[.int i tk,.bytes (vReserved.getD i []).toArray t2] }:=ht₁
    obtain ⟨oi1,hoi1,_⟩:=id hit₁
    have k1:KI f G la lx m h₁:=k0.k.step (X:=[e,it]) (same_but (fun b o hb he=>hk₁ b o (fun q=>hb (q ▸ .head _)) (fun q=>hb (q ▸ .tail _ (.head _))) he) fun x hx=>by
      rcases List.mem_cons.mp hx with rfl | hx
      · exact ⟨_,heo⟩
      · rw [List.mem_singleton.mp hx]; exact ⟨_,hoi1⟩) fun x hx=>by
      rcases List.mem_cons.mp hx with rfl | hx
      · exact ⟨ne,_,k0.he,fun ω q=>nomatch q⟩
      · rw [List.mem_singleton.mp hx]; exact ⟨ni,_,hoi,fun ω q=>by rw [hdi] at q; cases q⟩
    refine ng ?_
    clear ng
    refine wpAny_letOwnedTupleGo_enum (s:={ s with heap:=h₁,toks:=tk+1 }) heo fun h₂ he₂ hs₂=>?_
    refine Classical.byContradiction fun ng=>?_
    have hs₂:Heap.SameBut e h₁ h₂:=hs₂
    have k2:KI f G la lx m h₂:=k1.step (X:=[e]) (.but hs₂ ⟨_,he₂⟩) fun x hx=>by
      rw [List.mem_singleton.mp hx]; exact ⟨ne,_,heo,fun ω q=>nomatch q⟩
    have hT:h.get? h.objs.size=none:=size_new h
    have te:h.objs.size≠e:=fun q=>by rw [q,show h.get? e=_ from k0.he] at hT; cases hT
    have ht₂:h₂.IsTuple h.objs.size #[.int i tk,.bytes (vReserved.getD i []).toArray t2]:=⟨_,(hs₂.2 _ te).trans ht₁,rfl,_,rfl⟩
    have hit₂:h₂.get? it=some oi1:=(hs₂.2 _ ei.symm).trans hoi1
    have hd₂:h₂.DictOf (bytesKind pw f.c.w) d kvs:=(k0.hd.at fun o e=>hk₁ _ o de di e).sameBut hs₂ de
    have ht₂':=ht₂
    obtain ⟨ot,hot,hct,nt,hdt⟩:=ht₂'
    refine ng ?_
    clear ng
    refine assign_Tuple_tuple (s:={ s with heap:=h₂,toks:=tk+1 }) (items:=#[.int i tk,.bytes (vReserved.getD i []).toArray t2]) hq ht₂ rfl rfl fun h₃ hx₃=>?_
    have kp₃:∀ b o,h₂.get? b=some o→h₃.get? b=some o:=extBut_keeps hx₃
    refine assignInOrder_cons (wpAny_assign_Name ?_)
    refine (k2.keep kp₃).store (s:={ s with heap:=h₃,toks:=tk+1 }) E0 j2 fun h₄ tk₄ k4 keep₄=>?_
    refine assignInOrder_cons (wpAny_assign_Name ?_)
    refine k4.store (s:={ s with heap:=h₄,toks:=tk₄ }) E0 j3 fun h₅ tk₅ k5 keep₅=>?_
    refine assignInOrder_nil ?_
    have up:∀ t o,h₂.get? t=some o→KN f G la lx t→(∀ v,o.data ≠ .cell v)→h₅.get? t=some o:=fun t o ht hn hc=>keep₅ t o (keep₄ t o (kp₃ t o ht) hn hc) hn hc
    have he₅:=up e _ he₂ ne fun ω q=>nomatch q
    have hi₅:h₅.IsListIter it l (i+1):=by
      obtain ⟨oi2,q1,q2,q3⟩:=hit₁
      exact ⟨oi2,up it oi2 ((hs₂.2 _ ei.symm).trans q1) ni (fun ω q=>by rw [q3] at q; cases q),q2,q3⟩
    have hd₅:h₅.DictOf (bytesKind pw f.c.w) d kvs:=hd₂.at fun o ho=>up d o ho nd fun v q=>by
      obtain ⟨o',es',ep',q1,q2,q3,_⟩:=hd₂
      rw [ho] at q1
      cases q1
      rw [q3] at q
      cases q
    refine rk_body (s:={ s with heap:=h₅,toks:=tk₅ }) (i:=i) E0 k5 (by rw [if_neg (by decide),if_neg (by decide)]; exact k0.mm) (by rw [if_neg (by decide),if_pos rfl]) (by rw [if_pos rfl]) hd₅ (Nat.le_trans (kv_len k0.ok) (by decide)) fun h₆ tk₆ t₆ hd₆ hs₆=>?_
    obtain ⟨o5,es5,ep5,q1,q2,q3,_⟩:=hd₅
    have hd₆':=hd₆
    obtain ⟨o6,es6,ep6,q4,_⟩:=hd₆'
    have k6:=k5.step (X:=[d]) (.but hs₆ ⟨_,q4⟩) fun x hx=>by
      rw [List.mem_singleton.mp hx]; exact ⟨nd,_,q1,fun ω q=>by rw [q3] at q; cases q⟩
    refine ⟨22 - (i+1),by omega,_,h₆,tk₆,i+1,_,_,rfl,⟨k6,by rw [if_neg (by decide),if_neg (by decide)]; exact k0.mm,(hs₆.2 _ de.symm).trans he₅,?_,hd₆,kv_step hlt k0.ok⟩,hlt,rfl⟩
    obtain ⟨oi2,q5,q6⟩:=hi₅
    exact ⟨oi2,(hs₆.2 _ di.symm).trans q5,q6⟩
  · have h21:i=21:=by omega
    subst h21
    refine ng ?_
    clear ng
    refine wpAny_pyNext_enum_end (s:={ s with heap:=h,toks:=tk }) (items:=vs.toArray) hq k0.he k0.hi hl (by rw [List.getElem?_toArray,List.getElem?_eq_none (by omega)]) fun h₁ he₁=>wpAny_execs_nil ?_
    exact K m h₁ tk kvs (k0.k.ext1 ni hoi (fun ω q=>by rw [hdi] at q; cases q) he₁) k0.mm (k0.hd.extBut he₁ di) k0.ok
end
theorem KI.froze {f:FR} {G:Froz} {la:LA} {lx:Option Lex} {m:Str→Option Value} {h:Heap} {d:Addr} {o:Obj} (k:KI f G la lx m h) (nd:KN f G la lx d) (ho:h.get? d=some o) (hc:∀ v,o.data ≠ .cell v):Base f (setG G d o) h∧LexOk f (setG G d o) h la lx:=by
  have mono:=setG_mono (G:=G) (x:=d) (o:=o) nd.g
  have B:=k.B
  have off:∀ {x:Addr},x≠d→G x=none→setG G d o x=none:=fun hx e=>by unfold setG; rw [if_neg hx]; exact e
  refine ⟨B.froze k.V nd.g ho nd.h nd.f hc,?_⟩
  · have rl:=k.L
    cases hlx:lx with
    | none=>trivial
    | some l=>
      obtain ⟨n1,n2⟩:=nd.l l hlx
      subst hlx
      have rl:LexRel f G h la l:=rl
      obtain ⟨es,k,e1,e2⟩:=rl.dict
      exact (show LexRel f _ h la l from ⟨mono _ _ rl.inst,⟨es,k,e1,e2.imp fun ω ω x=>x.keep mono⟩,off n1.symm rl.gd,rl.nf,rl.pr,rl.one,fun b hb=>have rb:=rl.buf b hb; ⟨rb.at_,off (n2 (by rw [hb]; exact fun q=>nomatch q)).symm rb.gb,rb.nf,rb.pr⟩,rl.has,rl.nm⟩)
theorem body_kinds {H:Nat} {lx:Option Lex} {Q:V→Option Lex→Prop} {Xc:List UInt8→Prop} (hQ:Q .kinds lx):BodyOK (fScope (stm 60)) (fBody (stm 60)) H [] lx Q Xc:=by
  intro f env A s G la QC EC E0 hh R K KE
  refine bC fun ng=>?_;obtain ⟨j1,j2,j3,j4,j5,j6⟩:=rk_scope;refine ng ?_;clear ng
  obtain ⟨m,V0,_⟩:=R.loc
  have k0:KI f G la lx m s.heap:=⟨R.base,V0,R.lex⟩
  have hX:=R.base.gh _ _ (R.base.bg _ _ (E0.c.K _ _ (show (KF f.c.P).lookup 238=some (o238 f.c.P) by kernel_rfl)))
  have hdx:(s.heap.objs.size == sysModules)=false:=by
    have:=Heap.lt_size hX
    have e:sysModules < 238:=by decide
    exact beq_eq_false_iff_ne.mpr fun q=>by rw [q] at this; exact absurd (Nat.lt_trans this e) (Nat.lt_irrefl _)
  have nd:=KN.of k0.B k0.L (size_new s.heap)
  refine g_execs (g_Assign_Name (wpG_of (wpAny_Dict_empty ?_)) rfl)
  have hd0:(s.heap.push { cls:=.type "dict",data:=.dict #[] }).DictOf (bytesKind pw f.c.w) s.heap.objs.size []:=Heap.DictOf.new _
  have kp0:∀ b o,s.heap.get? b=some o→(s.heap.push { cls:=.type "dict",data:=.dict #[] }).get? b=some o:=fun b o q=>Heap.get?_push_of_some _ q
  generalize s.heap.push { cls:=.type "dict",data:=.dict #[] }=h0 at hd0 kp0
  generalize s.heap.objs.size=d at nd hd0 hdx
  refine (k0.keep kp0).store (s:={ s with heap:=h0 }) E0 j1 fun h1 tk1 k1 keep1=>?_
  have hd1:h1.DictOf (bytesKind pw f.c.w) d []:=hd0.at fun o ho=>keep1 d o ho nd fun v q=>by
    refine bC fun ng=>?_;obtain ⟨o',es',ep',q1,q2,q3,_⟩:=hd0;refine ng ?_;clear ng
    rw [ho] at q1
    cases q1
    rw [q3] at q
    cases q
  obtain ⟨v,hv,rv⟩:=grep_reserved f.c G la.a E0.c k1.B.bg
  have rv:Rep f.c.P G la.a (.lst (vReserved.map .byt)) v:=rv
  refine bC fun ng=>?_;obtain ⟨_,_,_,rfl,gx,rs⟩:=rLst rv;refine ng ?_;clear ng
  obtain ⟨hm,hbm⟩:=bi_at E0.c (enum_glob _).1 (enum_glob f.c.P).2 (not_name (by decide))
  dsimp only
  refine g_execs (g_For ?_)
  refine g_Call ?_
  refine wpG_of (load_bi (s:={ s with heap:=h1,toks:=tk1 }) E0 k1.B j4 (by rfl) hm hbm ?_)
  refine call_one (v:=.none) (tk:=0) (fun a q=>nomatch q) (fun ω=>rfl) ?_
  refine wpG_of (load_glob (s:={ s with heap:=h1,toks:=tk1 }) E0 k1.B j5 (by rfl) hv ?_)
  refine wpG_of (call_enumerate_1 (k1.B.gh _ _ gx) fun h2 he hi hz kp=>?_)
  have n1:=size_new h1
  have n2:=get_none_succ (h:=h1)
  have hd2:h2.DictOf (bytesKind pw f.c.w) d []:=hd1.at fun o ho=>kp _ _ ho
  have de:d≠h1.objs.size+1:=fun q=>by
    refine bC fun ng=>?_;obtain ⟨o',_,_,q1,_⟩:=hd1;refine ng ?_;clear ng
    rw [q,n2] at q1; cases q1
  have di:d≠h1.objs.size:=fun q=>by
    refine bC fun ng=>?_;obtain ⟨o',_,_,q1,_⟩:=hd1;refine ng ?_;clear ng
    rw [q,n1] at q1; cases q1
  refine wpAny_pyIter_enum (s:={ s with heap:=h2,toks:=tk1 }) he ?_
  refine codeG_of (rk_loop (s:={ s with heap:=h2,toks:=tk1 }) E0 hh gx rs nd (KN.of k1.B k1.L n2) (KN.of k1.B k1.L n1) de di (Nat.succ_ne_self _) ⟨k1.keep kp,if_pos rfl,he,hi,hd2,.nil⟩ fun m3 h3 tk3 kvs k3 mm hd3 ok3=>?_)
  dsimp only
  refine g_execs (g_Return (wpG_of (wpAny_Name (load_ok (s:={ s with heap:=h3,toks:=tk3 }) E0 k3.V j1 mm ?_) (by rfl))))
  refine bC fun ng=>?_;obtain ⟨o,es,ep,ho,⟨x1,x2,x3⟩,hdt,hkeys,hfind⟩:=hd3.mapOf;refine ng ?_;clear ng
  obtain ⟨c0,d0,dt0,sl0⟩:=o
  cases x1
  cases x2
  cases x3
  cases hdt
  obtain ⟨B4,L4⟩:=k3.froze nd ho fun ω q=>nomatch q
  refine K _ la.b lx _ .kinds h3 tk3 B4 L4 (.kinds (es:=es.toList) (n:=ep) (setG_at _ _ _) hdx ⟨hkeys,fun k=>?_⟩) hQ
  have h4:=kv_look (k:=k) (l:=wordTable) ok3
  have h5:findBy isBytes es.toList.toArray k=valueAt kvs k:=hfind k
  rw [h5]
  exact h4
theorem fn_238 (H:Nat):FnOK 238 (fun vs lx Q ω=>vs=[]∧Q .kinds lx) (H+1):=
  fn_frame (S:=fun vs lx Q ω=>vs=[]∧Q .kinds lx) e_reserved fun vs lx Q Xc hs=>by
    obtain ⟨rfl,hQ⟩:vs=[]∧Q .kinds lx:=hs
    exact ⟨rfl,body_kinds hQ⟩
theorem spc_ok (n H:Nat) (fa:Addr) (hH:3≤H) (hΓ:ΓOK (GG n) H):FnOK fa (spc (GG n) fa) (H+1):=by
  rcases Classical.em (fa=238) with rfl | h1
  · exact @fn_238 H
  rcases Classical.em (fa=476) with rfl | h2
  · exact @fn_476 H n hH hΓ
  rcases Classical.em (fa=491) with rfl | h3
  · exact @fn_491 H n hH hΓ
  rcases Classical.em (fa=496) with rfl | h4
  · exact @fn_496 H n hH hΓ
  have e:spc (GG n) fa=fun ω ω ω ω=>False:=by
    unfold spc
    rw [if_neg h1,if_neg h2,if_neg h3,if_neg h4]
  rw [e]
  exact @fnok_false fa (H+1)
theorem calm_caller:Calm (⟨.builtin "claim.caller" {},none,none,[],none⟩:Ctx):=⟨by decide +kernel,fun ω q=>nomatch q⟩
theorem ends_calm {prog:Program} {w:World} {t:Sem Fin} {s:Shared} {R:Result→Shared→Prop} (hreg:s.asleep)
    (h:wpG (model prog w) callerA t (fun fin s'=>∃ f,fin = .done f∧R (.ok f) s'∧AllBare s'.gens) (fun e s'=>R (.error e) s'∧AllBare s'.gens) s) :
    ∃ n r s' s'',schedN (denote table) prog w n (.single s ⟨t,.builtin "claim.caller" {},default,[]⟩) = .halted (outcomeOf r) s''∧runN (denote table) prog w n s ⟨t,.builtin "claim.caller" {},default,[]⟩ = .halted (outcomeOf r) s''∧s''.forget=s'.forget∧R r s':=
  wp_halts_full (M:=model prog w) (R:=R) hreg (Sem.wp_mono _ _ t (fun fin ω s' q=>by
    obtain ⟨f,rfl,q1,q2⟩:=q
    exact ⟨q1,leftWithCleanup_false_of_bare q2⟩) (fun ω ω ω q=>⟨q.1,leftWithCleanup_false_of_bare q.2⟩) default s (h _ default calm_caller caller_in))
theorem holds_calm {r:OpenRow} {q:Program} {loose:List Str} {Xt:Shared→Bool} {XP:(Str→Option Value)→Heap→Prop} {α:Type} {Yf:Shared→α} {Ya:World→α} {YP:World→Heap→Prop} {d:DefRec} {kwd:List (Str × Expr)} {N:Nat}
    (left:LeftO r.prog q loose Xt Yf Ya N) (hY:∀ w s,Yf s=Ya w→YP w s.heap) (hYk:∀ w h h',YP w h→(∀ b o,h.get? b=some o→h'.get? b=some o)→YP w h')
    (hX:∀ s,Xt s=true→XP (s.heap.nsMap mainGlobals) s.heap) (hXk:∀ mg h h',XP mg h→(∀ b o,h.get? b=some o→h'.get? b=some o)→XP mg h')
    (hdef:defOf q r.name=some (d,kwd)) (hp:r.prog.theDef r.name=some (d.params,d.body,d.scope)) (hk:kwWritten? d.params.kwonlyargs d.params.kw_defaults=some kwd) (hRf:∀ s,Xt s=true→RecFacts r.records s.heap) (hwr:(!r.writes || r.records.isEmpty)=true)
    (k1:r.wellSaid=true) (hch:chainsOk q=true) (o1:opensWell r.prog=true) (k5:frees r.toRowW=true) (k6:r.toRowW.within.isEmpty=true) (hb:r.prog.bare) (hw:r.toRowW.promised)
    (walk:∀ (w:World) (s₀ s₁:Shared) (mg mb:Str→Option Value),Ground q loose r.records XP w s₀ mg mb s₁.heap→YP w s₁.heap→∀ a,mg r.name=some (.ref a)→∀ (args:List WData) (vals:List Value) (as:List Addr),r.claim.pre args=true→
      ReadsAllW r.records (classAt s₀.heap) s₁.heap vals args as→WellAll w.params s₁.heap vals args→s₁.gens = #[]→
      wpG (model r.prog w) callerA (call (.ref a) vals) (fun v s'=>GoodWG r.claim (classAt s₀.heap) (ExcName.means s₀.heap) args s₁ (.ok (.ret v)) s') (fun e s'=>GoodWG r.claim (classAt s₀.heap) (ExcName.means s₀.heap) args s₁ (.error e) s') s₁):r.Holds:=by
  obtain ⟨hsame,hu,ha,hap,hm⟩:=frees_parts k5
  refine ⟨k1,hw,⟨hb,o1,by show r.makers.map _=[]; rw [hm]; rfl⟩,hw.witness,fun w=>⟨(left.behind hX hch w).1,fun s' hs'=>?_⟩⟩
  refine Classical.byContradiction fun ng=>?_
  obtain ⟨s₀,hf,hg0,s,hT,hz,hgens,hg,G00,y⟩:=(left.behind (XP:=fun mg h=>XP mg h∧RecFacts r.records h) (fun s hs=>⟨hX s hs,hRf s hs⟩) hch w).2 s' hs'
  have RF:=G00.X.2
  have G0:Ground q loose [] XP w s (s.heap.nsMap mainGlobals) (s.heap.nsMap builtinsNs) s.heap:=⟨G00.T,G00.B,G00.D,G00.TE,G00.TD,G00.W,G00.X.1,G00.cls,G00.has,G00.apart,G00.once,G00.K⟩
  have G:Ground q loose r.records XP w s _ _ s.heap:=RF.ground G0
  refine ng ⟨s₀,hf,hg0,s,hT,fun n hn=>?_,RF.1,RF.2.1,fun args hpre hlay ord hord=>?_⟩
  · obtain rfl:n=r.name:=by split at hn <;> simp_all
    exact pinned_of_view hg G0 hdef hp hk
  clear ng
  refine Classical.byContradiction fun ng=>?_
  have hgens:s.gens = #[]:=Array.eq_empty_of_size_eq_zero (beq_iff_eq.mp hgens)
  obtain ⟨⟨vs,s₁⟩,hlaid⟩:=Option.isSome_iff_exists.mp (layAllW_isSome (P:=w.params) (ord:=ord) G.has args r.args s (pre_splitW hpre).1)
  have keeps:=layAllW_keeps _ _ _ hlaid
  have hal:=layAllW_rest _ _ _ hlaid
  obtain ⟨as,hrd,hin,hold⟩:=reads_layAllW hord _ _ _ hlaid hlay s₁.heap (fun ω ω e=>e)
  have L:Laid r.records w s s₁ args vs as:=⟨⟨ord,hord,hlaid⟩,hrd,hin,hold,keeps,hal.1.trans hgens,hal.2.2.1⟩
  have G₁:=G.keeps hXk keeps
  have hi:=ident_freeW hu ha hap
  have hwi:r.claim.within=[]:=List.isEmpty_iff.mp k6
  obtain ⟨a,o,pm,cd,doc,dV,kV,h1,_⟩:=G₁.fn hdef
  let R:Result→Shared→Prop:=fun res s'=>r.claim.Ends s args vs s₁ res s'∧s'.os=s.os∧(r.writes=true→namesKept r.claim.prog r.keeps s.heap s'.heap∧∀ x∈r.claim.records,∀ a,classAt s.heap x.1=some a→recordClass s'.heap a x.1 (x.2.map (·.1))=true)
  have good:∀ {res:Result} {s':Shared},GoodWG r.claim (classAt s.heap) (ExcName.means s.heap) args s₁ res s'→R res s'∧AllBare s'.gens:=fun g=>by
    have z:=g.laid (c:=r.claim) hsame hwi hi L
    exact ⟨⟨z.1,z.2.1,fun q=>⟨namesKept_of hT hg r.keeps keeps g.2.1.old,noTable hwr q⟩⟩,z.2.2⟩
  obtain ⟨n,res,s₂,s₃,hsched,hrun,hfo,hcase,hos,hkp⟩:=ends_calm (prog:=r.prog) (w:=w) (s:=s₁) (R:=R) (t:=do match ← nsGet mainNs r.name with
      | some f=>do ret (← PySem.call f vs)
      | none=>unsupported "claim.caller:no-such-global") (Shared.asleep_of_life hal.2.2.2 hz)
    (leaf (wpAny_nsGet G₁.T.g (by
      rw [h1]
      exact wpG_bind (wpG_mono (walk w s s₁ _ _ G₁ (hYk _ _ _ (hY w s y) keeps) a h1 args vs as hpre hrd L.well L.gens) (fun v s' g=>wpG_pure ⟨_,rfl,good g⟩) fun e s' g=>good g))))
  obtain ⟨eh,_,_,eo,_⟩:=Shared.forget_eq hfo
  have hcase:=hcase.congr eh
  rw [← eh] at hkp
  rw [← eo] at hos
  have hlife:s₃.heap.life=s.heap.life:=(runN_life _ _ _ hrun).trans hal.2.2.2
  refine ng ⟨vs,s₁,hlaid,n,_,s₃,hsched,?_,(fun ω i x hx=>by rw [hgens] at hx; simp at hx),hkp,by rw [hlife],Shared.rest_eq hos⟩
  rcases hcase with ⟨v,rfl,d1,d2,d3,d4,d5⟩ | ⟨e,ob,cls,rfl,d1,d2,d3,d4,d5⟩
  · exact .inl ⟨v,rfl,d1,d2,d3,fun b o y ω=>d4 b o y,d5⟩
  · exact .inr ⟨e,ob,cls,rfl,d1,d2,d3,d4,fun b o y ω=>d5 b o y⟩
section
noncomputable def isDg (i:Int):Bool:=decide (48≤i) && decide (i≤57)
noncomputable def isLt (i:Int):Bool:=(decide (65≤i) && decide (i≤90)) || ((decide (97≤i) && decide (i≤122)) || ((i == 95) || false))
noncomputable def isBk (i:Int):Bool:=(i == 32) || ((decide (9≤i) && decide (i≤13)) || false)
noncomputable def isCt (i:Int):Bool:=(decide (0≤i) && decide (i < 32)) || ((i == 127) || false)
noncomputable def isNl (i:Int):Bool:=(i == 10) || ((i == 13) || false)
noncomputable abbrev Pf:=Addr→List V→Option V
def PfOk (pf:Pf) (Γ:Specs):Prop:=∀ f vs v,pf f vs=some v→∀ lx (Q:V→Option Lex→Prop) (Xc:List UInt8→Prop),Q v lx→Γ f vs lx Q Xc
noncomputable def evI (g:Int→Int→Int) (a b:V):Option V:=match a with
  | .int x=>match b with
    | .int y=>some (.int (g x y))
    | _=>none
  | _=>none
noncomputable def evB (op:Operator) (a b:V):Option V:=match op with
  | .Add=>evI (· + ·) a b
  | .Sub=>evI (· - ·) a b
  | _=>none
theorem evI_inv {g:Int→Int→Int} {a b v:V} (h:evI g a b=some v):∃ x y,a = .int x∧b = .int y∧v = .int (g x y):=by
  cases a <;> first
    | exact (nS h)
    | (cases b <;> first
      | exact (nS h)
      | (cases h; exact ⟨_,_,rfl,rfl,rfl⟩))
noncomputable def evNeg:V→Option V
  | .int i=>some (.int (-i))
  | _=>none
noncomputable def evNot:V→Option V
  | .bool b=>some (.bool !b)
  | _=>none
noncomputable def evAnd:List V→Option Bool
  | []=>some true
  | .bool b :: r=>(evAnd r).map (b && ·)
  | _ :: _=>none
noncomputable def evOr:List V→Option Bool
  | []=>some false
  | .bool b :: r=>(evOr r).map (b || ·)
  | _ :: _=>none
noncomputable def evTok (a b:V):Option V:=match a with
  | .int i=>some (.tok i b)
  | _=>none
noncomputable def vLocal:Option LV→Option V
  | some (.v v)=>some v
  | _=>none
mutual
noncomputable def evX (pf:Pf) (st:St):X→Option V
  | .cst v=>some v
  | .loc x=>vLocal (lkL x st.ρ)
  | .tup es=>(evXs pf st es).bind fun vs=>if vs.length≤1000 then some (.tup vs) else none
  | .lstD es=>(evXs pf st es).bind fun vs=>if vs.length≤1000 then some (.lst vs) else none
  | .fld e n=>(evX pf st e).bind fun v=>attrV v n st.lx
  | .bin op a b=>(evX pf st a).bind fun x=>(evX pf st b).bind fun y=>evB op x y
  | .neg a=>(evX pf st a).bind evNeg
  | .notE a=>(evX pf st a).bind evNot
  | .andE es=>(evXs pf st es).bind fun vs=>(evAnd vs).map .bool
  | .orE es=>(evXs pf st es).bind fun vs=>(evOr vs).map .bool
  | .cmp a op b=>(evX pf st a).bind fun x=>(evX pf st b).bind fun y=>(cmpV op x y).map .bool
  | .cmp2 a o b p c=>(evX pf st a).bind fun x=>(evX pf st b).bind fun y=>(evX pf st c).bind fun z=>(cmpV o x y).bind fun r=>(cmpV p y z).map fun s=>.bool (r && s)
  | .call f es=>(evXs pf st es).bind (pf f)
  | .newTok k v=>(evX pf st k).bind fun x=>(evX pf st v).bind fun y=>evTok x y
  | .isi e T=>(evX pf st e).bind fun v=>(isiV v T).map .bool
  | _=>none
noncomputable def evXs (pf:Pf) (st:St):List X→Option (List V)
  | []=>some []
  | e :: r=>(evX pf st e).bind fun v=>(evXs pf st r).map (v :: ·)
end
theorem bind_inv {α β:Type} {o:Option α} {g:α→Option β} {b:β} (h:o.bind g=some b):∃ a,o=some a∧g a=some b:=Option.bind_eq_some_iff.mp h
theorem map_inv {α β:Type} {o:Option α} {g:α→β} {b:β} (h:o.map g=some b):∃ a,o=some a∧g a=b:=Option.map_eq_some_iff.mp h
section
variable {Γ:Specs} {st:St} {pf:Pf}
theorem evB_ok {op:Operator} {a b v:V} (h:evB op a b=some v) {Q:V→Prop} (q:Q v):binV op a b Q:=by
  cases op <;> first
    | exact (nS h)
    | (obtain ⟨x,y,rfl,rfl,rfl⟩:=evI_inv h; exact q)
theorem and_ok {Xc:Exc}:∀ {es:List X} {vs:List V} {b:Bool},(∀ e∈es,∀ v,evX pf st e=some v→∀ {Q:Post},Q v st→wpX Γ e Q Xc st)→evXs pf st es=some vs→evAnd vs=some b→∀ {Q:Bool→St→Prop},Q b st→wpAnd Γ es Q Xc st
  | [],vs,b,_,h,h2,Q,q=>by cases h; cases h2; exact q
  | e :: r,vs,b,hh,h,h2,Q,q=>by
    obtain ⟨v,h3,h4⟩:=bind_inv h
    obtain ⟨us,h5,rfl⟩:=map_inv h4
    cases v with
    | bool x=>
      obtain ⟨y,h6,rfl⟩:=map_inv h2
      refine hh e (.head _) _ h3 ⟨x,rfl,fun e=>and_ok (fun e he=>hh e (.tail _ he)) h5 h6 ?_,fun e=>?_⟩
      · rw [e] at q; exact q
      · rw [e] at q; exact q
    | _=>cases h2
theorem or_ok {Xc:Exc}:∀ {es:List X} {vs:List V} {b:Bool},(∀ e∈es,∀ v,evX pf st e=some v→∀ {Q:Post},Q v st→wpX Γ e Q Xc st)→evXs pf st es=some vs→evOr vs=some b→∀ {Q:Bool→St→Prop},Q b st→wpOr Γ es Q Xc st
  | [],vs,b,_,h,h2,Q,q=>by cases h; cases h2; exact q
  | e :: r,vs,b,hh,h,h2,Q,q=>by
    obtain ⟨v,h3,h4⟩:=bind_inv h
    obtain ⟨us,h5,rfl⟩:=map_inv h4
    cases v with
    | bool x=>
      obtain ⟨y,h6,rfl⟩:=map_inv h2
      refine hh e (.head _) _ h3 ⟨x,rfl,fun e=>or_ok (fun e he=>hh e (.tail _ he)) h5 h6 ?_,fun e=>?_⟩
      · rw [e] at q; exact q
      · rw [e] at q; exact q
    | _=>cases h2
theorem evs_of {Xc:Exc}:∀ {es:List X} {vs:List V},(∀ e∈es,∀ v,evX pf st e=some v→∀ {Q:Post},Q v st→wpX Γ e Q Xc st)→evXs pf st es=some vs→∀ {Q:List V→St→Prop},Q vs st→wpXs Γ es Q Xc st
  | [],vs,_,h,Q,q=>by cases h; exact q
  | e :: r,vs,hh,h,Q,q=>by
    obtain ⟨v,h3,h4⟩:=bind_inv h
    obtain ⟨us,h5,rfl⟩:=map_inv h4
    exact hh e (.head _) _ h3 (evs_of (fun e he=>hh e (.tail _ he)) h5 q)
set_option tactic.hygienic true in
theorem evX_ok (hp:PfOk pf Γ) {Xc:Exc}:∀ (e:X) (v:V),evX pf st e=some v→∀ {Q:Post},Q v st→wpX Γ e Q Xc st:=by
  intro e
  refine X.rec (motive_1:=fun e=>∀ v,evX pf st e=some v→∀ {Q:Post},Q v st→wpX Γ e Q Xc st) (motive_2:=fun es=>∀ e∈es,∀ v,evX pf st e=some v→∀ {Q:Post},Q v st→wpX Γ e Q Xc st)
    ?_ ?_ ?_ ?_ ?_ ?_ ?_ ?_ ?_ ?_ ?_ ?_ ?_ ?_ ?_ ?_ ?_ ?_ ?_ ?_ ?_ ?_ ?_ ?_ ?_ ?_ ?_ ?_ ?_ ?_ ?_ ?_ ?_ e
  · intro v u h Q q; cases h; exact q
  · intro x v h Q q
    rw [w_loc]
    have h:vLocal (lkL x st.ρ)=some v:=h
    cases e:lkL x st.ρ with
    | none=>rw [e] at h; cases h
    | some l=>
      rw [e] at h
      cases l with
      | v w=>cases h; exact q
      | own _=>cases h
  · intro es ih v h Q q
    obtain ⟨vs,h1,h2⟩:=bind_inv h
    split at h2
    · cases h2; exact evs_of ih h1 ⟨by assumption,q⟩
    · cases h2
  · intro es ih v h Q q
    obtain ⟨vs,h1,h2⟩:=bind_inv h
    split at h2
    · cases h2; exact evs_of ih h1 ⟨by assumption,q⟩
    · cases h2
  · intro e n ih v h Q q
    obtain ⟨u,h1,h2⟩:=bind_inv h
    exact ih _ h1 ⟨_,h2,q⟩
  · intro op a b iha ihb v h Q q
    obtain ⟨x,h1,h2⟩:=bind_inv h
    obtain ⟨y,h3,h4⟩:=bind_inv h2
    exact iha _ h1 (ihb _ h3 (evB_ok h4 q))
  · intro a ih v h Q q
    obtain ⟨x,h1,h2⟩:=bind_inv h
    cases x <;> cases h2
    exact ih _ h1 ⟨_,rfl,q⟩
  · intro a ih v h Q q
    obtain ⟨x,h1,h2⟩:=bind_inv h
    cases x <;> cases h2
    exact ih _ h1 ⟨_,rfl,q⟩
  · intro es ih v h Q q
    obtain ⟨vs,h1,h2⟩:=bind_inv h
    obtain ⟨b,h3,rfl⟩:=map_inv h2
    exact and_ok ih h1 h3 q
  · intro es ih v h Q q
    obtain ⟨vs,h1,h2⟩:=bind_inv h
    obtain ⟨b,h3,rfl⟩:=map_inv h2
    exact or_ok ih h1 h3 q
  · intro a op b iha ihb v h Q q
    obtain ⟨x,h1,h2⟩:=bind_inv h
    obtain ⟨y,h3,h4⟩:=bind_inv h2
    obtain ⟨r,h5,rfl⟩:=map_inv h4
    exact iha _ h1 (ihb _ h3 ⟨r,h5,q⟩)
  · intro a o b p c iha ihb ihc v h Q q
    obtain ⟨x,h1,h2⟩:=bind_inv h
    obtain ⟨y,h3,h4⟩:=bind_inv h2
    obtain ⟨z,h5,h6⟩:=bind_inv h4
    obtain ⟨r,h7,h8⟩:=bind_inv h6
    obtain ⟨s,h9,rfl⟩:=map_inv h8
    refine iha _ h1 (ihb _ h3 ⟨r,h7,fun e=>ihc _ h5 ⟨s,h9,?_⟩,fun e=>?_⟩)
    · rw [e] at q; exact q
    · rw [e] at q; exact q
  all_goals try (intros; rename_i h _ _; exact nS h; done)
  · intro f es ih v h Q q
    obtain ⟨vs,h1,h2⟩:=bind_inv h
    exact evs_of ih h1 (hp _ _ _ h2 _ _ _ q)
  · intro e T ih v h Q q
    obtain ⟨x,h1,h2⟩:=bind_inv h
    obtain ⟨r,h3,rfl⟩:=map_inv h2
    exact ih _ h1 ⟨r,h3,q⟩
  · intro k v ihk ihv u h Q q
    obtain ⟨x,h1,h2⟩:=bind_inv h
    obtain ⟨y,h3,h4⟩:=bind_inv h2
    cases x <;> cases h4
    exact ihk _ h1 (ihv _ h3 ⟨_,rfl,q⟩)
  · intro e he; nomatch he
  · intro e r ihe ihr x hx
    rcases List.mem_cons.mp hx with rfl | hx
    · exact ihe
    · exact ihr x hx
end
noncomputable def pf (f:Addr) (vs:List V):Option V:=match vs with
  | [.int i]=>if f=189 then some (.bool (isDg i)) else if f=196 then some (.bool (isLt i)) else if f=203 then some (.bool (isLt i || (isDg i || false))) else if f=210 then some (.bool (isBk i)) else if f=217 then some (.bool (isCt i)) else if f=224 then some (.bool (isNl i)) else none
  | _=>none
noncomputable def pf0 (f:Addr) (vs:List V):Option V:=match vs with
  | [.int i]=>if f=189 then some (.bool (isDg i)) else if f=196 then some (.bool (isLt i)) else none
  | _=>none
end
structure Core where
  t:List UInt8
  at_:Nat
  line:Nat
  buf:List UInt8
noncomputable abbrev Lc:=List (String × LV)
noncomputable abbrev Rs (α:Type):=Sum (α × Core) (List UInt8)
noncomputable def Rs.ok {α:Type} (r:Rs α) (G:α→Core→Prop):Prop:=match r with
  | .inl p=>G p.1 p.2
  | .inr _=>True
noncomputable def Rs.go {α:Type} (r:Rs α) (k:α→Core→Prop) (X:List UInt8→Prop):Prop:=match r with
  | .inl p=>k p.1 p.2
  | .inr m=>X m
section
variable {Ω:Type} (F:Ω→Core→Option Lex) (Γ:Specs)
def DE (e:X) (ρ:Lc) (c:Core) (G:V→Core→Prop):Prop:=∃ r:Rs V,r.ok G∧∀ o (Q:Post) X,r.go (fun v c'=>Q v ⟨ρ,F o c'⟩) X→wpX Γ e Q (fun m ω=>X m) ⟨ρ,F o c⟩
def DL (es:List X) (ρ:Lc) (c:Core) (G:List V→Core→Prop):Prop:=∃ r:Rs (List V),r.ok G∧∀ o (Q:List V→St→Prop) X,r.go (fun v c'=>Q v ⟨ρ,F o c'⟩) X→wpXs Γ es Q (fun m ω=>X m) ⟨ρ,F o c⟩
def DF (f:Addr) (vs:List V) (c:Core) (G:V→Core→Prop):Prop:=∃ r:Rs V,r.ok G∧∀ o (Q:V→Option Lex→Prop) X,r.go (fun v c'=>Q v (F o c')) X→Γ f vs (F o c) Q X
def DS (l:List S) (ρ:Lc) (c:Core) (G:Fl→Lc→Core→Prop):Prop:=∃ r:Rs (Fl × Lc),r.ok (fun p c'=>G p.1 p.2 c')∧∀ o (K:Fl→St→Prop) X,r.go (fun p c'=>K p.1 ⟨p.2,F o c'⟩) X→wpSs Γ l K (fun m ω=>X m) ⟨ρ,F o c⟩
end
section
variable {Ω:Type} {F:Ω→Core→Option Lex} {Γ:Specs} {ρ:Lc} {c:Core} {G:V→Core→Prop} {GS:Fl→Lc→Core→Prop} {e a b t:X} {r:List S}
theorem DE.pure {p:Pf} (hp:PfOk p Γ) {v:V} (h:∀ o,evX p ⟨ρ,F o c⟩ e=some v) (g:G v c):DE F Γ e ρ c G:=⟨.inl (v,c),g,fun o ω ω q=>evX_ok hp _ _ (h o) q⟩
theorem DE.mono {G':V→Core→Prop} (d:DE F Γ e ρ c G') (h:∀ v c',G' v c'→G v c'):DE F Γ e ρ c G:=by
  obtain ⟨r,g,w⟩:=d
  exact ⟨r,(match r,g with | .inl _,g=>h _ _ g | .inr _,_=>trivial),w⟩
theorem DL.pure {p:Pf} (hp:PfOk p Γ) {es:List X} {vs:List V} {G:List V→Core→Prop} (h:∀ o,evXs p ⟨ρ,F o c⟩ es=some vs) (g:G vs c):DL F Γ es ρ c G:=⟨.inl (vs,c),g,fun o ω ω q=>evs_of (fun e ω=>evX_ok hp e) (h o) q⟩
theorem DL.nil {G:List V→Core→Prop} (g:G [] c):DL F Γ [] ρ c G:=⟨.inl ([],c),g,fun ω ω ω q=>q⟩
theorem DL.cons {es:List X} {G':V→Core→Prop} {G:List V→Core→Prop} (d:DE F Γ e ρ c G') (h:∀ v c',G' v c'→DL F Γ es ρ c' fun vs c=>G (v :: vs) c):DL F Γ (e :: es) ρ c G:=by
  obtain ⟨r,g,w⟩:=d
  cases r with
  | inr m=>exact ⟨.inr m,trivial,fun o Q X q=>w o _ X q⟩
  | inl p=>
    obtain ⟨r2,g2,w2⟩:=h _ _ g
    cases r2 with
    | inr m=>exact ⟨.inr m,trivial,fun o Q X q=>w o _ X (w2 o _ X q)⟩
    | inl p2=>exact ⟨.inl (p.1 :: p2.1,p2.2),g2,fun o Q X q=>w o _ X (w2 o _ X q)⟩
theorem DE.call {f:Addr} {es:List X} {G':List V→Core→Prop} (d:DL F Γ es ρ c G') (h:∀ vs c',G' vs c'→DF F Γ f vs c' G):DE F Γ (.call f es) ρ c G:=by
  obtain ⟨r,g,w⟩:=d
  cases r with
  | inr m=>exact ⟨.inr m,trivial,fun o Q X q=>w o _ X q⟩
  | inl p=>
    obtain ⟨r2,g2,w2⟩:=h _ _ g
    exact ⟨r2,g2,fun o Q X q=>w o _ X (w2 o _ X q)⟩
theorem DE.mcall {x:String} {f:Addr} {es:List X} {G':List V→Core→Prop} (hx:lkL x ρ=some (.v .lex)) (hl:∀ o,∃ l,F o c=some l) (d:DL F Γ es ρ c G') (h:∀ vs c',G' vs c'→DF F Γ f (.lex :: vs) c' G):DE F Γ (.mcall (.loc x) f es) ρ c G:=by
  obtain ⟨r,g,w⟩:=d
  have key:∀ o (Q:Post) (X:List UInt8→Prop),wpXs Γ es (fun vs st=>Γ f (.lex :: vs) st.lx (fun v lx=>Q v { st with lx:=lx }) (fun m=>X m)) (fun m ω=>X m) ⟨ρ,F o c⟩→wpX Γ (.mcall (.loc x) f es) Q (fun m ω=>X m) ⟨ρ,F o c⟩:=fun o Q X q=>by
    rw [w_mcall,w_loc]
    dsimp only
    rw [hx]
    exact ⟨rfl,hl o,q⟩
  cases r with
  | inr m=>exact ⟨.inr m,trivial,fun o Q X q=>key o Q X (w o _ X q)⟩
  | inl p=>
    obtain ⟨r2,g2,w2⟩:=h _ _ g
    exact ⟨r2,g2,fun o Q X q=>key o Q X (w o _ X (w2 o _ X q))⟩
theorem DE.cmp {op:CmpOp} {Ga:V→Core→Prop} {Gb:V→V→Core→Prop} (da:DE F Γ a ρ c Ga) (db:∀ v c',Ga v c'→DE F Γ b ρ c' (Gb v)) (h:∀ v u c',Gb v u c'→∃ x,cmpV op v u=some x∧G (.bool x) c'):DE F Γ (.cmp a op b) ρ c G:=by
  obtain ⟨r,g,w⟩:=da
  cases r with
  | inr m=>exact ⟨.inr m,trivial,fun o Q X q=>w o _ X q⟩
  | inl p=>
    obtain ⟨r2,g2,w2⟩:=db _ _ g
    cases r2 with
    | inr m=>exact ⟨.inr m,trivial,fun o Q X q=>w o _ X (w2 o _ X q)⟩
    | inl p2=>
      obtain ⟨x,h1,h2⟩:=h _ _ _ g2
      exact ⟨.inl (.bool x,p2.2),h2,fun o Q X q=>w o _ X (w2 o _ X ⟨x,h1,q⟩)⟩
theorem DE.ite (dt:DE F Γ t ρ c fun v c'=>∃ x,v = .bool x∧(x=true→DE F Γ a ρ c' G)∧(x=false→DE F Γ b ρ c' G)):DE F Γ (.ite t a b) ρ c G:=by
  obtain ⟨r,g,w⟩:=dt
  cases r with
  | inr m=>exact ⟨.inr m,trivial,fun o Q X q=>w o _ X q⟩
  | inl p=>
    obtain ⟨v,c'⟩:=p
    obtain ⟨x,rfl,g1,g2⟩:=g
    cases x with
    | true=>
      obtain ⟨r2,k2,w2⟩:=g1 rfl
      exact ⟨r2,k2,fun o Q X q=>w o _ X ⟨true,rfl,fun ω=>w2 o _ X q,fun e=>(nomatch e)⟩⟩
    | false=>
      obtain ⟨r2,k2,w2⟩:=g2 rfl
      exact ⟨r2,k2,fun o Q X q=>w o _ X ⟨false,rfl,fun e=>(nomatch e),fun ω=>w2 o _ X q⟩⟩
theorem DS.nil (g:GS .next ρ c):DS F Γ [] ρ c GS:=⟨.inl ((.next,ρ),c),g,fun ω ω ω q=>q⟩
theorem DS.mono {G':Fl→Lc→Core→Prop} {l:List S} (d:DS F Γ l ρ c G') (h:∀ f ρ' c',G' f ρ' c'→GS f ρ' c'):DS F Γ l ρ c GS:=by
  obtain ⟨r,g,w⟩:=d
  exact ⟨r,(match r,g with | .inl _,g=>h _ _ _ g | .inr _,_=>trivial),w⟩
theorem wp_app {l r:List S}:∀ {K:Fl→St→Prop} {Xc:Exc} {st:St},wpSs Γ (l++r) K Xc st=wpSs Γ l (fun fl st=>match fl with | .next=>wpSs Γ r K Xc st | fl=>K fl st) Xc st:=by
  induction l with
  | nil=>intro K Xc st; rfl
  | cons s l ih=>
    intro K Xc st
    rw [List.cons_append,s_cons,s_cons]
    refine congrArg (fun k=>wpS Γ s k Xc st) ?_
    funext fl st
    cases fl with
    | next=>exact ih
    | _=>rfl
theorem DS.seq {s:S} {G':Fl→Lc→Core→Prop} (d:DS F Γ [s] ρ c G') (h:∀ fl ρ' c',G' fl ρ' c'→match fl with | .next=>DS F Γ r ρ' c' GS | fl=>GS fl ρ' c'):DS F Γ (s :: r) ρ c GS:=by
  obtain ⟨r1,g,w⟩:=d
  have key:=fun (o:Ω) (K:Fl→St→Prop) (X:List UInt8→Prop)=>(wp_app (Γ:=Γ) (l:=[s]) (r:=r) (K:=K) (Xc:=fun m ω=>X m) (st:=⟨ρ,F o c⟩)).mpr
  cases r1 with
  | inr m=>exact ⟨.inr m,trivial,fun o K X q=>key o K X (w o _ X q)⟩
  | inl p=>
    obtain ⟨⟨fl,ρ'⟩,c'⟩:=p
    have h:=h _ _ _ g
    cases fl with
    | next=>
      obtain ⟨r2,g2,w2⟩:=h
      exact ⟨r2,g2,fun o K X q=>key o K X (w o _ X (w2 o _ X q))⟩
    | brk=>exact ⟨.inl ((.brk,ρ'),c'),h,fun o K X q=>key o K X (w o _ X q)⟩
    | ret v=>exact ⟨.inl ((.ret v,ρ'),c'),h,fun o K X q=>key o K X (w o _ X q)⟩
theorem DS.asg {x:String} {G':V→Core→Prop} (d:DE F Γ e ρ c G') (h:∀ v c',G' v c'→DS F Γ r (setL x (.v v) ρ) c' GS):DS F Γ (.asg x e :: r) ρ c GS:=by
  obtain ⟨r1,g,w⟩:=d
  cases r1 with
  | inr m=>exact ⟨.inr m,trivial,fun o K X q=>w o _ X q⟩
  | inl p=>
    obtain ⟨r2,g2,w2⟩:=h _ _ g
    exact ⟨r2,g2,fun o K X q=>w o _ X (w2 o _ X q)⟩
theorem DS.expr {G':V→Core→Prop} (d:DE F Γ e ρ c G') (h:∀ v c',G' v c'→DS F Γ r ρ c' GS):DS F Γ (.expr e :: r) ρ c GS:=by
  obtain ⟨r1,g,w⟩:=d
  cases r1 with
  | inr m=>exact ⟨.inr m,trivial,fun o K X q=>w o _ X q⟩
  | inl p=>
    obtain ⟨r2,g2,w2⟩:=h _ _ g
    exact ⟨r2,g2,fun o K X q=>w o _ X (w2 o _ X q)⟩
theorem DS.ret (d:DE F Γ e ρ c fun v c'=>GS (.ret v) ρ c'):DS F Γ (.ret e :: r) ρ c GS:=by
  obtain ⟨r1,g,w⟩:=d
  cases r1 with
  | inr m=>exact ⟨.inr m,trivial,fun o K X q=>w o _ X q⟩
  | inl p=>exact ⟨.inl ((.ret p.1,ρ),p.2),g,fun o K X q=>w o _ X q⟩
theorem DS.retN (g:GS (.ret .none) ρ c):DS F Γ (.retN :: r) ρ c GS:=⟨.inl ((.ret .none,ρ),c),g,fun ω ω ω q=>q⟩
theorem DS.brk (g:GS .brk ρ c):DS F Γ (.brk :: r) ρ c GS:=⟨.inl ((.brk,ρ),c),g,fun ω ω ω q=>q⟩
theorem DS.pass (d:DS F Γ r ρ c GS):DS F Γ (.pass :: r) ρ c GS:=d
theorem DS.ifS {x y:List S} (d:DE F Γ t ρ c fun v c'=>∃ b,v = .bool b∧(b=true→DS F Γ (x++r) ρ c' GS)∧(b=false→DS F Γ (y++r) ρ c' GS)):DS F Γ (.ifS t x y :: r) ρ c GS:=by
  obtain ⟨r1,g,w⟩:=d
  cases r1 with
  | inr m=>exact ⟨.inr m,trivial,fun o K X q=>w o _ X q⟩
  | inl p=>
    obtain ⟨v,c'⟩:=p
    obtain ⟨b,rfl,g1,g2⟩:=g
    cases b with
    | true=>
      obtain ⟨r2,k2,w2⟩:=g1 rfl
      exact ⟨r2,k2,fun o K X q=>w o _ X ⟨true,rfl,fun ω=>wp_app ▸ w2 o K X q,fun e=>(nomatch e)⟩⟩
    | false=>
      obtain ⟨r2,k2,w2⟩:=g2 rfl
      exact ⟨r2,k2,fun o K X q=>w o _ X ⟨false,rfl,fun e=>(nomatch e),fun ω=>wp_app ▸ w2 o K X q⟩⟩
theorem DF.of {Γ':Specs} {f:Addr} {ps:List String} {l:List S} {vs:List V} (e:Γ f=wpFn Γ' ps l) (hl:vs.length=ps.length) (d:DS F Γ' l (ps.zip (vs.map .v)) c fun fl ω c'=>match fl with | .ret v=>G v c' | .next=>G .none c' | .brk=>False):DF F Γ f vs c G:=by
  obtain ⟨r1,g,w⟩:=d
  cases r1 with
  | inr m=>exact ⟨.inr m,trivial,fun o Q X q=>by rw [e]; exact ⟨hl,w o _ X q⟩⟩
  | inl p=>
    obtain ⟨⟨fl,ρ'⟩,c'⟩:=p
    cases fl with
    | next=>exact ⟨.inl (.none,c'),g,fun o Q X q=>by rw [e]; exact ⟨hl,w o _ X q⟩⟩
    | brk=>exact g.elim
    | ret v=>exact ⟨.inl (v,c'),g,fun o Q X q=>by rw [e]; exact ⟨hl,w o _ X q⟩⟩
theorem DF.mono {f:Addr} {vs:List V} {G':V→Core→Prop} (d:DF F Γ f vs c G') (h:∀ v c',G' v c'→G v c'):DF F Γ f vs c G:=by
  obtain ⟨r,g,w⟩:=d
  exact ⟨r,(match r,g with | .inl _,g=>h _ _ g | .inr _,_=>trivial),w⟩
end
theorem least {p:Nat→Prop}:∀ {n:Nat},p n→∃ m,p m∧∀ k,p k→m≤k:=by
  intro n
  induction n using Nat.strongRecOn with
  | ind n ih=>
    intro h
    by_cases q:∃ k,k < n∧p k
    · obtain ⟨k,h1,h2⟩:=q
      exact ih k h1 h2
    · exact ⟨n,h,fun k hk=>Nat.le_of_not_lt fun hl=>q ⟨k,hl,hk⟩⟩
section
variable {Ω:Type} {F:Ω→Core→Option Lex} {Γ:Specs} {t:X} {body:List S}
def DI (F:Ω→Core→Option Lex) (Γ:Specs) (t:X) (body:List S) (ρ:Lc) (c:Core) (G:Option Fl→Lc→Core→Prop):Prop:=
  ∃ r:Rs (Option Fl × Lc),r.ok (fun p c'=>G p.1 p.2 c')∧∀ o (K:Option Fl→St→Prop) (X:List UInt8→Prop),r.go (fun p c'=>K p.1 ⟨p.2,F o c'⟩) X→
    wpX Γ t (fun v st=>∃ b,v = .bool b∧(b=true→wpSs Γ body (fun fl st=>K (some fl) st) (fun m ω=>X m) st)∧(b=false→K none st)) (fun m ω=>X m) ⟨ρ,F o c⟩
theorem DI.of {ρ:Lc} {c:Core} {G:Option Fl→Lc→Core→Prop} (d:DE F Γ t ρ c fun v c'=>∃ b,v = .bool b∧(b=true→DS F Γ body ρ c' fun fl ρ' c''=>G (some fl) ρ' c'')∧(b=false→G none ρ c')):DI F Γ t body ρ c G:=by
  obtain ⟨r1,g,w⟩:=d
  cases r1 with
  | inr m=>exact ⟨.inr m,trivial,fun o K X q=>w o _ X q⟩
  | inl p=>
    obtain ⟨v,c'⟩:=p
    obtain ⟨b,rfl,g1,g2⟩:=g
    cases b with
    | false=>exact ⟨.inl ((none,ρ),c'),g2 rfl,fun o K X q=>w o _ X ⟨false,rfl,fun e=>(nomatch e),fun ω=>q⟩⟩
    | true=>
      obtain ⟨r2,k2,w2⟩:=g1 rfl
      cases r2 with
      | inr m=>exact ⟨.inr m,trivial,fun o K X q=>w o _ X ⟨true,rfl,fun ω=>w2 o _ X q,fun e=>(nomatch e)⟩⟩
      | inl p2=>exact ⟨.inl ((some p2.1.1,p2.1.2),p2.2),k2,fun o K X q=>w o _ X ⟨true,rfl,fun ω=>w2 o _ X q,fun e=>(nomatch e)⟩⟩
noncomputable def rounds (it:Lc→Core→Rs (Option Fl × Lc)):Nat→Lc→Core→Rs (Fl × Lc)
  | 0,_,_=>.inr []
  | n+1,ρ,c=>match it ρ c with
    | .inr m=>.inr m
    | .inl ((none,ρ'),c')=>.inl ((.next,ρ'),c')
    | .inl ((some .next,ρ'),c')=>rounds it n ρ' c'
    | .inl ((some .brk,ρ'),c')=>.inl ((.next,ρ'),c')
    | .inl ((some (.ret v),ρ'),c')=>.inl ((.ret v,ρ'),c')
def LoopG (P:Lc→Core→Prop) (μ:Lc→Core→Nat) (GS:Fl→Lc→Core→Prop) (n:Nat) (fl:Option Fl) (ρ:Lc) (c:Core):Prop:=match fl with
  | none=>GS .next ρ c
  | some .next=>P ρ c∧μ ρ c < n
  | some .brk=>GS .next ρ c
  | some (.ret v)=>GS (.ret v) ρ c
theorem DS.while (P:Lc→Core→Prop) (μ:Lc→Core→Nat) {GS:Fl→Lc→Core→Prop} (hI:∀ ρ c,P ρ c→DI F Γ t body ρ c (LoopG P μ GS (μ ρ c))) {ρ:Lc} {c:Core} (hP:P ρ c):DS F Γ [.whileS t body] ρ c GS:=by
  have hc:∀ x:Lc × Core,∃ r:Rs (Option Fl × Lc),P x.1 x.2→r.ok (fun p c'=>LoopG P μ GS (μ x.1 x.2) p.1 p.2 c')∧∀ o (K:Option Fl→St→Prop) (X:List UInt8→Prop),r.go (fun p c'=>K p.1 ⟨p.2,F o c'⟩) X→
      wpX Γ t (fun v st=>∃ b,v = .bool b∧(b=true→wpSs Γ body (fun fl st=>K (some fl) st) (fun m ω=>X m) st)∧(b=false→K none st)) (fun m ω=>X m) ⟨x.1,F o x.2⟩:=fun x=>by
    by_cases h:P x.1 x.2
    · obtain ⟨r,h⟩:=hI _ _ h
      exact ⟨r,fun ω=>h⟩
    · exact ⟨.inr [],fun q=>absurd q h⟩
  obtain ⟨it',hit⟩:=Classical.axiomOfChoice hc
  let it:Lc→Core→Rs (Option Fl × Lc):=fun ρ c=>it' (ρ,c)
  have good:∀ n ρ c,P ρ c→μ ρ c < n→(rounds it n ρ c).ok fun p c'=>GS p.1 p.2 c':=by
    intro n
    induction n with
    | zero=>intro ρ c _ h; exact absurd h (Nat.not_lt_zero _)
    | succ n ih=>
      intro ρ c hP hm
      have h:=(hit (ρ,c) hP).1
      unfold rounds
      show Rs.ok (match it' (ρ,c) with | .inr m=>_ | .inl ((none,ρ'),c')=>_ | .inl ((some .next,ρ'),c')=>_ | .inl ((some .brk,ρ'),c')=>_ | .inl ((some (.ret v),ρ'),c')=>_) _
      cases q:it' (ρ,c) with
      | inr m=>trivial
      | inl p=>
        rw [q] at h
        obtain ⟨⟨fl,ρ'⟩,c'⟩:=p
        cases fl with
        | none=>exact h
        | some fl=>
          cases fl with
          | next=>exact ih _ _ h.1 (Nat.lt_of_lt_of_le h.2 (Nat.le_of_lt_succ hm))
          | brk=>exact h
          | ret v=>exact h
  refine ⟨rounds it (μ ρ c+1) ρ c,good _ _ _ hP (Nat.lt_succ_self _),fun o K X q=>?_⟩
  let J:Nat→St→Prop:=fun n st=>∃ ρ c,st=⟨ρ,F o c⟩∧P ρ c∧μ ρ c < n∧(rounds it n ρ c).go (fun p c'=>K p.1 ⟨p.2,F o c'⟩) X
  have hm:∀ st:St,∃ m,∀ n,J n st→J m st∧m≤n:=fun st=>by
    by_cases h:∃ n,J n st
    · obtain ⟨n,h⟩:=h
      obtain ⟨m,h1,h2⟩:=least (p:=fun n=>J n st) h
      exact ⟨m,fun k hk=>⟨h1,h2 k hk⟩⟩
    · exact ⟨0,fun n hn=>absurd ⟨n,hn⟩ h⟩
  obtain ⟨m,hm⟩:=Classical.axiomOfChoice hm
  refine (show wpS Γ (.whileS t body) _ _ _ from ⟨fun st=>∃ n,J n st,m,⟨_,ρ,c,rfl,hP,Nat.lt_succ_self _,q⟩,fun st hst=>?_⟩)
  obtain ⟨n,hn⟩:=hst
  refine bC fun ng=>?_;obtain ⟨⟨ρ1,c1,rfl,hP1,hm1,q1⟩,_⟩:=hm _ n hn;refine ng ?_;clear ng
  cases e:m ⟨ρ1,F o c1⟩ with
  | zero=>rw [e] at hm1; exact absurd hm1 (Nat.not_lt_zero _)
  | succ k=>
    rw [e] at hm1 q1
    obtain ⟨h,w⟩:=hit (ρ1,c1) hP1
    let K2:Option Fl→St→Prop:=fun fl st=>match fl with
      | none=>K .next st
      | some .next=>(∃ n,J n st)∧m st < k+1
      | some .brk=>K .next st
      | some (.ret v)=>K (.ret v) st
    have q2:(it' (ρ1,c1)).go (fun p c'=>K2 p.1 ⟨p.2,F o c'⟩) X:=by
      unfold rounds at q1
      have q1:Rs.go (match it' (ρ1,c1) with | .inr m=>.inr m | .inl ((none,ρ'),c')=>.inl ((.next,ρ'),c') | .inl ((some .next,ρ'),c')=>rounds it k ρ' c' | .inl ((some .brk,ρ'),c')=>.inl ((.next,ρ'),c') | .inl ((some (.ret v),ρ'),c')=>.inl ((.ret v,ρ'),c')) (fun p c'=>K p.1 ⟨p.2,F o c'⟩) X:=q1
      cases e2:it' (ρ1,c1) with
      | inr m=>rw [e2] at q1; exact q1
      | inl p=>
        rw [e2] at q1 h
        obtain ⟨⟨fl,ρ'⟩,c'⟩:=p
        cases fl with
        | none=>exact q1
        | some fl=>
          cases fl with
          | next=>
            have j:J k ⟨ρ',F o c'⟩:=⟨ρ',c',rfl,h.1,Nat.lt_of_lt_of_le h.2 (Nat.le_of_lt_succ hm1),q1⟩
            exact ⟨⟨k,j⟩,Nat.lt_succ_of_le (hm _ _ j).2⟩
          | brk=>exact q1
          | ret v=>exact q1
    have w2:=w o K2 X q2
    rw [show (fun (fl:Fl) (st:St)=>K2 (some fl) st)=fun fl st=>match fl with
        | .next=>(∃ n,J n st)∧m st < k+1
        | .brk=>K .next st
        | .ret v=>K (.ret v) st from by funext fl st; cases fl <;> rfl] at w2
    exact w2
end
structure Out where
  last:Nat
  cur:V
  ahead:V
noncomputable def sgn (t:List UInt8) (i:Nat):Int:=if i < t.length then (t.getD i 0).toNat else -1
noncomputable def lexFs (o:Out) (c:Core):List (String × V):=[("text",.byt c.t),("source",.byt [61,113]),("chunk",.byt [113]),("limits",.lims),("kinds",.kinds),("at",.int c.at_),("sign",.int (sgn c.t c.at_)),("line",.int c.line),("last_line",.int o.last),("buffer",.bufref),("current",o.cur),("ahead",o.ahead)]
noncomputable def lexOf (o:Out) (c:Core):Lex:=⟨lexFs o c,some c.buf⟩
noncomputable def FL (o:Out) (c:Core):Option Lex:=some (lexOf o c)
noncomputable abbrev sg (c:Core):Int:=sgn c.t c.at_
structure Inv (c:Core):Prop where
  t:c.t.length≤1000
  line:c.line≤min c.at_ c.t.length+1
  buf:c.buf.length≤1000000
noncomputable def Core.mv (c:Core):Core:={ c with at_:=c.at_+1 }
noncomputable def Core.put (c:Core) (b:List UInt8):Core:={ c with buf:=b }
theorem sgn_lt (t:List UInt8) (i:Nat):sgn t i < 256:=by
  unfold sgn
  split
  · have:=(t.getD i 0).toNat_lt; omega
  · omega
set_option tactic.hygienic true in
theorem sgn_in {t:List UInt8} {i:Nat} (h:sgn t i ≠ -1):i < t.length∧0≤sgn t i:=by
  unfold sgn at *
  split
  · exact ⟨by assumption,by omega⟩
  · rename_i q; rw [if_neg q] at h; exact absurd rfl h
theorem small {p:Pf} {n:Nat} {f:Addr} {i:Int} {e:X} {v:V} (hf:GG (n+1) f=wpFn (GG n) ["sign"] [.ret e]) (hp:PfOk p (GG n)) {lx:Option Lex} (h:evX p ⟨[("sign",.v (.int i))],lx⟩ e=some v) (Q:V→Option Lex→Prop) (X:List UInt8→Prop) (q:Q v lx):GG (n+1) f [.int i] lx Q X:=by
  rw [hf]
  exact ⟨rfl,evX_ok hp _ _ h q⟩
theorem pf_none (Γ:Specs):PfOk (fun ω ω=>none) Γ:=fun ω ω ω h=>by cases h
theorem one_int {f:Addr} {vs:List V} {v:V} (h:pf0 f vs=some v):∃ i,vs=[.int i]:=by
  rcases vs with _ | ⟨w,_ | ⟨_,_⟩⟩
  · cases h
  · cases w <;> first | exact ⟨_,rfl⟩ | exact (nS h)
  · cases w <;> exact (nS h)
theorem one_int2 {f:Addr} {vs:List V} {v:V} (h:pf f vs=some v):∃ i,vs=[.int i]:=by
  rcases vs with _ | ⟨w,_ | ⟨_,_⟩⟩
  · cases h
  · cases w <;> first | exact ⟨_,rfl⟩ | exact (nS h)
  · cases w <;> exact (nS h)
theorem pf0_ok (n:Nat):PfOk pf0 (GG (n+1)):=by
  intro f vs v h lx Q X q
  obtain ⟨i,rfl⟩:=one_int h
  rcases Classical.em (f=189) with e | e1
  · subst e; cases h; exact small rfl (pf_none _) rfl Q X q
  rcases Classical.em (f=196) with e | e2
  · subst e; cases h; exact small rfl (pf_none _) rfl Q X q
  exact nomatch ((((if_neg e1).trans (if_neg e2)).symm.trans h:Option.none=some v))
theorem pf_ok (n:Nat):PfOk pf (GG (n+2)):=by
  intro f vs v h lx Q X q
  obtain ⟨i,rfl⟩:=one_int2 h
  rcases Classical.em (f=189) with e | e1
  · subst e; cases h; exact small rfl (pf_none _) rfl Q X q
  rcases Classical.em (f=196) with e | e2
  · subst e; cases h; exact small rfl (pf_none _) rfl Q X q
  rcases Classical.em (f=203) with e | e3
  · subst e; cases h; exact small rfl (pf0_ok n) rfl Q X q
  rcases Classical.em (f=210) with e | e4
  · subst e; cases h; exact small rfl (pf_none _) rfl Q X q
  rcases Classical.em (f=217) with e | e5
  · subst e; cases h; exact small rfl (pf_none _) rfl Q X q
  rcases Classical.em (f=224) with e | e6
  · subst e; cases h; exact small rfl (pf_none _) rfl Q X q
  exact nomatch (((if_neg e1).trans ((if_neg e2).trans ((if_neg e3).trans ((if_neg e4).trans ((if_neg e5).trans (if_neg e6)))))).symm.trans h:Option.none=some v)
noncomputable def lexS (o:Out) (c:Core) (x:Int):Lex:=⟨[("text",.byt c.t),("source",.byt [61,113]),("chunk",.byt [113]),("limits",.lims),("kinds",.kinds),("at",.int c.at_),("sign",.int x),("line",.int c.line),("last_line",.int o.last),("buffer",.bufref),("current",o.cur),("ahead",o.ahead)],some c.buf⟩
theorem d_move (n:Nat) {c:Core} (hi:Inv c):DF FL (GG (n+1)) 322 [.lex] c fun v c'=>v = .none∧c'=c.mv:=by
  refine ⟨.inl (.none,c.mv),⟨rfl,rfl⟩,fun o Q X q=>?_⟩
  have q:Q .none (some (lexS o c.mv (sgn c.t (c.at_+1)))):=q
  have ht:=hi.t
  refine (show wpFn (GG n) ["self"] b_move _ _ Q X from ⟨rfl,lexOf o c,c.at_,1,rfl,rfl,Nat.le_of_ble_eq_true rfl,rfl,by decide,rfl,?_⟩)
  refine (show wpS (GG n) (.setF (.loc "self") "sign" _) _ _ _ from ⟨.int (c.at_+1),rfl,.byt c.t,rfl,rfl,by omega,decide ((c.at_+1:Int) < c.t.length),rfl,_,rfl,fun e=>?_,fun e=>?_⟩)
  · have h:c.at_+1 < c.t.length:=by have:=of_decide_eq_true e; omega
    rw [show sgn c.t (c.at_+1)=_ from if_pos h] at q
    exact ⟨.byt c.t,rfl,.int (c.at_+1),rfl,by omega,by omega,by omega,rfl,by decide,(fun e=>by cases e),_,rfl,Nat.le_of_ble_eq_true rfl,q⟩
  · have h:¬ c.at_+1 < c.t.length:=by have:=of_decide_eq_false e; omega
    rw [show sgn c.t (c.at_+1)=_ from if_neg h] at q
    exact ⟨rfl,by decide,(fun e=>by cases e),_,rfl,Nat.le_of_ble_eq_true rfl,q⟩
section
variable {Ω:Type} {F:Ω→Core→Option Lex} {Γ:Specs} {ρ ρ':Lc} {c c':Core} {G:V→Core→Prop} {GS:Fl→Lc→Core→Prop} {e:X} {s:S} {r:List S}
theorem DE.raw {v:V} (w:∀ o (Q:Post) (X:List UInt8→Prop),Q v ⟨ρ,F o c'⟩→wpX Γ e Q (fun m ω=>X m) ⟨ρ,F o c⟩) (g:G v c'):DE F Γ e ρ c G:=⟨.inl (v,c'),g,fun o Q X q=>w o Q X q⟩
theorem DS.raw (w:∀ o (K:Fl→St→Prop) (X:List UInt8→Prop),K .next ⟨ρ',F o c'⟩→wpS Γ s K (fun m ω=>X m) ⟨ρ,F o c⟩) (d:DS F Γ r ρ' c' GS):DS F Γ (s :: r) ρ c GS:=by
  obtain ⟨r2,g2,w2⟩:=d
  exact ⟨r2,g2,fun o K X q=>w o _ X (w2 o _ X q)⟩
theorem DS.retRaw {v:V} (w:∀ o (K:Fl→St→Prop) (X:List UInt8→Prop),K (.ret v) ⟨ρ',F o c'⟩→wpS Γ s K (fun m ω=>X m) ⟨ρ,F o c⟩) (g:GS (.ret v) ρ' c'):DS F Γ (s :: r) ρ c GS:=⟨.inl ((.ret v,ρ'),c'),g,fun o K X q=>w o _ X q⟩
theorem DE.bool {p:Pf} {b:Bool} (hp:PfOk p Γ) (h:∀ o,evX p ⟨ρ,F o c⟩ e=some (.bool b)) (g:G (.bool b) c):DE F Γ e ρ c G:=.pure hp h g
end
noncomputable def digs (l:List UInt8):List V:=l.map fun x=>.int x.toNat
theorem bytes_digs:∀ l:List UInt8,bytesOfV (digs l)=some l
  | []=>rfl
  | x :: l=>by
    show (if 0≤(x.toNat:Int)∧(x.toNat:Int) < 256 then (bytesOfV (digs l)).map ((x.toNat:Int).toNat.toUInt8 :: ·) else none)=_
    rw [if_pos ⟨by omega,by have:=x.toNat_lt; omega⟩,bytes_digs l]
    show some (_ :: l)=_
    rw [Int.toNat_natCast,show x.toNat.toUInt8=x from UInt8.ofNat_toNat]
theorem digs_app (l:List UInt8) (x:UInt8):digs l++[V.int x.toNat]=digs (l++[x]):=by unfold digs; rw [List.map_append]; rfl
theorem digs_rev (l:List UInt8):(digs l).reverse=digs l.reverse:=List.map_reverse.symm
section
variable {Ω:Type} {F:Ω→Core→Option Lex}
noncomputable def lcN (i left:Int) (l:List UInt8):Lc:=[("n",.v (.int i)),("left",.v (.int left)),("found",.own (digs l))]
noncomputable def dg (i:Int):UInt8:=(48+i).toNat.toUInt8
theorem dg_ok {i:Int} (h:0≤i) (h2:i≤9):V.int (48+i)=V.int (dg i).toNat:=by
  congr 1
  unfold dg
  show _=((UInt8.ofNat _).toNat:Int)
  rw [UInt8.toNat_ofNat']
  omega
theorem d_number_text (n:Nat) {c:Core} {i:Int} (h0:0≤i) (h1:i≤100000):DF F (GG (n+1)) 152 [.int i] c fun v c'=>c'=c∧∃ b,v = .byt b∧b.length≤100002:=by
  refine DF.of (show _=wpFn (GG n) ["n"] b_number_text from rfl) rfl ?_
  refine DS.raw (ρ':=lcN i i []) (c':=c) (fun o K X q=>⟨rfl,?_⟩) ?_
  · rw [if_neg (by omega)]; exact q
  refine DS.seq (G':=fun fl ρ c'=>fl = .next∧c'=c∧∃ left l,ρ=lcN i left l∧0≤left∧left≤9∧l.length≤100000)
    (DS.while (fun ρ c'=>c'=c∧∃ left l,ρ=lcN i left l∧0≤left∧l.length+left≤100000) (fun ρ ω=>match lkL "left" ρ with | some (.v (.int i))=>i.toNat | _=>0) (fun ρ c' hP=>?_) ⟨rfl,i,[],rfl,h0,by simpa using h1⟩) fun fl ρ c' hh=>?_
  · refine bC fun ng=>?_;obtain ⟨rfl,left,l,rfl,h2,h3⟩:=hP;refine ng ?_;clear ng
    refine DI.of (DE.bool (b:=decide (left > 9)) (pf_none _) (fun ω=>rfl) ⟨_,rfl,fun e=>?_,fun e=>?_⟩)
    · have e:=of_decide_eq_true e
      have hm:left.fmod 10=left % 10:=Int.fmod_eq_emod_of_nonneg _ (by omega)
      have hd:left.fdiv 10=left / 10:=Int.fdiv_eq_ediv_of_nonneg _ (by omega)
      have hg:=dg_ok (i:=left.fmod 10) (by omega) (by omega)
      refine DS.raw (ρ':=lcN i left (l++[dg (left.fmod 10)])) (c':=c') (fun o K X q=>⟨digs l,rfl,by omega,by omega,digs l,rfl,?_,?_⟩) ?_
      · show (List.map _ l).length < _
        rw [List.length_map]; omega
      · show K .next ⟨[_,_,("found",.own (digs l++[.int (48+left.fmod 10)]))],_⟩
        rw [hg,digs_app]
        exact q
      refine DS.raw (ρ':=lcN i (left.fdiv 10) (l++[dg (left.fmod 10)])) (c':=c') (fun o K X q=>⟨by omega,by omega,q⟩) (DS.nil ⟨⟨rfl,_,_,rfl,by omega,?_⟩,?_⟩)
      · rw [List.length_append,List.length_singleton]; omega
      · show (left.fdiv 10).toNat < left.toNat
        omega
    · have e:=of_decide_eq_false e
      exact ⟨rfl,rfl,left,l,rfl,h2,by omega,by omega⟩
  · refine bC fun ng=>?_;obtain ⟨rfl,rfl,left,l,rfl,h2,h3,h4⟩:=hh;refine ng ?_;clear ng
    have hg:=dg_ok h2 h3
    refine DS.raw (ρ':=lcN i left (l++[dg left])) (c':=c') (fun o K X q=>⟨digs l,rfl,digs l,rfl,?_,?_⟩) ?_
    · show (List.map _ l).length < _
      rw [List.length_map]; omega
    · show K .next ⟨[_,_,("found",.own (digs l++[.int (48+left)]))],_⟩
      rw [hg,digs_app]
      exact q
    refine DS.ifS (DE.bool (b:=decide (i < 0)) (pf_none _) (fun ω=>rfl) ⟨_,rfl,fun e=>absurd (of_decide_eq_true e) (by omega),fun ω=>?_⟩)
    refine DS.raw (ρ':=lcN i left (l++[dg left]).reverse) (c':=c') (fun o K X q=>⟨digs (l++[dg left]),rfl,?_,?_⟩) ?_
    · show (List.map _ _).length≤_
      rw [List.length_map,List.length_append,List.length_singleton]; omega
    · show K .next ⟨[_,_,("found",.own (digs (l++[dg left])).reverse)],_⟩
      rw [digs_rev]
      exact q
    have hlen:(l++[dg left]).reverse.length≤100002:=by
      rw [List.length_reverse,List.length_append,List.length_singleton]; omega
    refine DS.retRaw (v:=.byt (l++[dg left]).reverse) (ρ':=[("n",.v (.int i)),("left",.v (.int left)),("found",.v (.lst (digs (l++[dg left]).reverse)))]) (c':=c') (fun o K X q=>.inr ⟨rfl,?_,_,bytes_digs _,q⟩) ⟨rfl,_,rfl,hlen⟩
    show (List.map _ _).length≤_
    rw [List.length_map]; omega
end
section
variable {Ω:Type} {F:Ω→Core→Option Lex} {Γ:Specs} {ρ ρ':Lc} {c c':Core} {G:V→Core→Prop} {GS:Fl→Lc→Core→Prop} {e a b:X} {s:S} {r:List S}
theorem DE.cat {Ga:V→Core→Prop} {Gb:V→V→Core→Prop} (da:DE F Γ a ρ c Ga) (db:∀ v c',Ga v c'→DE F Γ b ρ c' (Gb v)) (h:∀ v u c',Gb v u c'→∃ x y,v = .byt x∧u = .byt y∧x.length+y.length≤16777216∧G (.byt (x++y)) c'):DE F Γ (.bin .Add a b) ρ c G:=by
  obtain ⟨r,g,w⟩:=da
  cases r with
  | inr m=>exact ⟨.inr m,trivial,fun o Q X q=>w o _ X q⟩
  | inl p=>
    obtain ⟨r2,g2,w2⟩:=db _ _ g
    cases r2 with
    | inr m=>exact ⟨.inr m,trivial,fun o Q X q=>w o _ X (w2 o _ X q)⟩
    | inl p2=>
      obtain ⟨x,y,h1,h2,h3,h4⟩:=h _ _ _ g2
      refine ⟨.inl (.byt (x++y),p2.2),h4,fun o Q X q=>w o _ X (w2 o _ X ?_)⟩
      rw [h1]
      show binV .Add (.byt x) p2.1 (fun v=>Q v ⟨ρ,F o p2.2⟩)
      rw [h2]
      exact ⟨h3,q⟩
theorem DS.raise (d:DE F Γ e ρ c fun v ω=>∃ m,v = .byt m):DS F Γ (.raise e :: r) ρ c GS:=by
  obtain ⟨r1,g,w⟩:=d
  cases r1 with
  | inr m=>exact ⟨.inr m,trivial,fun o K X q=>w o _ X q⟩
  | inl p=>
    obtain ⟨m,hm⟩:=g
    exact ⟨.inr m,trivial,fun o K X q=>w o _ X ⟨m,hm,q⟩⟩
theorem DS.asgP {p:Pf} {x:String} {v:V} (hp:PfOk p Γ) (h:∀ o,evX p ⟨ρ,F o c⟩ e=some v) (d:DS F Γ r (setL x (.v v) ρ) c GS):DS F Γ (.asg x e :: r) ρ c GS:=
  .asg (G':=fun u c'=>u=v∧c'=c) (.pure hp h ⟨rfl,rfl⟩) fun _ _ ⟨h1,h2⟩=>by rw [h1,h2]; exact d
theorem DE.callP {p:Pf} {f:Addr} {es:List X} {vs:List V} (hp:PfOk p Γ) (h:∀ o,evXs p ⟨ρ,F o c⟩ es=some vs) (d:DF F Γ f vs c G):DE F Γ (.call f es) ρ c G:=
  .call (G':=fun u c'=>u=vs∧c'=c) (.pure hp h ⟨rfl,rfl⟩) fun _ _ ⟨h1,h2⟩=>by rw [h1,h2]; exact d
theorem DE.mcallP {p:Pf} {x:String} {f:Addr} {es:List X} {vs:List V} (hp:PfOk p Γ) (hx:lkL x ρ=some (.v .lex)) (hl:∀ o,∃ l,F o c=some l) (h:∀ o,evXs p ⟨ρ,F o c⟩ es=some vs) (d:DF F Γ f (.lex :: vs) c G):DE F Γ (.mcall (.loc x) f es) ρ c G:=
  .mcall (G':=fun u c'=>u=vs∧c'=c) hx hl (.pure hp h ⟨rfl,rfl⟩) fun _ _ ⟨h1,h2⟩=>by rw [h1,h2]; exact d
theorem DS.ifP {p:Pf} {x y:List S} {t:X} (b:Bool) (hp:PfOk p Γ) (h:∀ o,evX p ⟨ρ,F o c⟩ t=some (.bool b)) (h1:b=true→DS F Γ (x++r) ρ c GS) (h2:b=false→DS F Γ (y++r) ρ c GS):DS F Γ (.ifS t x y :: r) ρ c GS:=
  .ifS (.pure hp h ⟨b,rfl,h1,h2⟩)
theorem DS.retP {p:Pf} {v:V} (hp:PfOk p Γ) (h:∀ o,evX p ⟨ρ,F o c⟩ e=some v) (g:GS (.ret v) ρ c):DS F Γ (.ret e :: r) ρ c GS:=.ret (.pure hp h g)
theorem d_is_number (n:Nat) {i:Int}:DF F (GG (n+1)) 96 [.int i] c fun v c'=>v = .bool true∧c'=c:=
  DF.of (show _=wpFn (GG n) ["value"] b_is_number from rfl) rfl (DS.ret (DE.bool (b:=true) (pf_none _) (fun ω=>rfl) ⟨rfl,rfl⟩))
theorem d_to_text (n:Nat) {i:Int} (h0:0≤i) (h1:i≤100000):DF F (GG (n+2)) 159 [.int i] c fun v c'=>c'=c∧∃ b,v = .byt b∧b.length≤100002:=by
  refine DF.of (show _=wpFn (GG (n+1)) ["value"] b_to_text from rfl) rfl ?_
  refine DS.ifP false (pf_none _) (fun ω=>rfl) (fun e=>(nomatch e)) fun ω=>?_
  refine DS.ifS (DE.callP (vs:=[.int i]) (pf_none _) (fun ω=>rfl) ((d_is_number n).mono fun v c' h=>⟨true,h.1,fun ω=>?_,fun e=>(nomatch e)⟩))
  obtain ⟨rfl,rfl⟩:=h
  exact DS.ret (DE.callP (vs:=[.int i]) (pf_none _) (fun ω=>rfl) (d_number_text n h0 h1))
theorem clip_le (n:Nat) (k:Int):clip n k≤n:=by
  unfold clip clipAt
  exact Int.toNat_le.mpr (Int.max_le.mpr ⟨Int.natCast_nonneg n,Int.min_le_right _ _⟩)
theorem cut_le (l:List UInt8) (a b:Int):(cutV l a b).length≤l.length:=by
  unfold cutV
  rw [List.length_drop,List.length_take]
  have:=clip_le l.length b
  omega
noncomputable def lcC (l:List UInt8) (a:Nat):Lc:=[("text",.v (.byt l)),("at",.v (.int a))]
theorem c_text_x (n:Nat) {l:List UInt8} (hl:l.length≤16777216):DF F (GG (n+1)) 166 [.byt l] c fun v c'=>c'=c∧∃ a:Nat,v = .byt (cutV l 0 a)∧a≤l.length∧(a < l.length→(l.getD a 0).toNat=0):=by
  refine DF.of (show _=wpFn (GG n) ["text"] b_c_text from rfl) rfl ?_
  refine DS.asgP (v:=.int 0) (pf_none _) (fun ω=>rfl) ?_
  refine DS.seq (G':=fun fl ρ c1=>fl = .next∧c1=c∧∃ a:Nat,ρ=lcC l a∧a≤l.length∧(a < l.length→(l.getD a 0).toNat=0))
    (DS.while (fun ρ c1=>c1=c∧∃ a:Nat,ρ=lcC l a∧a≤l.length) (fun ρ ω=>match lkL "at" ρ with | some (.v (.int i))=>l.length - i.toNat | _=>0) (fun ρ c1 hP=>?_) ⟨rfl,0,rfl,Nat.zero_le _⟩) fun fl ρ c1 hh=>?_
  · obtain ⟨rfl,a,rfl,h2⟩:=hP
    refine DI.of (DE.raw (v:=.bool (decide ((a:Int) < l.length) && !((l.getD a 0).toNat == (0:Int)))) (c':=c1) (fun o Q X q=>?_) ⟨_,rfl,fun e=>?_,fun e=>⟨rfl,rfl,a,rfl,h2,fun hl=>?_⟩⟩)
    · refine (show wpAnd _ _ _ _ _ from ⟨rfl,by omega,decide ((a:Int) < l.length),rfl,_,rfl,fun e=>?_,fun e=>?_⟩)
      · rw [e,Bool.true_and] at q
        have e:=of_decide_eq_true e
        refine ⟨by omega,by omega,e,!((l.getD a 0).toNat == (0:Int)),rfl,_,rfl,fun e2=>?_,fun e2=>?_⟩
        · rw [e2] at q; exact q
        · rw [e2] at q; exact q
      · rw [e,Bool.false_and] at q; exact q
    · have e:=of_decide_eq_true (Bool.and_eq_true_iff.mp e).1
      refine DS.asgP (v:=.int (a+1)) (pf_none _) (fun ω=>rfl) ?_
      exact DS.nil ⟨⟨rfl,a+1,rfl,by omega⟩,show l.length - (a+1) < l.length - a by omega⟩
    · rw [decide_eq_true (show (a:Int) < l.length by omega),Bool.true_and,Bool.not_eq_false'] at e
      have e:=eq_of_beq e
      omega
  · refine bC fun ng=>?_;obtain ⟨rfl,rfl,a,rfl,h2,h3⟩:=hh;refine ng ?_;clear ng
    exact DS.ret (DE.raw (v:=.byt (cutV l 0 a)) (c':=c1) (fun o Q X q=>⟨l,a,rfl,rfl,hl,by omega,q⟩) ⟨rfl,a,rfl,h2,h3⟩)
theorem d_c_text (n:Nat) {l:List UInt8} (hl:l.length≤16777216):DF F (GG (n+1)) 166 [.byt l] c fun v c'=>c'=c∧∃ b,v = .byt b∧b.length≤l.length:=
  (c_text_x n hl).mono fun _ _ ⟨h1,_,h2,_⟩=>⟨h1,_,h2,cut_le _ _ _⟩
theorem d_tt91 (n:Nat):DF F (GG (n+3)) 245 [.int 91] c fun v c'=>c'=c∧∃ b,v = .byt b∧b.length≤200000:=by
  refine DF.of (show _=wpFn (GG (n+2)) ["kind"] b_token_text from rfl) rfl ?_
  refine DS.ifP true (pf_ok n) (fun ω=>rfl) (fun ω=>?_) fun e=>(nomatch e)
  refine DS.ifP false (pf_ok n) (fun ω=>rfl) (fun e=>(nomatch e)) fun ω=>?_
  exact DS.ret (DE.raw (v:=.byt [91]) (c':=c) (fun o Q X q=>(show wpXs _ [.lstD [.loc "kind"]] _ _ _ from ⟨Nat.le_of_ble_eq_true rfl,.inr ⟨rfl,Nat.le_of_ble_eq_true rfl,_,rfl,q⟩⟩)) ⟨rfl,_,rfl,Nat.le_of_ble_eq_true rfl⟩)
theorem d_tt287 (n:Nat):DF F (GG (n+3)) 245 [.int 287] c fun v c'=>c'=c∧∃ b,v = .byt b∧b.length≤200000:=by
  refine DF.of (show _=wpFn (GG (n+2)) ["kind"] b_token_text from rfl) rfl ?_
  refine DS.ifP false (pf_ok n) (fun ω=>rfl) (fun e=>(nomatch e)) fun ω=>?_
  refine DS.asgP (v:=.int 30) (pf_ok n) (fun ω=>rfl) ?_
  exact DS.ret (DE.raw (v:=.byt [60,101,111,102,62]) (c':=c) (fun o Q X q=>Or.inl ⟨rfl,Nat.le_of_ble_eq_true rfl,false,rfl,false,rfl,fun e=>(nomatch e),fun ω=>Or.inl ⟨rfl,Nat.le_of_ble_eq_true rfl,by decide,by decide,by decide,q⟩⟩) ⟨rfl,_,rfl,Nat.le_of_ble_eq_true rfl⟩)
end
def Knd (k:Int):Prop:=k=284∨k=286∨k=287∨k=91
theorem fl_some {c:Core}:∀ o,∃ l,FL o c=some l:=fun ω=>⟨_,rfl⟩
theorem d_near (n:Nat) {c:Core} (hi:Inv c) {k:Int} (hk:Knd k):DF FL (GG (n+4)) 315 [.lex,.int k] c fun v c'=>c'=c∧∃ b,v = .byt b∧b.length≤1000000:=by
  have hb:=hi.buf
  refine DF.of (show _=wpFn (GG (n+3)) ["self","kind"] b_near_text from rfl) rfl ?_
  have h1:(k=284∨k=286)→DS FL (GG (n+3)) b_near_text (["self","kind"].zip ([V.lex,.int k].map .v)) c fun fl ω c'=>match fl with | .ret v=>c'=c∧∃ b,v = .byt b∧b.length≤1000000 | .next=>c'=c∧∃ b,V.none = .byt b∧b.length≤1000000 | .brk=>False:=fun hk=>by
    refine DS.ifP true (pf_ok (n+1)) (fun ω=>by rcases hk with rfl | rfl <;> rfl) (fun ω=>?_) fun e=>(nomatch e)
    refine DS.ret (DE.call (G':=fun vs c'=>vs=[.byt c.buf]∧c'=c) (DL.cons (G':=fun v c'=>v = .byt c.buf∧c'=c) (DE.raw (v:=.byt c.buf) (c':=c) (fun o Q X q=>⟨c.buf,rfl,by omega,q⟩) ⟨rfl,rfl⟩) fun v c' h=>DL.nil ⟨by rw [h.1],h.2⟩) fun vs c' h=>?_)
    rw [h.1,h.2]
    exact (d_c_text (n+2) (by omega)).mono fun v c' ⟨h1,b,h2,h3⟩=>⟨h1,b,h2,by omega⟩
  have h2:DF FL (GG (n+3)) 245 [.int k] c (fun v c'=>c'=c∧∃ b,v = .byt b∧b.length≤200000)→k≠284→k≠286→k=287∨k=91→DS FL (GG (n+3)) b_near_text (["self","kind"].zip ([V.lex,.int k].map .v)) c fun fl ω c'=>match fl with | .ret v=>c'=c∧∃ b,v = .byt b∧b.length≤1000000 | .next=>c'=c∧∃ b,V.none = .byt b∧b.length≤1000000 | .brk=>False:=fun d ω ω hk=>by
    refine DS.ifP false (pf_ok (n+1)) (fun ω=>by rcases hk with rfl | rfl <;> rfl) (fun e=>(nomatch e)) fun ω=>?_
    exact DS.ret (DE.callP (vs:=[.int k]) (pf_ok (n+1)) (fun ω=>rfl) (d.mono fun v c' ⟨h1,b,h2,h3⟩=>⟨h1,b,h2,by omega⟩))
  rcases hk with rfl | rfl | rfl | rfl
  · exact h1 (.inl rfl)
  · exact h1 (.inr rfl)
  · exact h2 (d_tt287 n) (by decide) (by decide) (.inl rfl)
  · exact h2 (d_tt91 n) (by decide) (by decide) (.inr rfl)
section
variable {c:Core} {G:V→Core→Prop}
theorem DE.catP {Ω:Type} {F:Ω→Core→Option Lex} {Γ:Specs} {ρ:Lc} {a b:X} {A B:Nat} (da:DE F Γ a ρ c fun v c'=>c'=c∧∃ x,v = .byt x∧x.length≤A) (db:DE F Γ b ρ c fun v c'=>c'=c∧∃ x,v = .byt x∧x.length≤B) (h:A+B≤16777216):DE F Γ (.bin .Add a b) ρ c fun v c'=>c'=c∧∃ x,v = .byt x∧x.length≤A+B:=
  .cat (Gb:=fun v u c'=>c'=c∧(∃ x,v = .byt x∧x.length≤A)∧∃ x,u = .byt x∧x.length≤B) da (fun v c' ⟨h1,h2⟩=>by rw [h1]; exact db.mono fun u c' ⟨h3,h4⟩=>⟨h3,h2,h4⟩) fun v u c' ⟨h1,⟨x,h2,h3⟩,y,h4,h5⟩=>⟨x,y,h2,h4,by omega,h1,x++y,rfl,by rw [List.length_append]; omega⟩
theorem DE.bytP {Ω:Type} {F:Ω→Core→Option Lex} {Γ:Specs} {ρ:Lc} {e:X} {l:List UInt8} {A:Nat} {p:Pf} (hp:PfOk p Γ) (h:∀ o,evX p ⟨ρ,F o c⟩ e=some (.byt l)) (hl:l.length≤A):DE F Γ e ρ c fun v c'=>c'=c∧∃ x,v = .byt x∧x.length≤A:=.pure hp h ⟨rfl,l,rfl,hl⟩
theorem d_error (n:Nat) (hi:Inv c) {l:List UInt8} (hl:l.length≤1000) {k:V} (hk:k = .none∨∃ i,k = .int i∧Knd i):DF FL (GG (n+5)) 301 [.lex,.byt l,k] c G:=by
  have hline:=hi.line
  have ht:=hi.t
  refine DF.of (show _=wpFn (GG (n+4)) ["self","text","kind"] b_error from rfl) rfl ?_
  refine DS.asg (DE.catP (A:=200000) (B:=1000) (DE.catP (A:=199000) (B:=1000) (DE.catP (A:=100) (B:=100002) (DE.catP (A:=10) (B:=10) (DE.bytP (pf_ok (n+2)) (fun ω=>rfl) (Nat.le_of_ble_eq_true rfl)) (DE.bytP (pf_ok (n+2)) (fun ω=>rfl) (Nat.le_of_ble_eq_true rfl)) (by decide) |>.mono fun v c' ⟨h1,x,h2,h3⟩=>⟨h1,x,h2,by omega⟩)
    (DE.callP (vs:=[.int c.line]) (pf_ok (n+2)) (fun ω=>rfl) (d_to_text (n+2) (by omega) (by omega))) (by decide) |>.mono fun v c' ⟨h1,x,h2,h3⟩=>⟨h1,x,h2,by omega⟩) (DE.bytP (pf_ok (n+2)) (fun ω=>rfl) (Nat.le_of_ble_eq_true rfl)) (by decide)) (DE.bytP (pf_ok (n+2)) (fun ω=>rfl) hl) (by decide)) fun v c' ⟨h1,x,h2,h3⟩=>?_
  subst h1
  subst h2
  rcases hk with rfl | ⟨i,rfl,hk⟩
  · refine DS.ifS (DE.raw (v:=.bool false) (c':=c') (fun o Q X q=>(show wpAnd _ _ _ _ _ from ⟨false,rfl,false,rfl,fun e=>(nomatch e),fun ω=>q⟩)) ⟨_,rfl,fun e=>(nomatch e),fun ω=>?_⟩)
    exact DS.raise (DE.pure (v:=.byt x) (pf_ok (n+2)) (fun ω=>rfl) ⟨x,rfl⟩)
  · have hne:(i == (0:Int))=false:=by rcases hk with rfl | rfl | rfl | rfl <;> rfl
    refine DS.ifP (!(i == (0:Int)) && true) (pf_ok (n+2)) (fun ω=>rfl) (fun ω=>?_) fun e=>by rw [hne] at e; cases e
    refine DS.asg (DE.catP (A:=1201010) (B:=10) (DE.catP (A:=201010) (B:=1000000) (DE.catP (A:=201000) (B:=10) (DE.bytP (pf_ok (n+2)) (fun ω=>rfl) (by omega)) (DE.bytP (pf_ok (n+2)) (fun ω=>rfl) (Nat.le_of_ble_eq_true rfl)) (by decide))
      (DE.mcallP (vs:=[.int i]) (pf_ok (n+2)) rfl fl_some (fun ω=>rfl) (d_near n hi hk)) (by decide)) (DE.bytP (pf_ok (n+2)) (fun ω=>rfl) (Nat.le_of_ble_eq_true rfl)) (by decide)) fun v c2 ⟨h1,y,h4,h5⟩=>?_
    subst h1
    subst h4
    exact DS.raise (DE.pure (v:=.byt y) (pf_ok (n+2)) (fun ω=>rfl) ⟨y,rfl⟩)
theorem DS.exprM {Ω:Type} {F:Ω→Core→Option Lex} {Γ:Specs} {ρ:Lc} {r:List S} {GS:Fl→Lc→Core→Prop} {G':V→Core→Prop} {p:Pf} {x:String} {f:Addr} {es:List X} {vs:List V} (hp:PfOk p Γ) (hx:lkL x ρ=some (.v .lex)) (hl:∀ o,∃ l,F o c=some l) (h:∀ o,evXs p ⟨ρ,F o c⟩ es=some vs) (d:DF F Γ f (.lex :: vs) c G') (hr:∀ v c',G' v c'→DS F Γ r ρ c' GS):DS F Γ (.expr (.mcall (.loc x) f es) :: r) ρ c GS:=
  .expr (.mcallP hp hx hl h d) hr
noncomputable def u8 (i:Int):UInt8:=i.toNat.toUInt8
theorem d_keep (n:Nat) (hi:Inv c) {i:Int} (h0:0≤i) (h1:i < 256):DF FL (GG (n+6)) 329 [.lex,.int i] c fun v c'=>v = .none∧c'=c.put (c.buf++[u8 i])∧c.buf.length < 1000000:=by
  have hb:=hi.buf
  refine DF.of (show _=wpFn (GG (n+5)) ["self","sign"] b_keep from rfl) rfl ?_
  refine DS.ifS (DE.raw (v:=.bool (decide ((c.buf.length:Int) ≥ 1000000))) (c':=c) (fun o Q X q=>⟨c.buf,rfl,by omega,.lims,rfl,.int 1000000,rfl,decide ((c.buf.length:Int) ≥ 1000000),rfl,q⟩) ⟨_,rfl,fun e=>?_,fun e=>?_⟩)
  · exact DS.exprM (G':=fun ω ω=>False) (vs:=[.byt _,.none]) (pf_ok (n+3)) rfl fl_some (fun ω=>rfl) (d_error n hi (Nat.le_of_ble_eq_true rfl) (.inl rfl)) fun ω ω h=>h.elim
  · have e:=of_decide_eq_false e
    exact DS.raw (c':=c.put (c.buf++[u8 i])) (fun o K X q=>⟨lexOf o c,c.buf,i,rfl,rfl,rfl,h0,h1,by omega,q⟩) (DS.nil ⟨rfl,rfl,by omega⟩)
theorem Inv.put (hi:Inv c) {b:List UInt8} (hb:b.length≤1000000):Inv (c.put b):=⟨hi.t,hi.line,hb⟩
theorem Inv.mv (hi:Inv c):Inv c.mv:=⟨hi.t,by have:=hi.line; show c.line≤min (c.at_+1) c.t.length+1; omega,hi.buf⟩
noncomputable def Core.km (c:Core):Core:=(c.put (c.buf++[u8 (sg c)])).mv
theorem d_km (n:Nat) (hi:Inv c) (hs:sg c ≠ -1):DF FL (GG (n+7)) 336 [.lex] c fun v c'=>v = .none∧c'=c.km∧Inv c':=by
  refine DF.of (show _=wpFn (GG (n+6)) ["self"] b_keep_and_move from rfl) rfl ?_
  refine DS.exprM (vs:=[.int (sg c)]) (pf_ok (n+4)) rfl fl_some (fun ω=>rfl) (d_keep n hi (sgn_in hs).2 (sgn_lt _ _)) fun v c' ⟨_,h1,h2⟩=>?_
  subst h1
  have hi2:=hi.put (b:=c.buf++[u8 (sg c)]) (by rw [List.length_append,List.length_singleton]; omega)
  exact DS.exprM (vs:=[]) (pf_ok (n+4)) rfl fl_some (fun ω=>rfl) (d_move (n+5) hi2) fun v c' ⟨_,h⟩=>DS.nil ⟨rfl,h,by rw [h]; exact hi2.mv⟩
theorem d_clear (n:Nat):DF FL (GG (n+1)) 350 [.lex] c fun v c'=>v = .none∧c'=c.put []:=by
  refine DF.of (show _=wpFn (GG n) ["self"] b_clear from rfl) rfl ?_
  exact DS.raw (c':=c.put []) (fun o K X q=>⟨lexOf o c,rfl,rfl,Nat.le_of_ble_eq_true rfl,rfl,q⟩) (DS.nil ⟨rfl,rfl⟩)
end
structure Nx (c c':Core):Prop where
  t:c'.t=c.t
  at_:c.at_≤c'.at_
  inv:Inv c'
theorem Nx.refl {c:Core} (h:Inv c):Nx c c:=⟨rfl,Nat.le_refl _,h⟩
theorem Nx.trans {a b c:Core} (h:Nx a b) (k:Nx b c):Nx a c:=⟨k.t.trans h.t,Nat.le_trans h.at_ k.at_,k.inv⟩
section
variable {c:Core}
theorem Nx.mv (h:Inv c):Nx c c.mv:=⟨rfl,Nat.le_succ _,h.mv⟩
theorem Nx.km (h:Inv c.km):Nx c c.km:=⟨rfl,Nat.le_succ _,h⟩
theorem d_keep_if (n:Nat) (hi:Inv c) {vs:List V} {b:Bool} (hv:inV (.int (sg c)) (.tup vs)=some b) (hs:b=true→sg c ≠ -1):DF FL (GG (n+8)) 343 [.lex,.tup vs] c fun v c'=>v = .bool b∧Inv c'∧c'=if b=true then c.km else c:=by
  refine DF.of (show _=wpFn (GG (n+7)) ["self","signs"] b_keep_if from rfl) rfl ?_
  refine DS.ifS (DE.raw (v:=.bool !b) (c':=c) (fun o Q X q=>⟨.int (sg c),rfl,!b,(show (inV (.int (sg c)) (.tup vs)).map (!·)=_ by rw [hv]; rfl),q⟩) ⟨_,rfl,fun e=>?_,fun e=>?_⟩)
  · have e:b=false:=by simpa using e
    exact DS.retP (v:=.bool false) (pf_ok (n+5)) (fun ω=>rfl) ⟨by rw [e],hi,by rw [e]; rfl⟩
  · have e:b=true:=by simpa using e
    refine DS.exprM (vs:=[]) (pf_ok (n+5)) rfl fl_some (fun ω=>rfl) (d_km n hi (hs e)) fun v c' ⟨_,h1,h2⟩=>?_
    exact DS.retP (v:=.bool true) (pf_ok (n+5)) (fun ω=>rfl) ⟨by rw [e],h2,by rw [h1,e]; rfl⟩
theorem nl_in {i:Int} (h:isNl i=true):i=10∨i=13:=by
  unfold isNl at h
  simpa using h
theorem nl_at (h:isNl (sg c)=true):c.at_ < c.t.length:=(sgn_in (t:=c.t) (i:=c.at_) (by rcases nl_in h with e | e <;> rw [show sgn c.t c.at_=_ from e] <;> decide)).1
noncomputable def Core.nl (c:Core):Core:={ c with line:=c.line+1 }
theorem d_end_line (n:Nat) (hi:Inv c) (hs:isNl (sg c)=true):DF FL (GG (n+3)) 357 [.lex] c fun v c'=>v = .none∧Nx c c'∧c.at_ < c'.at_∧c'.buf=c.buf:=by
  have ha:=nl_at hs
  have hline:=hi.line
  have ht:=hi.t
  refine DF.of (show _=wpFn (GG (n+2)) ["self"] b_end_line from rfl) rfl ?_
  refine DS.asgP (v:=.int (sg c)) (pf_ok n) (fun ω=>rfl) ?_
  refine DS.exprM (vs:=[]) (pf_ok n) rfl fl_some (fun ω=>rfl) (d_move (n+1) hi) fun v c1 ⟨_,h1⟩=>?_
  subst h1
  have last:∀ {c2:Core},c2.t=c.t→c.at_ < c2.at_→c2.line=c.line→c2.buf=c.buf→DS FL (GG (n+2)) [.augF "self" "line" (.cst (.int 1)),.ifS (.cmp (.fld (.loc "self") "line") .GtE (.cst (.int 2147483645))) [.expr (.mcall (.loc "self") 308 [(.cst (.byt [99,104,117,110,107,32,104,97,115,32,116,111,111,32,109,97,110,121,32,108,105,110,101,115]))])] []] [("self",.v .lex),("first",.v (.int (sg c)))] c2 fun fl ω c'=>match fl with | .ret v=>v = .none∧Nx c c'∧c.at_ < c'.at_∧c'.buf=c.buf | .next=>V.none = .none∧Nx c c'∧c.at_ < c'.at_∧c'.buf=c.buf | .brk=>False:=fun {c2} k1 k2 k3 k4=>by
    refine DS.raw (ρ':=[("self",.v .lex),("first",.v (.int (sg c)))]) (c':=c2.nl) (fun o K X q=>⟨lexOf o c2,c2.line,1,rfl,rfl,Nat.le_of_ble_eq_true rfl,rfl,by decide,rfl,q⟩) ?_
    refine DS.ifP (decide (((c2.line+1:Nat):Int) ≥ 2147483645)) (pf_ok n) (fun ω=>rfl) (fun e=>?_) fun ω=>?_
    · have e:=of_decide_eq_true e
      exact absurd e (by omega)
    · have hb:=hi.buf
      exact DS.nil ⟨rfl,⟨k1,Nat.le_of_lt k2,⟨by show c2.t.length≤_; rw [k1]; exact ht,by show c2.line+1≤min c2.at_ c2.t.length+1; rw [k1,k3]; omega,by show c2.buf.length≤_; rw [k4]; exact hb⟩⟩,k2,k4⟩
  refine DS.ifP (isNl (sg c.mv) && (!(sg c.mv == sg c) && true)) (pf_ok n) (fun ω=>rfl) (fun ω=>?_) fun ω=>?_
  · refine DS.exprM (vs:=[]) (pf_ok n) rfl fl_some (fun ω=>rfl) (d_move (n+1) hi.mv) fun v c1 ⟨_,h1⟩=>?_
    subst h1
    exact last rfl (by show c.at_ < c.at_+1+1; omega) rfl rfl
  · exact last rfl (by show c.at_ < c.at_+1; omega) rfl rfl
theorem d_behind (n:Nat) (hi:Inv c):DF FL (GG (n+1)) 378 [.lex] c fun v c'=>v = .int (sgn c.t (c.at_+1))∧c'=c:=by
  have ht:=hi.t
  refine DF.of (show _=wpFn (GG n) ["self"] b_sign_behind from rfl) rfl ?_
  refine DS.ret (DE.raw (v:=.int (sgn c.t (c.at_+1))) (c':=c) (fun o Q X q=>?_) ⟨rfl,rfl⟩)
  refine (show wpX _ (.ite _ _ _) _ _ _ from ⟨.int c.at_,rfl,.byt c.t,rfl,rfl,by omega,decide ((c.at_+1:Int) < c.t.length),rfl,_,rfl,fun e=>?_,fun e=>?_⟩)
  · have h:c.at_+1 < c.t.length:=by have:=of_decide_eq_true e; omega
    rw [show sgn c.t (c.at_+1)=_ from if_pos h] at q
    exact ⟨.byt c.t,rfl,.int c.at_,rfl,by omega,by omega,by omega,q⟩
  · have h:¬ c.at_+1 < c.t.length:=by have:=of_decide_eq_false e; omega
    rw [show sgn c.t (c.at_+1)=_ from if_neg h] at q
    exact q
noncomputable def lcL (i:Int) (k:Nat):Lc:=[("self",.v .lex),("bracket",.v (.int i)),("many",.v (.int k))]
theorem d_level (n:Nat) (hi:Inv c) (hs:sg c ≠ -1):DF FL (GG (n+8)) 427 [.lex] c fun v c'=>Nx c c'∧c.at_ < c'.at_∧∃ i:Int,v = .int i∧i≤1000000∧-1000001≤i∧(0≤i→sg c'=sg c)∧c.buf.length≤c'.buf.length:=by
  refine DF.of (show _=wpFn (GG (n+7)) ["self"] b_read_level from rfl) rfl ?_
  refine DS.asgP (v:=.int (sg c)) (pf_ok (n+5)) (fun ω=>rfl) ?_
  refine DS.asgP (v:=.int 0) (pf_ok (n+5)) (fun ω=>rfl) ?_
  refine DS.exprM (vs:=[]) (pf_ok (n+5)) rfl fl_some (fun ω=>rfl) (d_km n hi hs) fun v c1 ⟨_,h1,h2⟩=>?_
  have hlen:c.buf.length+1≤c1.buf.length:=by rw [h1]; show _≤(c.buf++[_]).length; rw [List.length_append,List.length_singleton]; omega
  have hx:Nx c c1:=by rw [h1] at h2 ⊢; exact .km h2
  have ha:c.at_ < c1.at_:=by rw [h1]; exact Nat.lt_succ_self _
  refine DS.seq (G':=fun fl ρ c'=>fl = .next∧∃ k:Nat,ρ=lcL (sg c) k∧Nx c1 c'∧k≤c'.buf.length∧c1.buf.length≤c'.buf.length∧sg c'≠61)
    (DS.while (fun ρ c'=>∃ k:Nat,ρ=lcL (sg c) k∧Nx c1 c'∧k≤c'.buf.length∧c1.buf.length≤c'.buf.length) (fun ω c'=>c1.t.length - c'.at_) (fun ρ c' hP=>?_) ⟨0,rfl,.refl h2,Nat.zero_le _,Nat.le_refl _⟩) fun fl ρ c' hh=>?_
  · refine bC fun ng=>?_;obtain ⟨k,rfl,h3,h4,h5⟩:=hP;refine ng ?_;clear ng
    refine DI.of (DE.bool (b:=sg c' == 61) (pf_ok (n+5)) (fun ω=>rfl) ⟨_,rfl,fun e=>?_,fun e=>⟨rfl,k,rfl,h3,h4,h5,fun q=>by rw [q] at e; cases e⟩⟩)
    have e:sg c'=61:=eq_of_beq e
    have hn:sg c' ≠ -1:=by rw [e]; decide
    refine DS.exprM (vs:=[]) (pf_ok (n+5)) rfl fl_some (fun ω=>rfl) (d_km n h3.inv hn) fun v c2 ⟨_,h6,h7⟩=>?_
    have hl2:c'.buf.length+1=c2.buf.length:=by rw [h6]; show _=(c'.buf++[_]).length; rw [List.length_append,List.length_singleton]
    refine DS.raw (ρ':=lcL (sg c) (k+1)) (c':=c2) (fun o K X q=>⟨k,1,rfl,rfl,q⟩) (DS.nil ⟨⟨k+1,rfl,h3.trans (by rw [h6] at h7 ⊢; exact .km h7),by omega,by omega⟩,?_⟩)
    have hl:=(sgn_in hn).1
    rw [h3.t] at hl
    rw [h6]
    show c1.t.length - (c'.at_+1) < _
    omega
  · refine bC fun ng=>?_;obtain ⟨rfl,k,rfl,h3,h4,h5,h6⟩:=hh;refine ng ?_;clear ng
    have hb:=h3.inv.buf
    have h7:=h3.at_
    refine DS.ret (DE.ite (DE.bool (b:=sg c' == sg c) (pf_ok (n+5)) (fun ω=>rfl) ⟨_,rfl,fun e=>DE.pure (v:=.int k) (pf_ok (n+5)) (fun ω=>rfl) ?_,fun e=>DE.pure (v:=.int (-(k:Int) - 1)) (pf_ok (n+5)) (fun ω=>rfl) ?_⟩))
    · exact ⟨hx.trans h3,by omega,k,rfl,by omega,by omega,fun ω=>eq_of_beq e,by omega⟩
    · exact ⟨hx.trans h3,by omega,_,rfl,by omega,by omega,fun q=>absurd q (by omega),by omega⟩
end
theorem DS.asgR {Ω:Type} {F:Ω→Core→Option Lex} {Γ:Specs} {ρ:Lc} {c c':Core} {GS:Fl→Lc→Core→Prop} {x:String} {e:X} {r:List S} {v:V} (w:∀ o (Q:Post) (X:List UInt8→Prop),Q v ⟨ρ,F o c'⟩→wpX Γ e Q (fun m ω=>X m) ⟨ρ,F o c⟩) (d:DS F Γ r (setL x (.v v) ρ) c' GS):DS F Γ (.asg x e :: r) ρ c GS:=
  .asg (G':=fun u c2=>u=v∧c2=c') (.raw w ⟨rfl,rfl⟩) fun _ _ ⟨h1,h2⟩=>by rw [h1,h2]; exact d
section
variable {c:Core}
theorem dg_in {i:Int} (h:isDg i=true):48≤i∧i≤57:=by
  unfold isDg at h
  simpa using h
theorem dg_ne (h:isDg (sg c)=true):sg c ≠ -1:=fun q=>by have:=(dg_in h).1; rw [q] at this; omega
noncomputable def lcD (v k:Int):Lc:=[("self",.v .lex),("value",.v (.int v)),("many",.v (.int k))]
theorem dig_step {v k x:Int} (hd:48≤x∧x≤57) (h:(k=0∧v≤0)∨(k=1∧v≤9)∨(k=2∧v≤99)∨k=3) (hk:k < 3):(k+1=0∧10 * v+x - 48≤0)∨(k+1=1∧10 * v+x - 48≤9)∨(k+1=2∧10 * v+x - 48≤99)∨k+1=3:=by
  rcases h with ⟨rfl,h⟩ | ⟨rfl,h⟩ | ⟨rfl,h⟩ | rfl
  · exact .inr (.inl ⟨rfl,by omega⟩)
  · exact .inr (.inr (.inl ⟨rfl,by omega⟩))
  · exact .inr (.inr (.inr rfl))
  · exact absurd hk (by decide)
theorem d_digits (n:Nat) (hi:Inv c):DF FL (GG (n+7)) 462 [.lex] c fun v c'=>v = .none∧Nx c c':=by
  refine DF.of (show _=wpFn (GG (n+6)) ["self"] b_read_digits from rfl) rfl ?_
  refine DS.raw (ρ':=lcD 0 0) (c':=c) (fun o K X q=>q) ?_
  refine DS.seq (G':=fun fl ρ c'=>fl = .next∧∃ v k:Int,ρ=lcD v k∧Nx c c'∧0≤v)
    (DS.while (fun ρ c'=>∃ v k:Int,ρ=lcD v k∧Nx c c'∧0≤v∧((k=0∧v≤0)∨(k=1∧v≤9)∨(k=2∧v≤99)∨k=3)) (fun ω c'=>c.t.length - c'.at_) (fun ρ c' hP=>?_) ⟨0,0,rfl,.refl hi,by omega,by omega⟩) fun fl ρ c' hh=>?_
  · refine bC fun ng=>?_;obtain ⟨v,k,rfl,h3,h4,h5⟩:=hP;refine ng ?_;clear ng
    refine DI.of (DE.bool (b:=decide (k < 3) && (isDg (sg c') && true)) (pf_ok (n+4)) (fun ω=>rfl) ⟨_,rfl,fun e=>?_,fun e=>⟨rfl,v,k,rfl,h3,h4⟩⟩)
    obtain ⟨e1,e2⟩:=Bool.and_eq_true_iff.mp e
    have e1:=of_decide_eq_true e1
    rw [Bool.and_true] at e2
    have hd:=dg_in e2
    refine DS.asgR (v:=.int (10 * v+sg c' - 48)) (c':=c') (fun o Q X q=>⟨by decide,by omega,.int (sg c'),rfl,q⟩) ?_
    refine DS.raw (ρ':=lcD (10 * v+sg c' - 48) (k+1)) (c':=c') (fun o K X q=>⟨k,1,rfl,rfl,q⟩) ?_
    refine DS.exprM (vs:=[]) (pf_ok (n+4)) rfl fl_some (fun ω=>rfl) (d_move (n+5) h3.inv) fun u c3 ⟨_,h6⟩=>?_
    refine DS.nil ⟨⟨_,_,rfl,h3.trans (by rw [h6]; exact .mv h3.inv),by omega,dig_step hd h5 e1⟩,?_⟩
    have hl:=(sgn_in (dg_ne e2)).1
    rw [h3.t] at hl
    rw [h6]
    show c.t.length - (c'.at_+1) < _
    omega
  · refine bC fun ng=>?_;obtain ⟨rfl,v,k,rfl,h3,h4⟩:=hh;refine ng ?_;clear ng
    refine DS.ifP (decide (v > 255)) (pf_ok (n+4)) (fun ω=>rfl) (fun e=>?_) fun e=>?_
    · exact DS.exprM (G':=fun ω ω=>False) (vs:=[.byt _,.int 286]) (pf_ok (n+4)) rfl fl_some (fun ω=>rfl) (d_error (n+1) h3.inv (Nat.le_of_ble_eq_true rfl) (.inr ⟨_,rfl,.inr (.inl rfl)⟩)) fun ω ω h=>h.elim
    · have e:=of_decide_eq_false e
      refine DS.exprM (vs:=[.int v]) (pf_ok (n+4)) rfl fl_some (fun ω=>rfl) (d_keep n h3.inv h4 (by omega)) fun u c2 ⟨_,h6,h7⟩=>DS.nil ⟨rfl,h3.trans ?_⟩
      rw [h6]
      exact ⟨rfl,Nat.le_refl _,h3.inv.put (by rw [List.length_append,List.length_singleton]; omega)⟩
theorem esc_find:((List.range 256).all fun k=>match Builtin.Bytes.find? ([97,98,102,110,114,116,118]:List UInt8).toArray #[k.toUInt8] 0 7 with | some j=>decide (j < 7) | none=>true)=true:=by decide +kernel
theorem d_esc_sign (n:Nat) {Ω:Type} {F:Ω→Core→Option Lex} {i:Int} (h0:0≤i) (h1:i < 256):DF F (GG (n+1)) 231 [.int i] c fun v c'=>c'=c∧(v = .none∨∃ j,v = .int j∧0≤j∧j < 256):=by
  have hf:=List.all_eq_true.mp esc_find i.toNat (List.mem_range.mpr (by omega))
  refine DF.of (show _=wpFn (GG n) ["sign"] b_escaped_sign from rfl) rfl ?_
  refine DS.asgR (v:=.int (((Builtin.Bytes.find? ([97,98,102,110,114,116,118]:List UInt8).toArray #[i.toNat.toUInt8] 0 7).map Int.ofNat).getD (-1))) (c':=c) (fun o Q X q=>⟨rfl,?_⟩) ?_
  · refine ⟨Nat.le_of_ble_eq_true rfl,Or.inr ⟨rfl,Nat.le_of_ble_eq_true rfl,[i.toNat.toUInt8],?_,rfl,q⟩⟩
    show (if 0≤i∧i < 256 then some [i.toNat.toUInt8] else none)=_
    rw [if_pos ⟨h0,h1⟩]
  cases e:Builtin.Bytes.find? ([97,98,102,110,114,116,118]:List UInt8).toArray #[i.toNat.toUInt8] 0 7 with
  | none=>exact DS.ret (DE.ite (DE.bool (b:=true) (pf_none _) (fun ω=>rfl) ⟨_,rfl,fun ω=>DE.pure (v:=.none) (pf_none _) (fun ω=>rfl) ⟨rfl,.inl rfl⟩,fun e=>(nomatch e)⟩))
  | some j=>
    rw [e] at hf
    have hf:j < 7:=of_decide_eq_true hf
    refine DS.ret (DE.ite (DE.bool (b:=decide ((j:Int) < 0)) (pf_none _) (fun ω=>rfl) ⟨_,rfl,fun e=>absurd (of_decide_eq_true e) (by omega),fun ω=>?_⟩))
    refine DE.raw (v:=.int ((([7,8,12,10,13,9,11]:List UInt8).getD j 0).toNat)) (c':=c) (fun o Q X q=>⟨Nat.le_of_ble_eq_true rfl,by show (0:Int)≤(j:Int); omega,by show (j:Int) < ((7:Nat):Int); omega,q⟩) ⟨rfl,.inr ⟨_,rfl,by omega,?_⟩⟩
    have:=(([7,8,12,10,13,9,11]:List UInt8).getD j 0).toNat_lt
    omega
theorem d_escape (n:Nat) (hi:Inv c):DF FL (GG (n+8)) 455 [.lex] c fun v c'=>v = .none∧Nx c c':=by
  refine DF.of (show _=wpFn (GG (n+7)) ["self"] b_read_escape from rfl) rfl ?_
  refine DS.ifP (sg c == -1) (pf_ok (n+5)) (fun ω=>rfl) (fun ω=>DS.retN ⟨rfl,.refl hi⟩) fun e=>?_
  have hs:sg c ≠ -1:=fun q=>by rw [q] at e; cases e
  have keep:∀ {c2:Core} {x:UInt8},c2=c.put (c.buf++[x])∧c.buf.length < 1000000→Nx c c2:=fun {c2 x} ⟨h1,h2⟩=>by
    rw [h1]
    exact ⟨rfl,Nat.le_refl _,hi.put (by rw [List.length_append,List.length_singleton]; omega)⟩
  refine DS.ifP (isNl (sg c)) (pf_ok (n+5)) (fun ω=>rfl) (fun e=>?_) fun ω=>?_
  · refine DS.exprM (vs:=[.int 10]) (pf_ok (n+5)) rfl fl_some (fun ω=>rfl) (d_keep (n+1) hi (by decide) (by decide)) fun u c2 ⟨_,h⟩=>?_
    have hx:=keep h
    have hn:isNl (sg c2)=true:=by rw [h.1]; exact e
    exact DS.exprM (vs:=[]) (pf_ok (n+5)) rfl fl_some (fun ω=>rfl) (d_end_line (n+4) hx.inv hn) fun u c3 ⟨_,h2,_⟩=>DS.retN ⟨rfl,hx.trans h2⟩
  refine DS.ifP (isDg (sg c)) (pf_ok (n+5)) (fun ω=>rfl) (fun e=>?_) fun ω=>?_
  · exact DS.exprM (vs:=[]) (pf_ok (n+5)) rfl fl_some (fun ω=>rfl) (d_digits n hi) fun u c3 ⟨_,h2⟩=>DS.retN ⟨rfl,h2⟩
  have h01:=(sgn_in hs).2
  have h02:=sgn_lt c.t c.at_
  refine DS.asg (DE.callP (vs:=[.int (sg c)]) (pf_ok (n+5)) (fun ω=>rfl) (d_esc_sign (n+6) h01 h02)) fun v c2 ⟨h1,h2⟩=>?_
  subst h1
  have fin:∀ {j:Int},0≤j→j < 256→DE FL (GG (n+7)) (.ite (.cmp (.loc "told") .Is (.cst .none)) (.fld (.loc "self") "sign") (.loc "told")) [("self",.v .lex),("told",.v v)] c2 (fun u c3=>u = .int j∧c3=c2)→DS FL (GG (n+7)) [.expr (.mcall (.loc "self") 329 [(.ite (.cmp (.loc "told") .Is (.cst .none)) (.fld (.loc "self") "sign") (.loc "told"))]),.expr (.mcall (.loc "self") 322 [])] [("self",.v .lex),("told",.v v)] c2 fun fl ω c'=>match fl with | .ret v=>v = .none∧Nx c2 c' | .next=>V.none = .none∧Nx c2 c' | .brk=>False:=fun {j} hj0 hj1 d=>by
    refine DS.expr (DE.mcall (G':=fun vs c3=>vs=[.int j]∧c3=c2) rfl fl_some (DL.cons d fun u c3 h=>DL.nil ⟨by rw [h.1],h.2⟩) fun vs c3 h=>?_:DE _ _ _ _ _ fun u c4=>u = .none∧c4=c2.put (c2.buf++[u8 j])∧c2.buf.length < 1000000) fun u c4 ⟨_,h⟩=>?_
    · rw [h.1,h.2]
      exact d_keep (n+1) hi hj0 hj1
    · have hx:=keep h
      exact DS.exprM (vs:=[]) (pf_ok (n+5)) rfl fl_some (fun ω=>rfl) (d_move (n+6) hx.inv) fun u c5 ⟨_,h6⟩=>DS.nil ⟨rfl,hx.trans (by rw [h6]; exact .mv hx.inv)⟩
  rcases h2 with rfl | ⟨j,rfl,hj0,hj1⟩
  · exact fin h01 h02 (DE.ite (DE.bool (b:=true) (pf_ok (n+5)) (fun ω=>rfl) ⟨_,rfl,fun ω=>DE.pure (v:=.int (sg c2)) (pf_ok (n+5)) (fun ω=>rfl) ⟨rfl,rfl⟩,fun e=>(nomatch e)⟩))
  · exact fin hj0 hj1 (DE.ite (DE.bool (b:=false) (pf_ok (n+5)) (fun ω=>rfl) ⟨_,rfl,fun e=>(nomatch e),fun ω=>DE.pure (v:=.int j) (pf_ok (n+5)) (fun ω=>rfl) ⟨rfl,rfl⟩⟩))
end
section
variable {c:Core}
theorem DE.tokP {Ω:Type} {F:Ω→Core→Option Lex} {Γ:Specs} {ρ:Lc} {G G':V→Core→Prop} {i:Int} {e:X} (d:DE F Γ e ρ c G') (h:∀ v c',G' v c'→G (.tok i v) c'):DE F Γ (.newTok (.cst (.int i)) e) ρ c G:=by
  obtain ⟨r,g,w⟩:=d
  cases r with
  | inr m=>exact ⟨.inr m,trivial,fun o Q X q=>w o _ X q⟩
  | inl p=>exact ⟨.inl (.tok i p.1,p.2),h _ _ g,fun o Q X q=>w o _ X ⟨i,rfl,q⟩⟩
def Pl (v:V):Prop:=v = .none∨(∃ b,v = .byt b)∨∃ i,v = .int i
theorem d_string (n:Nat) (hi:Inv c) (hs:sg c ≠ -1):DF FL (GG (n+9)) 448 [.lex,.int (sg c)] c fun v c'=>Nx c c'∧c.at_ < c'.at_∧∃ b,v = .tok 286 (.byt b):=by
  refine DF.of (show _=wpFn (GG (n+8)) ["self","quote"] b_read_string from rfl) rfl ?_
  refine DS.exprM (vs:=[]) (pf_ok (n+6)) rfl fl_some (fun ω=>rfl) (d_km (n+1) hi hs) fun v c1 ⟨_,h1,h2⟩=>?_
  have hx:Nx c c1:=by rw [h1] at h2 ⊢; exact .km h2
  have ha:c.at_ < c1.at_:=by rw [h1]; exact Nat.lt_succ_self _
  refine DS.seq (G':=fun fl ρ c'=>fl = .next∧ρ=[("self",.v .lex),("quote",.v (.int (sg c)))]∧Nx c1 c'∧sg c'=sg c)
    (DS.while (fun ρ c'=>ρ=[("self",.v .lex),("quote",.v (.int (sg c)))]∧Nx c1 c') (fun ω c'=>c.t.length - c'.at_) (fun ρ c' hP=>?_) ⟨rfl,.refl h2⟩) fun fl ρ c' hh=>?_
  · obtain ⟨rfl,h3⟩:=hP
    refine DI.of (DE.bool (b:=!(sg c' == sg c)) (pf_ok (n+6)) (fun ω=>rfl) ⟨_,rfl,fun ω=>?_,fun e=>⟨rfl,rfl,h3,by simpa using e⟩⟩)
    have stop:∀ {l:List UInt8} {k:Int} {r:List S} {G:Fl→Lc→Core→Prop},l.length≤1000→Knd k→DS FL (GG (n+8)) (.expr (.mcall (.loc "self") 301 [.cst (.byt l),.cst (.int k)]) :: r) [("self",.v .lex),("quote",.v (.int (sg c)))] c' G:=fun {l k r G} hl hk=>
      DS.exprM (G':=fun ω ω=>False) (vs:=[.byt l,.int k]) (pf_ok (n+6)) rfl fl_some (fun ω=>rfl) (d_error (n+3) h3.inv hl (.inr ⟨_,rfl,hk⟩)) fun ω ω h=>h.elim
    refine DS.ifP (sg c' == -1) (pf_ok (n+6)) (fun ω=>rfl) (fun ω=>stop (Nat.le_of_ble_eq_true rfl) (.inr (.inr (.inl rfl)))) fun e=>?_
    have hs':sg c' ≠ -1:=fun q=>by rw [q] at e; cases e
    have hl:=(sgn_in hs').1
    rw [h3.t,hx.t] at hl
    refine DS.ifP (isNl (sg c')) (pf_ok (n+6)) (fun ω=>rfl) (fun ω=>stop (Nat.le_of_ble_eq_true rfl) (.inr (.inl rfl))) fun ω=>?_
    refine DS.ifP (sg c' == 92) (pf_ok (n+6)) (fun ω=>rfl) (fun ω=>?_) fun ω=>?_
    · refine DS.exprM (vs:=[]) (pf_ok (n+6)) rfl fl_some (fun ω=>rfl) (d_move (n+7) h3.inv) fun v c2 ⟨_,h4⟩=>?_
      have hx2:Nx c' c2:=by rw [h4]; exact .mv h3.inv
      refine DS.exprM (vs:=[]) (pf_ok (n+6)) rfl fl_some (fun ω=>rfl) (d_escape n hx2.inv) fun v c3 ⟨_,h5⟩=>DS.nil ⟨⟨rfl,h3.trans (hx2.trans h5)⟩,?_⟩
      have:=h5.at_
      rw [h4] at this
      have:c'.at_+1≤c3.at_:=this
      show c.t.length - c3.at_ < c.t.length - c'.at_
      omega
    · refine DS.exprM (vs:=[]) (pf_ok (n+6)) rfl fl_some (fun ω=>rfl) (d_km (n+1) h3.inv hs') fun v c2 ⟨_,h4,h5⟩=>DS.nil ⟨⟨rfl,h3.trans (by rw [h4] at h5 ⊢; exact .km h5)⟩,?_⟩
      rw [h4]
      show c.t.length - (c'.at_+1) < c.t.length - c'.at_
      omega
  · obtain ⟨rfl,rfl,h3,h4⟩:=hh
    refine DS.exprM (vs:=[]) (pf_ok (n+6)) rfl fl_some (fun ω=>rfl) (d_km (n+1) h3.inv (by rw [h4]; exact hs)) fun v c2 ⟨_,h5,h6⟩=>?_
    have hb:=h6.buf
    have hx2:Nx c' c2:=by rw [h5] at h6 ⊢; exact .km h6
    refine DS.ret (DE.tokP (G':=fun v c3=>v = .byt (cutV c2.buf 1 (c2.buf.length - 1))∧c3=c2) (DE.raw (c':=c2) (fun o Q X q=>⟨c2.buf,1,c2.buf.length - 1,rfl,rfl,?_,by omega,by decide,by omega,q⟩) ⟨rfl,rfl⟩) fun v c3 ⟨h7,h8⟩=>?_)
    · have e:ev (.lenB "self") ⟨[("self",.v .lex),("quote",.v (.int (sg c)))],FL o c2⟩=some (c2.buf.length:Int):=if_pos (by omega)
      show (match ev (.lenB "self") ⟨[("self",.v .lex),("quote",.v (.int (sg c)))],FL o c2⟩,some (1:Int) with | some i,some j=>some (i - j) | _,_=>none)=_
      rw [e]
    · rw [h7,h8]
      exact ⟨hx.trans (h3.trans hx2),by have:=h3.at_; have:=hx2.at_; omega,_,rfl⟩
theorem d_inner (n:Nat) (hi:Inv c) (hs:sg c ≠ -1) {k:Int} (hk:0≤k):DF FL (GG (n+9)) 441 [.lex,.int k] c fun v c'=>v = .none∧Nx c c'∧c.at_ < c'.at_:=by
  refine DF.of (show _=wpFn (GG (n+8)) ["self","level"] b_read_inner from rfl) rfl ?_
  refine DS.ifS (DE.cmp (Gb:=fun v u c'=>u = .int k∧Nx c c'∧c.at_ < c'.at_∧∃ i:Int,v = .int i∧(0≤i→sg c'=sg c)) (DE.mcallP (vs:=[]) (pf_ok (n+6)) rfl fl_some (fun ω=>rfl) (d_level n hi hs)) (fun v c' ⟨h1,h2,i,h3,_,_,h4,_⟩=>DE.pure (v:=.int k) (pf_ok (n+6)) (fun ω=>rfl) ⟨rfl,h1,h2,i,h3,h4⟩) fun v u c' ⟨h0,h1,h2,i,h3,h4⟩=>⟨i == k,by rw [h0,h3]; rfl,i == k,rfl,fun e=>?_,fun ω=>DS.nil ⟨rfl,h1,h2⟩⟩)
  have e:i=k:=eq_of_beq e
  have hs':sg c' ≠ -1:=by rw [h4 (by omega)]; exact hs
  refine DS.exprM (vs:=[]) (pf_ok (n+6)) rfl fl_some (fun ω=>rfl) (d_km (n+1) h1.inv hs') fun v c2 ⟨_,h5,h6⟩=>?_
  have hx2:Nx c' c2:=by rw [h5] at h6 ⊢; exact .km h6
  refine DS.ifP (k == 0) (pf_ok (n+6)) (fun ω=>rfl) (fun ω=>?_) fun ω=>DS.nil ⟨rfl,h1.trans hx2,by have:=hx2.at_; omega⟩
  exact DS.exprM (G':=fun ω ω=>False) (vs:=[.byt _,.int 91]) (pf_ok (n+6)) rfl fl_some (fun ω=>rfl) (d_error (n+3) hx2.inv (Nat.le_of_ble_eq_true rfl) (.inr ⟨_,rfl,.inr (.inr (.inr rfl))⟩)) fun ω ω h=>h.elim
end
section
variable {c:Core}
noncomputable def lcG (k:Int) (it:Bool) (b:Nat):Lc:=[("self",.v .lex),("level",.v (.int k)),("is_text",.v (.bool it)),("begin",.v (.int b))]
theorem d_long (n:Nat) (hi:Inv c) (hs:sg c ≠ -1) {k:Int} (hk:0≤k) (hk2:k≤1000000) (it:Bool):DF FL (GG (n+10)) 434 [.lex,.int k,.bool it] c fun v c'=>Nx c c'∧c.at_ < c'.at_∧∃ b,v = .byt b:=by
  refine DF.of (show _=wpFn (GG (n+9)) ["self","level","is_text"] b_read_long from rfl) rfl ?_
  refine DS.exprM (vs:=[]) (pf_ok (n+7)) rfl fl_some (fun ω=>rfl) (d_km (n+2) hi hs) fun v c1 ⟨_,h1,h2⟩=>?_
  have hx:Nx c c1:=by rw [h1] at h2 ⊢; exact .km h2
  have ha:c.at_ < c1.at_:=by rw [h1]; exact Nat.lt_succ_self _
  have loop:∀ {c2:Core},Nx c1 c2→DS FL (GG (n+9)) (b_read_long.drop 2) [("self",.v .lex),("level",.v (.int k)),("is_text",.v (.bool it))] c2 fun fl ω c'=>match fl with | .ret v=>Nx c c'∧c.at_ < c'.at_∧∃ b,v = .byt b | .next=>Nx c c'∧c.at_ < c'.at_∧∃ b,V.none = .byt b | .brk=>False:=fun {c2} hx2=>by
    have hb2:=hx2.inv.buf
    refine DS.asgR (v:=.int c2.buf.length) (c':=c2) (fun o Q X q=>⟨c2.buf,rfl,by omega,q⟩) ?_
    refine DS.while (fun ρ c'=>ρ=lcG k it c2.buf.length∧Nx c1 c') (fun ω c'=>c.t.length - c'.at_) (fun ρ c' hP=>?_) ⟨rfl,hx2⟩
    obtain ⟨rfl,h3⟩:=hP
    refine DI.of (DE.bool (b:=true) (pf_ok (n+7)) (fun ω=>rfl) ⟨_,rfl,fun ω=>?_,fun e=>(nomatch e)⟩)
    refine DS.ifP (sg c' == -1) (pf_ok (n+7)) (fun ω=>rfl) (fun ω=>?_) fun e=>?_
    · refine DS.expr (G':=fun ω ω=>False) (DE.mcall (G':=fun vs c4=>∃ l:List UInt8,vs=[.byt l,.int 287]∧l.length≤1000∧c4=c') rfl fl_some (DL.cons (G':=fun v c4=>∃ l:List UInt8,v = .byt l∧l.length≤1000∧c4=c')
        (DE.ite (DE.bool (b:=it) (pf_ok (n+7)) (fun ω=>rfl) ⟨it,rfl,fun ω=>DE.pure (v:=.byt _) (pf_ok (n+7)) (fun ω=>rfl) ⟨_,rfl,Nat.le_of_ble_eq_true rfl,rfl⟩,fun ω=>DE.pure (v:=.byt _) (pf_ok (n+7)) (fun ω=>rfl) ⟨_,rfl,Nat.le_of_ble_eq_true rfl,rfl⟩⟩))
        fun v c4 ⟨l,q1,q2,q3⟩=>DL.pure (vs:=[.int 287]) (pf_ok (n+7)) (fun ω=>rfl) ⟨l,by rw [q1],q2,q3⟩) fun vs c4 ⟨l,q1,q2,q3⟩=>?_) fun ω ω h=>h.elim
      rw [q1,q3]
      exact d_error (n+4) h3.inv q2 (.inr ⟨_,rfl,.inr (.inr (.inl rfl))⟩)
    have hs':sg c' ≠ -1:=fun q=>by rw [q] at e; cases e
    have hl:=(sgn_in hs').1
    rw [h3.t,hx.t] at hl
    have on:∀ {c3:Core},Nx c' c3→c'.at_ < c3.at_→(lcG k it c2.buf.length=lcG k it c2.buf.length∧Nx c1 c3)∧c.t.length - c3.at_ < c.t.length - c'.at_:=fun h4 h5=>⟨⟨rfl,h3.trans h4⟩,by omega⟩
    refine DS.ifP (sg c' == 91) (pf_ok (n+7)) (fun ω=>rfl) (fun ω=>?_) fun ω=>?_
    · exact DS.exprM (vs:=[.int k]) (pf_ok (n+7)) rfl fl_some (fun ω=>rfl) (d_inner n h3.inv hs' hk) fun v c3 ⟨_,h4,h5⟩=>DS.nil (on h4 h5)
    refine DS.ifP (sg c' == 93) (pf_ok (n+7)) (fun ω=>rfl) (fun ω=>?_) fun ω=>?_
    · refine DS.ifS (DE.cmp (Gb:=fun v u c3=>u = .int k∧Nx c' c3∧c'.at_ < c3.at_∧∃ i:Int,v = .int i∧(0≤i→sg c3=sg c')) (DE.mcallP (vs:=[]) (pf_ok (n+7)) rfl fl_some (fun ω=>rfl) (d_level (n+1) h3.inv hs')) (fun v c3 ⟨h1,h2,i,h3,_,_,h4,_⟩=>DE.pure (v:=.int k) (pf_ok (n+7)) (fun ω=>rfl) ⟨rfl,h1,h2,i,h3,h4⟩) fun v u c3 ⟨h0,h4,h5,i,h6,h7⟩=>⟨i == k,by rw [h0,h6]; rfl,i == k,rfl,fun e=>?_,fun ω=>DS.nil (on h4 h5)⟩)
      have e:i=k:=eq_of_beq e
      have hs3:sg c3 ≠ -1:=by rw [h7 (by omega)]; exact hs'
      refine DS.exprM (vs:=[]) (pf_ok (n+7)) rfl fl_some (fun ω=>rfl) (d_km (n+2) h4.inv hs3) fun v c4 ⟨_,h8,h9⟩=>?_
      have hb:=h9.buf
      have hx4:Nx c3 c4:=by rw [h8] at h9 ⊢; exact .km h9
      refine DS.ret (DE.raw (v:=.byt (cutV c4.buf c2.buf.length (c4.buf.length - k - 2))) (c':=c4) (fun o Q X q=>⟨c4.buf,c2.buf.length,c4.buf.length - k - 2,rfl,rfl,?_,by omega,by omega,by omega,q⟩) ?_)
      · have e:ev (.lenB "self") ⟨lcG k it c2.buf.length,FL o c4⟩=some (c4.buf.length:Int):=if_pos (by omega)
        show (match (match ev (.lenB "self") ⟨lcG k it c2.buf.length,FL o c4⟩,some k with | some i,some j=>some (i - j) | _,_=>none),some (2:Int) with | some i,some j=>some (i - j) | _,_=>none)=_
        rw [e]
      · exact ⟨hx.trans (h3.trans (h4.trans hx4)),by have:=h3.at_; have:=hx4.at_; omega,_,rfl⟩
    refine DS.ifP (isNl (sg c')) (pf_ok (n+7)) (fun ω=>rfl) (fun e=>?_) fun ω=>?_
    · refine DS.exprM (vs:=[.int 10]) (pf_ok (n+7)) rfl fl_some (fun ω=>rfl) (d_keep (n+3) h3.inv (by decide) (by decide)) fun u c3 ⟨_,h4,h5⟩=>?_
      have hx3:Nx c' c3:=by
        rw [h4]
        exact ⟨rfl,Nat.le_refl _,h3.inv.put (by rw [List.length_append,List.length_singleton]; omega)⟩
      refine DS.exprM (vs:=[]) (pf_ok (n+7)) rfl fl_some (fun ω=>rfl) (d_end_line (n+6) hx3.inv (by rw [h4]; exact e)) fun u c4 ⟨_,h6,h7,_⟩=>?_
      have hb:=h6.inv.buf
      have h8:=hx3.at_
      refine DS.ifP (!it) (pf_ok (n+7)) (fun ω=>rfl) (fun ω=>?_) fun ω=>DS.nil (on (hx3.trans h6) (by omega))
      have hc:=cut_le c4.buf 0 c2.buf.length
      refine DS.raw (c':=c4.put (cutV c4.buf 0 c2.buf.length)) (fun o K X q=>⟨lexOf o c4,c4.buf,c2.buf.length,rfl,rfl,rfl,Nat.le_of_ble_eq_true rfl,rfl,by omega,by omega,q⟩) (DS.nil (on ⟨(hx3.trans h6).t,(hx3.trans h6).at_,h6.inv.put (by omega)⟩ (by show c'.at_ < c4.at_; omega)))
    refine DS.ifP it (pf_ok (n+7)) (fun ω=>rfl) (fun ω=>?_) fun ω=>?_
    · refine DS.exprM (vs:=[]) (pf_ok (n+7)) rfl fl_some (fun ω=>rfl) (d_km (n+2) h3.inv hs') fun v c4 ⟨_,h8,h9⟩=>?_
      rw [h8] at h9 ⊢
      exact DS.nil (on (.km h9) (Nat.lt_succ_self _))
    · refine DS.exprM (vs:=[]) (pf_ok (n+7)) rfl fl_some (fun ω=>rfl) (d_move (n+8) h3.inv) fun v c4 ⟨_,h8⟩=>?_
      rw [h8]
      exact DS.nil (on (.mv h3.inv) (Nat.lt_succ_self _))
  refine DS.ifP (isNl (sg c1)) (pf_ok (n+7)) (fun ω=>rfl) (fun e=>?_) fun ω=>loop (.refl h2)
  exact DS.exprM (vs:=[]) (pf_ok (n+7)) rfl fl_some (fun ω=>rfl) (d_end_line (n+6) h2 e) fun u c4 ⟨_,h6,_⟩=>loop h6
theorem d_bracket (n:Nat) (hi:Inv c) (hs:sg c ≠ -1):DF FL (GG (n+11)) 420 [.lex] c fun v c'=>Nx c c'∧c.at_ < c'.at_∧∃ k w,v = .tok k w∧k≠287∧Pl w:=by
  refine DF.of (show _=wpFn (GG (n+10)) ["self"] b_read_bracket from rfl) rfl ?_
  refine DS.asg (DE.mcallP (vs:=[]) (pf_ok (n+8)) rfl fl_some (fun ω=>rfl) (d_level (n+2) hi hs)) fun v c1 ⟨h1,h2,i,h3,h4,h5,h6,_⟩=>?_
  subst h3
  refine DS.ifP (decide (i ≥ 0)) (pf_ok (n+8)) (fun ω=>rfl) (fun e=>?_) fun ω=>?_
  · have e:=of_decide_eq_true e
    refine DS.ret (DE.tokP (DE.mcallP (vs:=[.int i,.bool true]) (pf_ok (n+8)) rfl fl_some (fun ω=>rfl) (d_long n h1.inv (by rw [h6 e]; exact hs) e h4 true)) fun v c2 ⟨h7,h8,b,h9⟩=>?_)
    exact ⟨h1.trans h7,by have:=h7.at_; omega,286,v,rfl,by decide,.inr (.inl ⟨b,h9⟩)⟩
  refine DS.ifP (decide (i < -1)) (pf_ok (n+8)) (fun ω=>rfl) (fun e=>?_) fun ω=>?_
  · exact DS.exprM (G':=fun ω ω=>False) (vs:=[.byt _,.int 286]) (pf_ok (n+8)) rfl fl_some (fun ω=>rfl) (d_error (n+5) h1.inv (Nat.le_of_ble_eq_true rfl) (.inr ⟨_,rfl,.inr (.inl rfl)⟩)) fun ω ω h=>h.elim
  · exact DS.retP (v:=.tok 91 .none) (pf_ok (n+8)) (fun ω=>rfl) ⟨h1,h2,91,.none,rfl,by decide,.inl rfl⟩
end
section
variable {c:Core}
theorem DE.and2 {Ω:Type} {F:Ω→Core→Option Lex} {Γ:Specs} {ρ:Lc} {G:V→Core→Prop} {a b:X} (da:DE F Γ a ρ c fun v c'=>∃ x,v = .bool x∧(x=true→DE F Γ b ρ c' fun u c2=>∃ y,u = .bool y∧G (.bool y) c2)∧(x=false→G (.bool false) c')):DE F Γ (.andE [a,b]) ρ c G:=by
  obtain ⟨r,g,w⟩:=da
  cases r with
  | inr m=>exact ⟨.inr m,trivial,fun o Q X q=>w o _ X q⟩
  | inl p=>
    obtain ⟨v,c'⟩:=p
    obtain ⟨x,rfl,g1,g2⟩:=g
    cases x with
    | false=>exact ⟨.inl (.bool false,c'),g2 rfl,fun o Q X q=>w o _ X ⟨false,rfl,fun e=>(nomatch e),fun ω=>q⟩⟩
    | true=>
      obtain ⟨r2,k2,w2⟩:=g1 rfl
      cases r2 with
      | inr m=>exact ⟨.inr m,trivial,fun o Q X q=>w o _ X ⟨true,rfl,fun ω=>w2 o _ X q,fun e=>(nomatch e)⟩⟩
      | inl p2=>
        obtain ⟨u,c2⟩:=p2
        obtain ⟨y,rfl,h⟩:=k2
        exact ⟨.inl (.bool y,c2),h,fun o Q X q=>w o _ X ⟨true,rfl,fun ω=>w2 o _ X ⟨y,rfl,fun e=>by rw [e] at q; exact q,fun e=>by rw [e] at q; exact q⟩,fun e=>(nomatch e)⟩⟩
theorem DE.tokK {Ω:Type} {F:Ω→Core→Option Lex} {Γ:Specs} {ρ:Lc} {G:V→Core→Prop} {e:X} (d:DE F Γ e ρ c fun v c'=>∃ i,v = .int i∧G (.tok i .none) c'):DE F Γ (.newTok e (.cst .none)) ρ c G:=by
  obtain ⟨r,g,w⟩:=d
  cases r with
  | inr m=>exact ⟨.inr m,trivial,fun o Q X q=>w o _ X q⟩
  | inl p=>
    obtain ⟨v,c'⟩:=p
    obtain ⟨i,rfl,h⟩:=g
    exact ⟨.inl (.tok i .none,c'),h,fun o Q X q=>w o _ X ⟨i,rfl,q⟩⟩
theorem mv_nx (h:Inv c):Nx c c.mv∧c.at_ < c.mv.at_:=⟨.mv h,Nat.lt_succ_self _⟩
theorem km_nx (h:Inv c.km):Nx c c.km∧c.at_ < c.km.at_:=⟨.km h,Nat.lt_succ_self _⟩
theorem d_comment (n:Nat) (hi:Inv c):DF FL (GG (n+11)) 385 [.lex] c fun v c'=>v = .none∧Nx c c'∧c.at_ < c'.at_:=by
  refine DF.of (show _=wpFn (GG (n+10)) ["self"] b_skip_comment from rfl) rfl ?_
  refine DS.exprM (vs:=[]) (pf_ok (n+8)) rfl fl_some (fun ω=>rfl) (d_move (n+9) hi) fun v c1 ⟨_,h1⟩=>?_
  obtain ⟨hx1,ha1⟩:Nx c c1∧c.at_ < c1.at_:=by rw [h1]; exact mv_nx hi
  refine DS.exprM (vs:=[]) (pf_ok (n+8)) rfl fl_some (fun ω=>rfl) (d_move (n+9) hx1.inv) fun v c2 ⟨_,h2⟩=>?_
  obtain ⟨hx2,ha2⟩:Nx c c2∧c.at_ < c2.at_:=by
    rw [h2]
    exact ⟨hx1.trans (.mv hx1.inv),by show c.at_ < c1.at_+1; omega⟩
  have rest:∀ {c3:Core} {ρ:Lc},lkL "self" ρ=some (.v .lex)→Nx c c3→c.at_ < c3.at_→DS FL (GG (n+10)) (b_skip_comment.drop 3) ρ c3 fun fl ω c'=>match fl with | .ret v=>v = .none∧Nx c c'∧c.at_ < c'.at_ | .next=>V.none = .none∧Nx c c'∧c.at_ < c'.at_ | .brk=>False:=fun {c3 ρ} hr h3 h4=>by
    have hev:∀ c' o n',(n' = "sign")→evX pf ⟨ρ,FL o c'⟩ (.fld (.loc "self") n')=some (.int (sg c')):=fun c' o n' e=>by
      subst e
      show (vLocal (lkL "self" ρ)).bind _=_
      rw [hr]; rfl
    refine DS.while (fun ρ' c'=>ρ'=ρ∧Nx c c'∧c.at_ < c'.at_) (fun ω c'=>c.t.length - c'.at_) (fun ρ' c' hP=>?_) ⟨rfl,h3,h4⟩
    obtain ⟨rfl,h5,h6⟩:=hP
    refine DI.of (DE.bool (b:=!isNl (sg c') && (!(sg c' == -1) && true)) (pf_ok (n+8)) (fun o=>?_) ⟨_,rfl,fun e=>?_,fun ω=>⟨rfl,h5,h6⟩⟩)
    · show (evXs pf _ [.notE (.call 224 [.fld (.loc "self") "sign"]),.cmp (.fld (.loc "self") "sign") .NotEq (.cst (.int (-1)))]).bind _=_
      have:=hev c' o "sign" rfl
      show ((((evXs pf _ [.fld (.loc "self") "sign"]).bind (pf 224)).bind evNot).bind fun v=>(evXs pf _ [.cmp (.fld (.loc "self") "sign") .NotEq (.cst (.int (-1)))]).map (v :: ·)).bind _=_
      have e1:evXs pf ⟨ρ',FL o c'⟩ [.fld (.loc "self") "sign"]=some [.int (sg c')]:=(congrArg (fun z:Option V=>z.bind fun v=>some [v]) this)
      have e2:evXs pf ⟨ρ',FL o c'⟩ [.cmp (.fld (.loc "self") "sign") .NotEq (.cst (.int (-1)))]=some [.bool (!(sg c' == -1))]:=congrArg (fun z:Option V=>((z.bind fun x=>(some (V.int (-1))).bind fun y=>(cmpV .NotEq x y).map V.bool)).bind fun v=>some [v]) this
      rw [e1,e2]
      rfl
    · obtain ⟨_,e2⟩:=Bool.and_eq_true_iff.mp e
      have hs:sg c' ≠ -1:=fun q=>by rw [q] at e2; cases e2
      have hl:=(sgn_in hs).1
      rw [h5.t] at hl
      refine DS.exprM (vs:=[]) (pf_ok (n+8)) hr fl_some (fun ω=>rfl) (d_move (n+9) h5.inv) fun v c4 ⟨_,h7⟩=>?_
      rw [h7]
      refine DS.nil ⟨⟨rfl,h5.trans (.mv h5.inv),Nat.lt_succ_of_lt h6⟩,?_⟩
      show c.t.length - (c'.at_+1) < c.t.length - c'.at_
      omega
  refine DS.ifP (sg c2 == 91) (pf_ok (n+8)) (fun ω=>rfl) (fun e=>?_) fun ω=>rest rfl hx2 ha2
  have e:sg c2=91:=eq_of_beq e
  have hs:sg c2 ≠ -1:=by rw [e]; decide
  refine DS.asg (DE.mcallP (vs:=[]) (pf_ok (n+8)) rfl fl_some (fun ω=>rfl) (d_level (n+2) hx2.inv hs)) fun v c3 ⟨h1,h2,i,h3,h4,h5,h6,_⟩=>?_
  subst h3
  have hx3:=hx2.trans h1
  refine DS.exprM (vs:=[]) (pf_ok (n+8)) rfl fl_some (fun ω=>rfl) (d_clear (n+9)) fun v c4 ⟨_,h7⟩=>?_
  have hi4:Inv c4:=by rw [h7]; exact hx3.inv.put (Nat.zero_le _)
  have hx4:Nx c c4:=⟨by rw [h7]; exact hx3.t,by rw [h7]; exact hx3.at_,hi4⟩
  have ha4:c.at_ < c4.at_:=by rw [h7]; show c.at_ < c3.at_; omega
  refine DS.ifP (decide (i ≥ 0)) (pf_ok (n+8)) (fun ω=>rfl) (fun e=>?_) fun ω=>rest rfl hx4 ha4
  have e:=of_decide_eq_true e
  refine DS.exprM (vs:=[.int i,.bool false]) (pf_ok (n+8)) rfl fl_some (fun ω=>rfl) (d_long n hi4 (by rw [h7]; show sg c3 ≠ -1; rw [h6 e]; exact hs) e h4 false) fun v c5 ⟨h8,h9,_⟩=>?_
  have hx5:=hx4.trans h8
  refine DS.exprM (vs:=[]) (pf_ok (n+8)) rfl fl_some (fun ω=>rfl) (d_clear (n+9)) fun v c6 ⟨_,h10⟩=>?_
  rw [h10]
  exact DS.retN ⟨rfl,⟨hx5.t,hx5.at_,hx5.inv.put (Nat.zero_le _)⟩,by show c.at_ < c5.at_; omega⟩
theorem bk_ne (h:isBk (sg c)=true):sg c ≠ -1:=fun q=>by rw [q] at h; exact absurd h (by decide)
theorem nl_ne (h:isNl (sg c)=true):sg c ≠ -1:=fun q=>by rw [q] at h; exact absurd h (by decide)
theorem d_blank (n:Nat) (hi:Inv c):DF FL (GG (n+12)) 371 [.lex] c fun v c'=>(v = .bool true∧Nx c c'∧c.at_ < c'.at_∧sg c ≠ -1)∨(v = .bool false∧c'=c):=by
  refine DF.of (show _=wpFn (GG (n+11)) ["self"] b_skip_blank from rfl) rfl ?_
  refine DS.ifP (isNl (sg c)) (pf_ok (n+9)) (fun ω=>rfl) (fun e=>?_) fun ω=>?_
  · exact DS.exprM (vs:=[]) (pf_ok (n+9)) rfl fl_some (fun ω=>rfl) (d_end_line (n+8) hi e) fun v c1 ⟨_,h1,h2,_⟩=>DS.retP (v:=.bool true) (pf_ok (n+9)) (fun ω=>rfl) (.inl ⟨rfl,h1,h2,nl_ne e⟩)
  refine DS.ifP (isBk (sg c)) (pf_ok (n+9)) (fun ω=>rfl) (fun e=>?_) fun ω=>?_
  · exact DS.exprM (vs:=[]) (pf_ok (n+9)) rfl fl_some (fun ω=>rfl) (d_move (n+10) hi) fun v c1 ⟨_,h1⟩=>DS.retP (v:=.bool true) (pf_ok (n+9)) (fun ω=>rfl) (.inl ⟨rfl,by rw [h1]; exact .mv hi,by rw [h1]; exact Nat.lt_succ_self _,bk_ne e⟩)
  refine DS.ifS (DE.and2 (DE.bool (b:=sg c == 45) (pf_ok (n+9)) (fun ω=>rfl) ⟨_,rfl,fun e=>DE.cmp (Gb:=fun v u c2=>v = .int (sgn c.t (c.at_+1))∧u = .int 45∧c2=c) (DE.mcallP (vs:=[]) (pf_ok (n+9)) rfl fl_some (fun ω=>rfl) (d_behind (n+10) hi)) (fun v c2 ⟨h1,h2⟩=>DE.pure (v:=.int 45) (pf_ok (n+9)) (fun ω=>rfl) ⟨h1,rfl,h2⟩) fun v u c2 ⟨h1,h2,h3⟩=>⟨sgn c.t (c.at_+1) == 45,by rw [h1,h2]; rfl,_,rfl,_,rfl,fun ω=>?_,fun ω=>?_⟩,fun ω=>⟨false,rfl,fun e=>(nomatch e),fun ω=>?_⟩⟩))
  · have hs:sg c ≠ -1:=by rw [eq_of_beq e]; decide
    rw [h3]
    exact DS.exprM (vs:=[]) (pf_ok (n+9)) rfl fl_some (fun ω=>rfl) (d_comment n hi) fun v c1 ⟨_,h1,h2⟩=>DS.retP (v:=.bool true) (pf_ok (n+9)) (fun ω=>rfl) (.inl ⟨rfl,h1,h2,hs⟩)
  · rw [h3]
    exact DS.retP (v:=.bool false) (pf_ok (n+9)) (fun ω=>rfl) (.inr ⟨rfl,rfl⟩)
  · exact DS.retP (v:=.bool false) (pf_ok (n+9)) (fun ω=>rfl) (.inr ⟨rfl,rfl⟩)
end
section
variable {Ω:Type} {F:Ω→Core→Option Lex} {Γ:Specs} {ρ:Lc} {c:Core} {G:V→Core→Prop} {GS:Fl→Lc→Core→Prop} {a b e:X} {r:List S}
def DV (F:Ω→Core→Option Lex) (Γ:Specs) (e:X) (ρ:Lc) (c:Core) (v:V):Prop:=∀ o (Q:Post) (X:List UInt8→Prop),Q v ⟨ρ,F o c⟩→wpX Γ e Q (fun m ω=>X m) ⟨ρ,F o c⟩
theorem DV.de {v:V} (d:DV F Γ e ρ c v) (g:G v c):DE F Γ e ρ c G:=DE.raw d g
theorem DV.pure {p:Pf} {v:V} (hp:PfOk p Γ) (h:∀ o,evX p ⟨ρ,F o c⟩ e=some v):DV F Γ e ρ c v:=fun o ω ω q=>evX_ok hp _ _ (h o) q
theorem DV.cmp {op:CmpOp} {v u:V} {x:Bool} (da:DV F Γ a ρ c v) (db:DV F Γ b ρ c u) (h:cmpV op v u=some x):DV F Γ (.cmp a op b) ρ c (.bool x):=fun o ω X q=>da o _ X (db o _ X ⟨x,h,q⟩)
theorem DV.idx {l:List UInt8} {k:Nat} (da:DV F Γ a ρ c (.byt l)) (db:DV F Γ b ρ c (.int k)) (hl:l.length≤1000000) (hk:k < l.length):DV F Γ (.idx a b) ρ c (.int (l.getD k 0).toNat):=fun o ω X q=>da o _ X (db o _ X ⟨by omega,by omega,by omega,q⟩)
theorem DV.len {l:List UInt8} (da:DV F Γ a ρ c (.byt l)) (hl:l.length≤1000000):DV F Γ (.bi "len" [a]) ρ c (.int l.length):=fun o ω X q=>da o _ X ⟨rfl,by omega,q⟩
theorem DE.and0 (g:G (.bool true) c):DE F Γ (.andE []) ρ c G:=⟨.inl (.bool true,c),g,fun ω ω ω q=>q⟩
theorem DE.andC {es:List X} (da:DE F Γ a ρ c fun v c'=>∃ x,v = .bool x∧(x=true→DE F Γ (.andE es) ρ c' G)∧(x=false→G (.bool false) c')):DE F Γ (.andE (a :: es)) ρ c G:=by
  obtain ⟨r,g,w⟩:=da
  cases r with
  | inr m=>exact ⟨.inr m,trivial,fun o Q X q=>w o _ X q⟩
  | inl p=>
    obtain ⟨v,c'⟩:=p
    obtain ⟨x,rfl,g1,g2⟩:=g
    cases x with
    | false=>exact ⟨.inl (.bool false,c'),g2 rfl,fun o Q X q=>w o _ X ⟨false,rfl,fun e=>(nomatch e),fun ω=>q⟩⟩
    | true=>
      obtain ⟨r2,k2,w2⟩:=g1 rfl
      exact ⟨r2,k2,fun o Q X q=>w o _ X ⟨true,rfl,fun ω=>w2 o _ X q,fun e=>(nomatch e)⟩⟩
theorem DE.or0 (g:G (.bool false) c):DE F Γ (.orE []) ρ c G:=⟨.inl (.bool false,c),g,fun ω ω ω q=>q⟩
theorem DE.orC {es:List X} (da:DE F Γ a ρ c fun v c'=>∃ x,v = .bool x∧(x=false→DE F Γ (.orE es) ρ c' G)∧(x=true→G (.bool true) c')):DE F Γ (.orE (a :: es)) ρ c G:=by
  obtain ⟨r,g,w⟩:=da
  cases r with
  | inr m=>exact ⟨.inr m,trivial,fun o Q X q=>w o _ X q⟩
  | inl p=>
    obtain ⟨v,c'⟩:=p
    obtain ⟨x,rfl,g1,g2⟩:=g
    cases x with
    | true=>exact ⟨.inl (.bool true,c'),g2 rfl,fun o Q X q=>w o _ X ⟨true,rfl,fun e=>(nomatch e),fun ω=>q⟩⟩
    | false=>
      obtain ⟨r2,k2,w2⟩:=g1 rfl
      exact ⟨r2,k2,fun o Q X q=>w o _ X ⟨false,rfl,fun ω=>w2 o _ X q,fun e=>(nomatch e)⟩⟩
theorem DS.asgU {x y:String} {G':V→Core→Prop} (d:DE F Γ e ρ c G') (h:∀ v c',G' v c'→∃ a b,v = .tup [a,b]∧DS F Γ r (setL y (.v b) (setL x (.v a) ρ)) c' GS):DS F Γ (.asgU [x,y] e :: r) ρ c GS:=by
  obtain ⟨r1,g,w⟩:=d
  cases r1 with
  | inr m=>exact ⟨.inr m,trivial,fun o K X q=>w o _ X q⟩
  | inl p=>
    obtain ⟨a,b,h1,r2,g2,w2⟩:=h _ _ g
    exact ⟨r2,g2,fun o K X q=>w o _ X ⟨[a,b],h1,rfl,w2 o _ X q⟩⟩
theorem DS.asgT {x y:String} {G':V→Core→Prop} {v2:V} (d:DE F Γ e ρ c G') (h:∀ v c',G' v c'→DS F Γ r (setL y (.v v2) (setL x (.v v) ρ)) c' GS):DS F Γ (.asgT [x,y] [.e e,.e (.cst v2)] :: r) ρ c GS:=by
  obtain ⟨r1,g,w⟩:=d
  cases r1 with
  | inr m=>exact ⟨.inr m,trivial,fun o K X q=>w o _ X q⟩
  | inl p=>
    obtain ⟨r2,g2,w2⟩:=h _ _ g
    exact ⟨r2,g2,fun o K X q=>w o _ X (w2 o _ X q)⟩
theorem d_digit_of (n:Nat) {i:Int}:DF F (GG (n+1)) 117 [.int i] c fun v c'=>c'=c∧∃ j,v = .int j∧-1≤j∧j≤35:=by
  refine DF.of (show _=wpFn (GG n) ["octet"] b_digit_of from rfl) rfl ?_
  refine DS.ifP (decide (48≤i) && decide (i≤57)) (pf_none _) (fun ω=>rfl) (fun e=>?_) fun ω=>?_
  · obtain ⟨e1,e2⟩:=Bool.and_eq_true_iff.mp e
    have e1:=of_decide_eq_true e1
    have e2:=of_decide_eq_true e2
    exact DS.retP (v:=.int (i - 48)) (pf_none _) (fun ω=>rfl) ⟨rfl,_,rfl,by omega,by omega⟩
  refine DS.ifP (decide (97≤i) && decide (i≤122)) (pf_none _) (fun ω=>rfl) (fun e=>?_) fun ω=>?_
  · obtain ⟨e1,e2⟩:=Bool.and_eq_true_iff.mp e
    have e1:=of_decide_eq_true e1
    have e2:=of_decide_eq_true e2
    exact DS.retP (v:=.int (i - 87)) (pf_none _) (fun ω=>rfl) ⟨rfl,_,rfl,by omega,by omega⟩
  refine DS.ifP (decide (65≤i) && decide (i≤90)) (pf_none _) (fun ω=>rfl) (fun e=>?_) fun ω=>?_
  · obtain ⟨e1,e2⟩:=Bool.and_eq_true_iff.mp e
    have e1:=of_decide_eq_true e1
    have e2:=of_decide_eq_true e2
    exact DS.retP (v:=.int (i - 55)) (pf_none _) (fun ω=>rfl) ⟨rfl,_,rfl,by omega,by omega⟩
  exact DS.retP (v:=.int (-1)) (pf_none _) (fun ω=>rfl) ⟨rfl,_,rfl,by omega,by omega⟩
theorem d_wrap (n:Nat) {i:Int}:DF F (GG (n+1)) 103 [.int i,.int 64] c fun v c'=>c'=c∧∃ j,v = .int j:=by
  refine DF.of (show _=wpFn (GG n) ["n","width"] b_wrap from rfl) rfl ?_
  refine DS.asgR (v:=.int (Builtin.bitAnd i (1 * 2 ^ 64 - 1))) (c':=c) (fun o Q X q=>⟨by decide,by decide,by decide,q⟩) ?_
  refine DS.ifS (DE.raw (v:=.bool (decide (Builtin.bitAnd i (1 * 2 ^ 64 - 1) ≥ 1 * 2 ^ 63))) (c':=c) (fun o Q X q=>⟨by decide,by decide,by decide,_,rfl,q⟩) ⟨_,rfl,fun ω=>?_,fun ω=>?_⟩)
  · exact DS.ret (DE.raw (v:=.int (Builtin.bitAnd i (1 * 2 ^ 64 - 1) - 1 * 2 ^ 64)) (c':=c) (fun o Q X q=>⟨by decide,by decide,by decide,q⟩) ⟨rfl,_,rfl⟩)
  · exact DS.retP (v:=.int (Builtin.bitAnd i (1 * 2 ^ 64 - 1))) (pf_none _) (fun ω=>rfl) ⟨rfl,_,rfl⟩
theorem d_isblank (n:Nat) {x:UInt8}:DF F (GG (n+1)) 110 [.int x.toNat] c fun v c'=>c'=c∧∃ b,v = .bool b:=by
  have:=x.toNat_lt
  refine DF.of (show _=wpFn (GG n) ["octet"] b_is_blank_values from rfl) rfl ?_
  refine DS.ret (DE.raw (v:=.bool (([32,9,10,11,12,13]:List UInt8).any fun c=>(c.toNat:Int) == x.toNat)) (c':=c) (fun o Q X q=>⟨_,if_pos ⟨by omega,by omega⟩,q⟩) ⟨rfl,_,rfl⟩)
theorem d_skip_blanks (n:Nat) {l:List UInt8} {k:Nat} (hl:l.length≤1000000) (hk:k≤l.length):DF F (GG (n+2)) 131 [.byt l,.int k] c fun v c'=>c'=c∧∃ j:Nat,v = .int j∧j≤l.length:=by
  refine DF.of (show _=wpFn (GG (n+1)) ["text","at"] b_skip_blanks from rfl) rfl ?_
  refine DS.seq (G':=fun fl ρ c'=>fl = .next∧c'=c∧∃ j:Nat,ρ=[("text",.v (.byt l)),("at",.v (.int j))]∧j≤l.length)
    (DS.while (fun ρ c'=>c'=c∧∃ j:Nat,ρ=[("text",.v (.byt l)),("at",.v (.int j))]∧j≤l.length) (fun ρ ω=>match lkL "at" ρ with | some (.v (.int i))=>l.length - i.toNat | _=>0) (fun ρ c' hP=>?_) ⟨rfl,k,rfl,hk⟩) fun fl ρ c' hh=>?_
  · obtain ⟨rfl,j,rfl,hj⟩:=hP
    have dt:=DV.pure (F:=F) (Γ:=GG (n+1)) (e:=.loc "text") (ρ:=[("text",.v (.byt l)),("at",.v (.int j))]) (c:=c') (v:=.byt l) (pf_none _) (fun ω=>rfl)
    have da:=DV.pure (F:=F) (Γ:=GG (n+1)) (e:=.loc "at") (ρ:=[("text",.v (.byt l)),("at",.v (.int j))]) (c:=c') (v:=.int j) (pf_none _) (fun ω=>rfl)
    refine DI.of (DE.andC (DV.de (DV.cmp da (dt.len hl) (x:=decide ((j:Int) < l.length)) rfl) ⟨_,rfl,fun e=>?_,fun ω=>⟨_,rfl,fun e=>(nomatch e),fun ω=>⟨rfl,rfl,j,rfl,hj⟩⟩⟩))
    have e:=of_decide_eq_true e
    have hlt:j < l.length:=by omega
    refine DE.andC (DE.call (G':=fun vs c2=>vs=[.int (l.getD j 0).toNat]∧c2=c') (DL.cons (G':=fun v c2=>v = .int (l.getD j 0).toNat∧c2=c') ((dt.idx da hl hlt).de ⟨rfl,rfl⟩) fun v c2 ⟨h1,h2⟩=>DL.nil ⟨by rw [h1],h2⟩) fun vs c2 ⟨h1,h2⟩=>?_)
    rw [h1,h2]
    refine (d_isblank n).mono fun v c3 ⟨h3,x,h4⟩=>⟨x,h4,fun ω=>DE.and0 ⟨true,rfl,fun ω=>?_,fun e=>(nomatch e)⟩,fun ω=>⟨false,rfl,fun e=>(nomatch e),fun ω=>⟨rfl,h3,j,rfl,hj⟩⟩⟩
    rw [h3]
    exact DS.asgP (v:=.int (j+1)) (pf_none _) (fun ω=>rfl) (DS.nil ⟨⟨rfl,j+1,rfl,hlt⟩,show l.length - (j+1) < l.length - j by omega⟩)
  · refine bC fun ng=>?_;obtain ⟨rfl,rfl,j,rfl,hj⟩:=hh;refine ng ?_;clear ng
    exact DS.retP (v:=.int j) (pf_none _) (fun ω=>rfl) ⟨rfl,j,rfl,hj⟩
theorem and_lt (x:Int) (h:0≤x):0≤Builtin.bitAnd x (1 * 2 ^ 64 - 1)∧Builtin.bitAnd x (1 * 2 ^ 64 - 1) < 2 ^ 64:=by
  have e:Builtin.bitAnd x (1 * 2 ^ 64 - 1)=((x.toNat &&& (2 ^ 64 - 1):Nat):Int):=by
    unfold Builtin.bitAnd
    rw [show decide (0≤x)=true from decide_eq_true h]
    rfl
  rw [e]
  have:=Nat.and_le_right (n:=x.toNat) (m:=2 ^ 64 - 1)
  omega
end
section
variable {Ω:Type} {F:Ω→Core→Option Lex} {c:Core}
noncomputable def lcR (l:List UInt8) (j:Nat) (b f:Int):Lc:=[("text",.v (.byt l)),("at",.v (.int j)),("base",.v (.int b)),("width",.v (.int 64)),("found",.v (.int f)),("most",.v (.int (1 * 2 ^ 64 - 1)))]
noncomputable def lcRd (l:List UInt8) (j:Nat) (b f d:Int):Lc:=lcR l j b f++[("digit",.v (.int d))]
theorem d_read_digits0 (n:Nat) {l:List UInt8} {k:Nat} {b:Int} (hl:l.length≤1000000) (hk:k≤l.length) (hb0:0≤b) (hb:b≤100):DF F (GG (n+2)) 124 [.byt l,.int k,.int b,.int 64] c fun v c'=>c'=c∧∃ (f:Int) (j:Nat),v = .tup [.int f,.int j]∧j≤l.length:=by
  refine DF.of (show _=wpFn (GG (n+1)) ["text","at","base","width"] b_read_digits0 from rfl) rfl ?_
  refine DS.raw (ρ':=lcR l k b 0) (c':=c) (fun o K X q=>⟨by decide,by decide,by decide,q⟩) ?_
  let Pq:Lc→Prop:=fun ρ=>∃ (f:Int) (j:Nat),(ρ=lcR l j b f∨∃ d,ρ=lcRd l j b f d)∧j≤l.length∧0≤f∧f < 2 ^ 64
  refine DS.seq (G':=fun fl ρ c'=>fl = .next∧c'=c∧Pq ρ)
    (DS.while (fun ρ c'=>c'=c∧Pq ρ) (fun ρ ω=>match lkL "at" ρ with | some (.v (.int i))=>l.length - i.toNat | _=>0) (fun ρ c' hP=>?_) ⟨rfl,0,k,.inl rfl,hk,by decide,by decide⟩) fun fl ρ c' hh=>?_
  · refine bC fun ng=>?_;obtain ⟨rfl,f,j,hρ,hj,hf0,hf1⟩:=hP;refine ng ?_;clear ng
    have et:lkL "text" ρ=some (.v (.byt l)):=by rcases hρ with rfl | ⟨d,rfl⟩ <;> rfl
    have ea:lkL "at" ρ=some (.v (.int j)):=by rcases hρ with rfl | ⟨d,rfl⟩ <;> rfl
    have dt:DV F (GG (n+1)) (.loc "text") ρ c' (.byt l):=DV.pure (pf_none _) fun ω=>by show vLocal (lkL "text" ρ)=_; rw [et]; rfl
    have da:DV F (GG (n+1)) (.loc "at") ρ c' (.int j):=DV.pure (pf_none _) fun ω=>by show vLocal (lkL "at" ρ)=_; rw [ea]; rfl
    refine DI.of (DV.de (DV.cmp da (dt.len hl) (x:=decide ((j:Int) < l.length)) rfl) ⟨_,rfl,fun e=>?_,fun ω=>⟨rfl,rfl,f,j,hρ,hj,hf0,hf1⟩⟩)
    have e:=of_decide_eq_true e
    have hlt:j < l.length:=by omega
    refine DS.asg (G':=fun v c2=>c2=c'∧∃ d,v = .int d∧-1≤d∧d≤35) (DE.call (G':=fun vs c2=>vs=[.int (l.getD j 0).toNat]∧c2=c') (DL.cons (G':=fun v c2=>v = .int (l.getD j 0).toNat∧c2=c') ((dt.idx da hl hlt).de ⟨rfl,rfl⟩) fun v c2 ⟨h1,h2⟩=>DL.nil ⟨by rw [h1],h2⟩) fun vs c2 ⟨h1,h2⟩=>(by rw [h1,h2]; exact d_digit_of n)) fun v c2 ⟨h1,d,h2,h3,h4⟩=>?_
    subst h1 h2
    have es:setL "digit" (.v (.int d)) ρ=lcRd l j b f d:=by rcases hρ with rfl | ⟨d',rfl⟩ <;> rfl
    rw [es]
    have pb:∀ o,evX (fun ω ω=>none) ⟨lcRd l j b f d,F o c2⟩ (.orE [.cmp (.loc "digit") .Lt (.cst (.int 0)),.cmp (.loc "digit") .GtE (.loc "base")])=some (.bool (decide (d < 0) || (decide (d ≥ b) || false))):=fun ω=>rfl
    refine DS.ifP _ (pf_none _) pb (fun ω=>DS.brk ⟨rfl,rfl,f,j,.inr ⟨d,rfl⟩,hj,hf0,hf1⟩) fun e=>?_
    obtain ⟨e1,_⟩:=Bool.or_eq_false_iff.mp e
    have e1:=of_decide_eq_false e1
    have hm:0≤f * b:=Int.mul_nonneg hf0 hb0
    have ha:=and_lt (f * b+d) (by omega)
    refine DS.asgR (v:=.int (Builtin.bitAnd (f * b+d) (1 * 2 ^ 64 - 1))) (c':=c2) (fun o Q X q=>⟨by omega,by omega,q⟩) ?_
    refine DS.asgP (v:=.int (j+1)) (pf_none _) (fun ω=>rfl) (DS.nil ⟨⟨rfl,_,j+1,.inr ⟨d,rfl⟩,hlt,ha.1,ha.2⟩,?_⟩)
    rw [ea]
    show l.length - (j+1) < l.length - j
    omega
  · refine bC fun ng=>?_;obtain ⟨rfl,rfl,f,j,hρ,hj,_,_⟩:=hh;refine ng ?_;clear ng
    have e:∀ o,evX (fun ω ω=>none) ⟨ρ,F o c'⟩ (.tup [.loc "found",.loc "at"])=some (.tup [.int f,.int j]):=fun o=>by rcases hρ with rfl | ⟨d,rfl⟩ <;> rfl
    exact DS.retP (pf_none _) e ⟨rfl,f,j,rfl,hj⟩
theorem DE.cmp2M {Γ:Specs} {ρ:Lc} {G G':V→Core→Prop} {a b e:X} {o1 o2:CmpOp} {va vc:V} (da:DV F Γ a ρ c va) (db:DE F Γ b ρ c G') (dc:∀ c',DV F Γ e ρ c' vc) (h:∀ v c',G' v c'→∃ x y,cmpV o1 va v=some x∧cmpV o2 v vc=some y∧G (.bool (x && y)) c'):DE F Γ (.cmp2 a o1 b o2 e) ρ c G:=by
  obtain ⟨r,g,w⟩:=db
  cases r with
  | inr m=>exact ⟨.inr m,trivial,fun o Q X q=>da o _ X (w o _ X q)⟩
  | inl p=>
    obtain ⟨x,y,h1,h2,h3⟩:=h _ _ g
    exact ⟨.inl (.bool (x && y),p.2),h3,fun o Q X q=>da o _ X (w o _ X ⟨x,h1,fun e=>dc p.2 o _ X ⟨y,h2,by rw [e] at q; exact q⟩,fun e=>by rw [e] at q; exact q⟩)⟩
theorem tx {Γ:Specs} {ρ:Lc} {l:List UInt8} (h:lkL "text" ρ=some (.v (.byt l))):DV F Γ (.loc "text") ρ c (.byt l):=DV.pure (pf_none _) fun ω=>by show vLocal (lkL "text" _)=_; rw [h]; rfl
def NoN (v:V):Prop:=v = .none∨∃ i,v = .int i
noncomputable def lcT (l:List UInt8) (b:Int) (j:Nat) (x:Bool):Lc:=[("text",.v (.byt l)),("base",.v (.int b)),("limits",.v .lims),("at",.v (.int j)),("is_below",.v (.bool x))]
noncomputable def lcU (l:List UInt8) (b:Int) (j:Nat) (x y:Bool):Lc:=[("text",.v (.byt l)),("base",.v (.int b)),("limits",.v .lims),("at",.v (.int j)),("is_below",.v (.bool x)),("is_marked",.v (.bool y))]
def FnG (c:Core) (fl:Fl) (_:Lc) (c':Core):Prop:=match fl with
  | .ret v=>c'=c∧NoN v
  | .next=>c'=c∧NoN .none
  | .brk=>False
theorem tb3 (n:Nat) {l:List UInt8} (hl:l.length≤1000000) {b:Int} {j:Nat} {x y:Bool} (hb0:0≤b) (hb:b≤16) (hj:j≤l.length):DS F (GG (n+2)) (b_text_in_base.drop 4) (lcU l b j x y) c (FnG c):=by
  refine DS.asgU (G':=fun v c3=>c3=c∧∃ (f:Int) (j:Nat),v = .tup [.int f,.int j]∧j≤l.length) (DE.call (G':=fun vs c3=>c3=c∧∃ b',vs=[.byt l,.int j,.int b',.int 64]∧0≤b'∧b'≤100) (DL.cons (G':=fun v c3=>v = .byt l∧c3=c) ((tx rfl).de ⟨rfl,rfl⟩) fun v c3 ⟨q1,q2⟩=>?_) fun vs c3 ⟨q1,b',q2,q3,q4⟩=>?_) fun v c3 ⟨q1,f,m,q2,q3⟩=>⟨_,_,q2,?_⟩
  · subst q1 q2
    refine DL.cons (G':=fun v c4=>v = .int j∧c4=c3) (DE.pure (pf_none _) (fun ω=>rfl) ⟨rfl,rfl⟩) fun v c4 ⟨q1,q2⟩=>?_
    subst q1 q2
    refine DL.cons (G':=fun v c5=>(∃ b',v = .int b'∧0≤b'∧b'≤100)∧c5=c4) (DE.ite (DE.bool (b:=b == 0) (pf_none _) (fun ω=>rfl) ⟨_,rfl,fun ω=>DE.pure (v:=.int 10) (pf_none _) (fun ω=>rfl) ⟨⟨10,rfl,by decide,by decide⟩,rfl⟩,fun ω=>DE.pure (v:=.int b) (pf_none _) (fun ω=>rfl) ⟨⟨b,rfl,hb0,by omega⟩,rfl⟩⟩)) fun v c5 ⟨⟨b',q1,q2,q3⟩,q4⟩=>?_
    subst q1 q4
    exact DL.pure (vs:=[.int 64]) (pf_none _) (fun ω=>rfl) ⟨rfl,b',rfl,q2,q3⟩
  · rw [q1,q2]
    exact d_read_digits0 n hl hj q3 q4
  subst q1
  refine DS.ifS (DE.orC (DE.bool (b:=(m:Int) == j) (pf_none _) (fun ω=>rfl) ⟨_,rfl,fun ω=>DE.orC (DE.cmp (Gb:=fun v u c4=>c4=c3∧(∃ i,v = .int i)∧∃ i,u = .int i) (DE.callP (vs:=[.byt l,.int m]) (pf_none _) (fun ω=>rfl) (d_skip_blanks n hl q3)) (fun v c4 ⟨k1,i,k2,_⟩=>?_) fun v u c4 ⟨k1,⟨i,k2⟩,i',k3⟩=>⟨!(i == i'),by rw [k2,k3]; rfl,_,rfl,fun ω=>DE.or0 ⟨_,rfl,fun e=>(nomatch e),fun ω=>?_⟩,fun ω=>⟨_,rfl,fun ω=>?_,fun e=>(nomatch e)⟩⟩),fun ω=>⟨_,rfl,fun ω=>?_,fun e=>(nomatch e)⟩⟩))
  · rw [k1]
    exact ((tx rfl).len hl).de ⟨rfl,⟨i,k2⟩,_,rfl⟩
  · subst k1
    refine DS.ret (DE.call (G':=fun vs c5=>c5=c4∧∃ i,vs=[.int i,.int 64]) (DL.cons (G':=fun v c5=>c5=c4∧∃ i,v = .int i) (DE.ite (DE.bool (b:=x) (pf_none _) (fun ω=>rfl) ⟨x,rfl,fun ω=>DE.pure (v:=.int (-f)) (pf_none _) (fun ω=>rfl) ⟨rfl,_,rfl⟩,fun ω=>DE.pure (v:=.int f) (pf_none _) (fun ω=>rfl) ⟨rfl,_,rfl⟩⟩)) fun v c5 ⟨k4,i,k5⟩=>?_) fun vs c5 ⟨k4,i,k5⟩=>?_)
    · subst k4 k5
      exact DL.pure (vs:=[.int 64]) (pf_none _) (fun ω=>rfl) ⟨rfl,i,rfl⟩
    · rw [k4,k5]
      exact (d_wrap (n+1)).mono fun v c6 ⟨k6,i,k7⟩=>⟨k6,.inr ⟨i,k7⟩⟩
  · subst k1
    exact DS.retP (v:=.none) (pf_none _) (fun ω=>rfl) ⟨rfl,.inl rfl⟩
  · exact DS.retP (v:=.none) (pf_none _) (fun ω=>rfl) ⟨rfl,.inl rfl⟩
theorem at_k {Γ:Specs} {ρ:Lc} {j:Nat} (k:Nat) (h:lkL "at" ρ=some (.v (.int j))):DV F Γ (.bin .Add (.loc "at") (.cst (.int k))) ρ c (.int ((j+k:Nat):Int)):=DV.pure (pf_none _) fun ω=>by show (vLocal (lkL "at" _)).bind _=_; rw [h]; rfl
theorem at_0 {Γ:Specs} {ρ:Lc} {j:Nat} (h:lkL "at" ρ=some (.v (.int j))):DV F Γ (.loc "at") ρ c (.int j):=DV.pure (pf_none _) fun ω=>by show vLocal (lkL "at" _)=_; rw [h]; rfl
theorem tb2m (n:Nat) {l:List UInt8} (hl:l.length≤1000000) {j:Nat} {x y:Bool} (hj:j≤l.length) (h3:y=true→j+2 < l.length):DS F (GG (n+2)) (b_text_in_base.drop 3) (lcU l 0 j x y) c (FnG c):=by
  refine DS.ifS (DE.andC (DE.bool (b:=y) (pf_none _) (fun ω=>rfl) ⟨y,rfl,fun e=>?_,fun ω=>⟨false,rfl,fun e=>(nomatch e),fun ω=>tb3 n hl (by decide) (by decide) hj⟩⟩))
  have hlt:=h3 e
  refine DE.andC (DE.cmp2M (va:=.int 0) (vc:=.int 16) (G':=fun v c2=>c2=c∧∃ d,v = .int d) (DV.pure (pf_none _) fun ω=>rfl) (DE.call (G':=fun vs c2=>vs=[.int (l.getD (j+2) 0).toNat]∧c2=c) (DL.cons (G':=fun v c2=>v = .int (l.getD (j+2) 0).toNat∧c2=c) (((tx rfl).idx (at_k 2 rfl) hl hlt).de ⟨rfl,rfl⟩) fun v c2 ⟨h1,h2⟩=>DL.nil ⟨by rw [h1],h2⟩) fun vs c2 ⟨h1,h2⟩=>?_) (fun ω=>DV.pure (pf_none _) fun ω=>rfl) fun v c2 ⟨h1,d,h2⟩=>⟨decide (0≤d),decide (d < 16),by rw [h2]; rfl,by rw [h2]; rfl,_,rfl,fun ω=>DE.and0 ⟨true,rfl,fun ω=>?_,fun e=>(nomatch e)⟩,fun ω=>⟨false,rfl,fun e=>(nomatch e),fun ω=>?_⟩⟩)
  · rw [h1,h2]
    exact (d_digit_of (n+1)).mono fun v c3 ⟨k1,d,k2,_⟩=>⟨k1,d,k2⟩
  · rw [h1]
    exact DS.raw (ρ':=lcU l 16 (j+2) x y) (c':=c) (fun o K X q=>q) (tb3 n hl (by decide) (by decide) (by omega))
  · rw [h1]
    exact tb3 n hl (by decide) (by decide) hj
theorem in8 (l:List UInt8) (k:Nat) (m:List UInt8):∃ y,inV (.int (l.getD k 0).toNat) (.byt m)=some y:=⟨_,if_pos ⟨by omega,by have:=(l.getD k 0).toNat_lt; omega⟩⟩
theorem tb2 (n:Nat) {l:List UInt8} (hl:l.length≤1000000) {j:Nat} {x:Bool} (hj:j≤l.length):DS F (GG (n+2)) (b_text_in_base.drop 2) (lcT l 0 j x) c (FnG c):=by
  refine DS.asg (G':=fun v c2=>c2=c∧∃ y,v = .bool y∧(y=true→j+2 < l.length)) (DE.andC (DV.de (DV.cmp (at_k 2 rfl) ((tx rfl).len hl) (x:=decide (((j+2:Nat):Int) < l.length)) rfl) ⟨_,rfl,fun e=>?_,fun ω=>⟨rfl,_,rfl,fun e=>(nomatch e)⟩⟩)) fun v c2 ⟨h1,y,h2,h3⟩=>?_
  · have e:=of_decide_eq_true e
    have hlt:j+2 < l.length:=by omega
    refine DE.andC (DV.de (DV.cmp ((tx rfl).idx (at_0 rfl) hl (by omega)) (DV.pure (v:=.int 48) (pf_none _) fun ω=>rfl) (x:=((l.getD j 0).toNat:Int) == 48) rfl) ⟨_,rfl,fun ω=>?_,fun ω=>⟨rfl,_,rfl,fun e=>(nomatch e)⟩⟩)
    obtain ⟨y,hy⟩:=in8 l (j+1) [120,88]
    refine DE.andC (DV.de (DV.cmp ((tx rfl).idx (at_k 1 rfl) hl (by omega)) (DV.pure (v:=.byt [120,88]) (pf_none _) fun ω=>rfl) hy) ⟨_,rfl,fun ω=>?_,fun ω=>⟨rfl,_,rfl,fun e=>(nomatch e)⟩⟩)
    exact DE.andC (DE.bool (b:=true) (pf_none _) (fun ω=>rfl) ⟨_,rfl,fun ω=>DE.and0 ⟨rfl,_,rfl,fun ω=>hlt⟩,fun e=>(nomatch e)⟩)
  · subst h1 h2
    exact tb2m n hl hj h3
theorem d_text_in_base (n:Nat) {l:List UInt8} (hl:l.length≤1000000):DF F (GG (n+3)) 145 [.byt l,.int 0,.lims] c fun v c'=>c'=c∧NoN v:=by
  refine DF.of (show _=wpFn (GG (n+2)) ["text","base","limits"] b_text_in_base from rfl) rfl (DS.mono (G':=FnG c) ?_ fun fl ω c' h=>by cases fl <;> exact h)
  refine DS.asgT (DE.callP (vs:=[.byt l,.int 0]) (pf_none _) (fun ω=>rfl) (d_skip_blanks n (k:=0) hl (Nat.zero_le _))) fun v c' ⟨h1,j,h2,hj⟩=>?_
  subst h1 h2
  refine DS.ifS (DE.andC (DV.de (DV.cmp (at_0 rfl) ((tx rfl).len hl) (x:=decide ((j:Int) < l.length)) rfl) ⟨_,rfl,fun e=>?_,fun ω=>⟨_,rfl,fun e=>(nomatch e),fun ω=>tb2 n hl hj⟩⟩))
  have e:=of_decide_eq_true e
  have hlt:j < l.length:=by omega
  obtain ⟨y,hy⟩:=in8 l j [43,45]
  refine DE.andC (DV.de (DV.cmp ((tx rfl).idx (at_0 rfl) hl hlt) (DV.pure (v:=.byt [43,45]) (pf_none _) fun ω=>rfl) hy) ⟨_,rfl,fun ω=>DE.and0 ⟨_,rfl,fun ω=>?_,fun e=>(nomatch e)⟩,fun ω=>⟨_,rfl,fun e=>(nomatch e),fun ω=>tb2 n hl hj⟩⟩)
  refine DS.asgR (v:=.bool (((l.getD j 0).toNat:Int) == 45)) (c':=c') (DV.cmp ((tx rfl).idx (at_0 rfl) hl hlt) (DV.pure (v:=.int 45) (pf_none _) fun ω=>rfl) rfl) ?_
  exact DS.asgP (v:=.int (j+1)) (pf_none _) (fun ω=>rfl) (tb2 n hl (j:=j+1) (by omega))
theorem d_str_to_number (n:Nat) {l:List UInt8} (hl:l.length≤1000000):DF F (GG (n+4)) 138 [.byt l,.lims] c fun v c'=>c'=c∧NoN v:=
  DF.of (show _=wpFn (GG (n+3)) ["text","limits"] b_str_to_number from rfl) rfl (DS.ret (DE.callP (vs:=[.byt l,.int 0,.lims]) (pf_none _) (fun ω=>rfl) (d_text_in_base n hl)))
end
section
variable {c:Core}
def Tk (c:Core) (v:V) (c':Core):Prop:=Nx c c'∧c.at_ < c'.at_∧∃ k w,v = .tok k w∧k≠287∧Pl w
theorem ns_ne (h:(isLt (sg c) || (isDg (sg c) || false))=true):sg c ≠ -1:=fun q=>by rw [q] at h; exact absurd h (by decide)
theorem keep_while (n:Nat) {t:X} {ρ:Lc} {tst:Int→Bool} (hr:lkL "self" ρ=some (.v .lex)) (ht:∀ o c',evX pf ⟨ρ,FL o c'⟩ t=some (.bool (tst (sg c')))) (hn:∀ c':Core,tst (sg c')=true→sg c' ≠ -1) (hi:Inv c) :
    DS FL (GG (n+7)) [.whileS t [.expr (.mcall (.loc "self") 336 [])]] ρ c fun fl ρ' c'=>fl = .next∧ρ'=ρ∧Nx c c'∧(tst (sg c)=true→c.at_ < c'.at_):=by
  refine DS.while (fun ρ' c'=>ρ'=ρ∧Nx c c'∧(c'=c∨c.at_ < c'.at_)) (fun ω c'=>c.t.length - c'.at_) (fun ρ' c' hP=>?_) ⟨rfl,.refl hi,.inl rfl⟩
  obtain ⟨rfl,h3,h4⟩:=hP
  refine DI.of (DE.bool (b:=tst (sg c')) (pf_ok (n+5)) (fun o=>ht o c') ⟨_,rfl,fun e=>?_,fun e=>⟨rfl,rfl,h3,fun q=>?_⟩⟩)
  · have hs:=hn _ e
    have hl:=(sgn_in hs).1
    rw [h3.t] at hl
    refine DS.exprM (vs:=[]) (pf_ok (n+5)) hr fl_some (fun ω=>rfl) (d_km n h3.inv hs) fun v c2 ⟨_,h5,h6⟩=>?_
    rw [h5] at h6 ⊢
    refine DS.nil ⟨⟨rfl,h3.trans (.km h6),.inr (Nat.lt_succ_of_le h3.at_)⟩,?_⟩
    show c.t.length - (c'.at_+1) < c.t.length - c'.at_
    omega
  · rcases h4 with rfl | h4
    · rw [q] at e; cases e
    · exact h4
theorem word_kinds:(wordTable.all fun p=>decide (p.2≠287))=true:=by decide
theorem word_ne {w:List UInt8} {k:Int} (h:wordTable.lookup w=some k):k≠287:=by
  have key:∀ {l:List (List UInt8 × Int)},l.lookup w=some k→(w,k)∈l:=by
    intro l
    induction l with
    | nil=>intro h; cases h
    | cons p l ih=>
      intro h
      obtain ⟨a,b⟩:=p
      rw [List.lookup_cons] at h
      cases q:w == a with
      | true=>rw [q] at h; cases h; rw [beq_iff_eq.mp q]; exact .head _
      | false=>rw [q] at h; exact .tail _ (ih h)
  exact of_decide_eq_true (List.all_eq_true.mp word_kinds _ (key h))
theorem d_word (n:Nat) (hi:Inv c) (hs:isLt (sg c)=true):DF FL (GG (n+8)) 406 [.lex] c (Tk c):=by
  refine DF.of (show _=wpFn (GG (n+7)) ["self"] b_read_word from rfl) rfl ?_
  refine DS.seq (keep_while n (ρ:=[("self",.v .lex)]) (tst:=fun i=>isLt i || (isDg i || false)) rfl (fun ω ω=>rfl) (fun ω=>ns_ne) hi) fun fl ρ c1 ⟨h1,h2,h3,h4⟩=>?_
  subst h1 h2
  have h4:=h4 (by show (isLt (sg c) || _)=true; rw [hs]; rfl)
  have hb:=h3.inv.buf
  refine DS.asgR (v:=.byt c1.buf) (c':=c1) (fun o Q X q=>⟨c1.buf,rfl,by omega,q⟩) ?_
  cases hk:wordTable.lookup c1.buf with
  | none=>
    refine DS.asgR (v:=.none) (c':=c1) (fun o Q X q=>⟨.kinds,rfl,rfl,rfl,(show Q (match wordTable.lookup c1.buf with | some k=>.int k | none=>.none) _ by rw [hk]; exact q)⟩) ?_
    exact DS.ret (DE.ite (DE.bool (b:=true) (pf_ok (n+5)) (fun ω=>rfl) ⟨_,rfl,fun ω=>DE.pure (v:=.tok 285 (.byt c1.buf)) (pf_ok (n+5)) (fun ω=>rfl) ⟨h3,h4,285,_,rfl,by decide,.inr (.inl ⟨_,rfl⟩)⟩,fun e=>(nomatch e)⟩))
  | some k=>
    refine DS.asgR (v:=.int k) (c':=c1) (fun o Q X q=>⟨.kinds,rfl,rfl,rfl,(show Q (match wordTable.lookup c1.buf with | some k=>.int k | none=>.none) _ by rw [hk]; exact q)⟩) ?_
    exact DS.ret (DE.ite (DE.bool (b:=false) (pf_ok (n+5)) (fun ω=>rfl) ⟨_,rfl,fun e=>(nomatch e),fun ω=>DE.pure (v:=.tok k .none) (pf_ok (n+5)) (fun ω=>rfl) ⟨h3,h4,k,_,rfl,word_ne hk,.inl rfl⟩⟩))
theorem kif_nx (hi:Inv c) {b:Bool} {c':Core} (h:Inv c'∧c'=if b=true then c.km else c):Nx c c':=by
  obtain ⟨h1,h2⟩:=h
  cases b with
  | true=>rw [if_pos rfl] at h2; rw [h2] at h1 ⊢; exact .km h1
  | false=>rw [if_neg (by decide)] at h2; rw [h2]; exact .refl hi
theorem d_numeral (n:Nat) (hi:Inv c) (hs:isDg (sg c)=true):DF FL (GG (n+9)) 413 [.lex] c (Tk c):=by
  refine DF.of (show _=wpFn (GG (n+8)) ["self"] b_read_numeral from rfl) rfl ?_
  refine DS.seq (keep_while (n+1) (ρ:=[("self",.v .lex)]) (tst:=fun i=>isDg i || ((i == 46) || false)) rfl (fun ω ω=>rfl) (fun c' e q=>by rw [q] at e; exact absurd e (by decide)) hi) fun fl ρ c1 ⟨h1,h2,h3,h4⟩=>?_
  subst h1 h2
  have h4:=h4 (by show (isDg (sg c) || _)=true; rw [hs]; rfl)
  have ks:∀ {c':Core} {a b:Int},(sg c' == a || (sg c' == b || false))=true→0≤a→0≤b→sg c' ≠ -1:=fun {c' a b} e ha hb q=>by
    rw [q,Bool.or_false,Bool.or_eq_true] at e
    rcases e with e | e <;> have e:=eq_of_beq e <;> omega
  have rest:∀ {c2:Core},Nx c c2→c.at_ < c2.at_→DS FL (GG (n+8)) (b_read_numeral.drop 2) [("self",.v .lex)] c2 fun fl ω c'=>match fl with | .ret v=>Tk c v c' | .next=>Tk c .none c' | .brk=>False:=fun {c2} h5 h6=>by
    refine DS.seq (keep_while (n+1) (ρ:=[("self",.v .lex)]) (tst:=fun i=>isLt i || (isDg i || false)) rfl (fun ω ω=>rfl) (fun ω=>ns_ne) h5.inv) fun fl ρ c3 ⟨h1,h2,h7,_⟩=>?_
    subst h1 h2
    have hb:=h7.inv.buf
    have hx:=h5.trans h7
    have ha:c.at_ < c3.at_:=by have:=h7.at_; omega
    refine DS.asg (G':=fun v c4=>c4=c3∧NoN v) (DE.call (G':=fun vs c4=>vs=[.byt c3.buf,.lims]∧c4=c3) (DL.cons (G':=fun v c4=>v = .byt c3.buf∧c4=c3) (DE.raw (v:=.byt c3.buf) (c':=c3) (fun o Q X q=>⟨c3.buf,rfl,by omega,q⟩) ⟨rfl,rfl⟩) fun v c4 ⟨q1,q2⟩=>?_) fun vs c4 ⟨q1,q2⟩=>?_) fun v c4 ⟨q1,q2⟩=>?_
    · subst q1 q2
      exact DL.pure (vs:=[.lims]) (pf_ok (n+6)) (fun ω=>rfl) ⟨rfl,rfl⟩
    · rw [q1,q2]
      exact d_str_to_number (n+4) hb
    subst q1
    rcases q2 with rfl | ⟨i,rfl⟩
    · refine DS.ifP true (pf_ok (n+6)) (fun ω=>rfl) (fun ω=>?_) fun e=>(nomatch e)
      exact DS.exprM (G':=fun ω ω=>False) (vs:=[.byt _,.int 284]) (pf_ok (n+6)) rfl fl_some (fun ω=>rfl) (d_error (n+3) hx.inv (Nat.le_of_ble_eq_true rfl) (.inr ⟨_,rfl,.inl rfl⟩)) fun ω ω h=>h.elim
    · refine DS.ifP false (pf_ok (n+6)) (fun ω=>rfl) (fun e=>(nomatch e)) fun ω=>?_
      exact DS.retP (v:=.tok 284 (.int i)) (pf_ok (n+6)) (fun ω=>rfl) ⟨hx,ha,284,_,rfl,by decide,.inr (.inr ⟨i,rfl⟩)⟩
  refine DS.ifS (DE.mcallP (vs:=[.tup [.int 69,.int 101]]) (pf_ok (n+6)) rfl fl_some (fun ω=>rfl) ((d_keep_if n h3.inv (vs:=[.int 69,.int 101]) (b:=sg c1 == 69 || (sg c1 == 101 || false)) rfl (fun e=>ks e (by decide) (by decide))).mono fun v c2 ⟨k1,k2⟩=>⟨_,k1,fun ω=>?_,fun ω=>?_⟩))
  · have hx:=kif_nx h3.inv k2
    refine DS.exprM (vs:=[.tup [.int 43,.int 45]]) (pf_ok (n+6)) rfl fl_some (fun ω=>rfl) (d_keep_if n hx.inv (vs:=[.int 43,.int 45]) (b:=sg c2 == 43 || (sg c2 == 45 || false)) rfl (fun e=>ks e (by decide) (by decide))) fun v c3 ⟨k3,k4⟩=>?_
    have hx2:=kif_nx hx.inv k4
    exact rest (h3.trans (hx.trans hx2)) (by have:=hx.at_; have:=hx2.at_; omega)
  · have hx:=kif_nx h3.inv k2
    exact rest (h3.trans hx) (by have:=hx.at_; omega)
theorem d_dots (n:Nat) (hi:Inv c) (hs:sg c ≠ -1):DF FL (GG (n+10)) 399 [.lex] c (Tk c):=by
  refine DF.of (show _=wpFn (GG (n+9)) ["self"] b_read_dots from rfl) rfl ?_
  refine DS.exprM (vs:=[]) (pf_ok (n+7)) rfl fl_some (fun ω=>rfl) (d_km (n+2) hi hs) fun v c1 ⟨_,h1,h2⟩=>?_
  obtain ⟨hx,ha⟩:Nx c c1∧c.at_ < c1.at_:=by rw [h1] at h2 ⊢; exact km_nx h2
  have ks:∀ {c':Core},(sg c' == 46 || false)=true→sg c' ≠ -1:=fun {c'} e q=>by
    rw [q] at e; exact absurd e (by decide)
  refine DS.ifS (DE.mcallP (vs:=[.tup [.int 46]]) (pf_ok (n+7)) rfl fl_some (fun ω=>rfl) ((d_keep_if (n+1) hx.inv (vs:=[.int 46]) (b:=sg c1 == 46 || false) rfl ks).mono fun v c2 ⟨k1,k2⟩=>⟨_,k1,fun ω=>?_,fun ω=>?_⟩))
  · have hx2:=kif_nx hx.inv k2
    refine DS.ifS (DE.mcallP (vs:=[.tup [.int 46]]) (pf_ok (n+7)) rfl fl_some (fun ω=>rfl) ((d_keep_if (n+1) hx2.inv (vs:=[.int 46]) (b:=sg c2 == 46 || false) rfl ks).mono fun v c3 ⟨k3,k4⟩=>⟨_,k3,fun ω=>?_,fun ω=>?_⟩))
    · have hx3:=kif_nx hx2.inv k4
      exact DS.retP (v:=.tok 279 .none) (pf_ok (n+7)) (fun ω=>rfl) ⟨hx.trans (hx2.trans hx3),by have:=hx2.at_; have:=hx3.at_; omega,279,_,rfl,by decide,.inl rfl⟩
    · have hx3:=kif_nx hx2.inv k4
      exact DS.retP (v:=.tok 278 .none) (pf_ok (n+7)) (fun ω=>rfl) ⟨hx.trans (hx2.trans hx3),by have:=hx2.at_; have:=hx3.at_; omega,278,_,rfl,by decide,.inl rfl⟩
  · have hx2:=kif_nx hx.inv k2
    have ha2:c.at_ < c2.at_:=by have:=hx2.at_; omega
    refine DS.ifP (isDg (sg c2)) (pf_ok (n+7)) (fun ω=>rfl) (fun e=>?_) fun ω=>?_
    · exact DS.ret (DE.mcallP (vs:=[]) (pf_ok (n+7)) rfl fl_some (fun ω=>rfl) ((d_numeral n hx2.inv e).mono fun v c3 ⟨k3,k4,k5⟩=>⟨hx.trans (hx2.trans k3),by omega,k5⟩))
    · exact DS.retP (v:=.tok 46 .none) (pf_ok (n+7)) (fun ω=>rfl) ⟨hx.trans hx2,ha2,46,_,rfl,by decide,.inl rfl⟩
theorem d_compared (n:Nat) (hi:Inv c) {i:Int} (hi2:i≠287):DF FL (GG (n+2)) 392 [.lex,.int i] c (Tk c):=by
  refine DF.of (show _=wpFn (GG (n+1)) ["self","sign"] b_read_compared from rfl) rfl ?_
  refine DS.exprM (vs:=[]) (pf_none _) rfl fl_some (fun ω=>rfl) (d_move n hi) fun v c1 ⟨_,h1⟩=>?_
  obtain ⟨hx,ha⟩:Nx c c1∧c.at_ < c1.at_:=by rw [h1]; exact mv_nx hi
  refine DS.ifP (!(sg c1 == 61)) (pf_none _) (fun ω=>rfl) (fun ω=>DS.retP (v:=.tok i .none) (pf_none _) (fun ω=>rfl) ⟨hx,ha,i,_,rfl,hi2,.inl rfl⟩) fun ω=>?_
  refine DS.exprM (vs:=[]) (pf_none _) rfl fl_some (fun ω=>rfl) (d_move n hx.inv) fun v c2 ⟨_,h2⟩=>?_
  obtain ⟨hx2,ha2⟩:Nx c c2∧c.at_ < c2.at_:=by rw [h2]; exact ⟨hx.trans (.mv hx.inv),Nat.lt_succ_of_lt ha⟩
  refine DS.ifP (i == 61) (pf_none _) (fun ω=>rfl) (fun ω=>DS.retP (v:=.tok 280 .none) (pf_none _) (fun ω=>rfl) ⟨hx2,ha2,_,_,rfl,by decide,.inl rfl⟩) fun ω=>?_
  refine DS.ifP (i == 60) (pf_none _) (fun ω=>rfl) (fun ω=>DS.retP (v:=.tok 282 .none) (pf_none _) (fun ω=>rfl) ⟨hx2,ha2,_,_,rfl,by decide,.inl rfl⟩) fun ω=>?_
  exact DS.ret (DE.tokK (DE.ite (DE.bool (b:=i == 62) (pf_none _) (fun ω=>rfl) ⟨_,rfl,fun ω=>DE.pure (v:=.int 281) (pf_none _) (fun ω=>rfl) ⟨_,rfl,hx2,ha2,_,_,rfl,by decide,.inl rfl⟩,fun ω=>DE.pure (v:=.int 283) (pf_none _) (fun ω=>rfl) ⟨_,rfl,hx2,ha2,_,_,rfl,by decide,.inl rfl⟩⟩)))
end
section
variable {c:Core}
def Rd (c:Core) (v:V) (c':Core):Prop:=Nx c c'∧∃ k w,v = .tok k w∧Pl w∧(k≠287→c.at_ < c'.at_)∧(k=287→w = .none∧sg c' = -1)∧(sg c = -1→k=287∧c'=c)
noncomputable def lcQ (i:Int):Lc:=[("self",.v .lex),("sign",.v (.int i))]
theorem read_tail (n:Nat) (hi:Inv c):DS FL (GG (n+12)) b_read.tail [("self",.v .lex)] c fun fl ω c'=>match fl with | .ret v=>Rd c v c' | .next=>Rd c .none c' | .brk=>False:=by
  refine DS.seq (G':=fun fl ρ c'=>fl = .next∧ρ=[("self",.v .lex)]∧Nx c c'∧(sg c = -1→c'=c))
    (DS.while (fun ρ c'=>ρ=[("self",.v .lex)]∧Nx c c'∧(sg c = -1→c'=c)) (fun ω c'=>c.t.length - c'.at_) (fun ρ c' hP=>?_) ⟨rfl,.refl hi,fun ω=>rfl⟩) fun fl ρ c1 hh=>?_
  · obtain ⟨rfl,h3,h4⟩:=hP
    refine DI.of (DE.mcallP (vs:=[]) (pf_ok (n+10)) rfl fl_some (fun ω=>rfl) ((d_blank n h3.inv).mono fun v c2 h=>?_))
    rcases h with ⟨h5,h6,h7,h8⟩ | ⟨h5,h6⟩
    · refine ⟨true,h5,fun ω=>DS.pass (DS.nil ⟨⟨rfl,h3.trans h6,fun q=>?_⟩,?_⟩),fun e=>(nomatch e)⟩
      · rw [h4 q] at h8; exact absurd q h8
      · have hl:=(sgn_in h8).1
        rw [h3.t] at hl
        show c.t.length - c2.at_ < c.t.length - c'.at_
        omega
    · exact ⟨false,h5,fun e=>(nomatch e),fun ω=>⟨rfl,rfl,by rw [h6]; exact h3,by rw [h6]; exact h4⟩⟩
  obtain ⟨rfl,rfl,h3,h4⟩:=hh
  refine DS.asgP (v:=.int (sg c1)) (pf_ok (n+10)) (fun ω=>rfl) ?_
  refine DS.ifP (sg c1 == -1) (pf_ok (n+10)) (fun ω=>rfl) (fun e=>DS.retP (v:=.tok 287 .none) (pf_ok (n+10)) (fun ω=>rfl) ⟨h3,287,_,rfl,.inl rfl,fun q=>absurd rfl q,fun ω=>⟨rfl,eq_of_beq e⟩,fun q=>⟨rfl,h4 q⟩⟩) fun e=>?_
  have hs:sg c1 ≠ -1:=fun q=>by rw [q] at e; cases e
  have hc:sg c ≠ -1:=fun q=>by rw [h4 q] at hs; exact hs q
  have h256:=sgn_lt c1.t c1.at_
  have fin:∀ {v:V} {c2:Core},Tk c1 v c2→Rd c v c2:=fun ⟨k1,k2,k,w,k3,k4,k5⟩=>⟨h3.trans k1,k,w,k3,k5,fun ω=>by have:=h3.at_; omega,fun q=>absurd q k4,fun q=>absurd q hc⟩
  refine DS.ifP (sg c1 == 34 || (sg c1 == 39 || false)) (pf_ok (n+10)) (fun ω=>rfl) (fun ω=>?_) fun ω=>?_
  · exact DS.ret (DE.mcallP (vs:=[.int (sg c1)]) (pf_ok (n+10)) rfl fl_some (fun ω=>rfl) ((d_string (n+3) h3.inv hs).mono fun v c2 ⟨k1,k2,b,k3⟩=>fin ⟨k1,k2,286,_,k3,by decide,.inr (.inl ⟨b,rfl⟩)⟩))
  refine DS.ifP (sg c1 == 91) (pf_ok (n+10)) (fun ω=>rfl) (fun ω=>DS.ret (DE.mcallP (vs:=[]) (pf_ok (n+10)) rfl fl_some (fun ω=>rfl) ((d_bracket (n+1) h3.inv hs).mono fun v c2 h=>fin h))) fun ω=>?_
  refine DS.ifP (sg c1 == 46) (pf_ok (n+10)) (fun ω=>rfl) (fun ω=>DS.ret (DE.mcallP (vs:=[]) (pf_ok (n+10)) rfl fl_some (fun ω=>rfl) ((d_dots (n+2) h3.inv hs).mono fun v c2 h=>fin h))) fun ω=>?_
  refine DS.ifP (isDg (sg c1)) (pf_ok (n+10)) (fun ω=>rfl) (fun e=>DS.ret (DE.mcallP (vs:=[]) (pf_ok (n+10)) rfl fl_some (fun ω=>rfl) ((d_numeral (n+3) h3.inv e).mono fun v c2 h=>fin h))) fun ω=>?_
  refine DS.ifP (isLt (sg c1)) (pf_ok (n+10)) (fun ω=>rfl) (fun e=>DS.ret (DE.mcallP (vs:=[]) (pf_ok (n+10)) rfl fl_some (fun ω=>rfl) ((d_word (n+4) h3.inv e).mono fun v c2 h=>fin h))) fun ω=>?_
  refine DS.ifP (sg c1 == 45) (pf_ok (n+10)) (fun ω=>rfl) (fun ω=>?_) fun ω=>?_
  · exact DS.exprM (vs:=[]) (pf_ok (n+10)) rfl fl_some (fun ω=>rfl) (d_move (n+11) h3.inv) fun v c2 ⟨_,h5⟩=>DS.retP (v:=.tok 45 .none) (pf_ok (n+10)) (fun ω=>rfl) (fin (by rw [h5]; exact ⟨.mv h3.inv,Nat.lt_succ_self _,45,_,rfl,by decide,.inl rfl⟩))
  refine DS.ifP (sg c1 == 61 || (sg c1 == 60 || (sg c1 == 62 || (sg c1 == 126 || false)))) (pf_ok (n+10)) (fun ω=>rfl) (fun ω=>?_) fun ω=>?_
  · exact DS.ret (DE.mcallP (vs:=[.int (sg c1)]) (pf_ok (n+10)) rfl fl_some (fun ω=>rfl) ((d_compared (n+10) h3.inv (i:=sg c1) (by show sgn c1.t c1.at_≠287; omega)).mono fun v c2 h=>fin h))
  exact DS.exprM (vs:=[]) (pf_ok (n+10)) rfl fl_some (fun ω=>rfl) (d_move (n+11) h3.inv) fun v c2 ⟨_,h5⟩=>DS.retP (v:=.tok (sg c1) .none) (pf_ok (n+10)) (fun ω=>rfl) (fin (by rw [h5]; exact ⟨.mv h3.inv,Nat.lt_succ_self _,_,_,rfl,by show sgn c1.t c1.at_≠287; omega,.inl rfl⟩))
theorem d_read (n:Nat) (hi:Inv (c.put [])):∃ r:Rs V,r.ok (Rd (c.put []))∧∀ b o (Q:V→Option Lex→Prop) X,r.go (fun v c'=>Q v (FL o c')) X→GG (n+13) 364 [.lex] (FL o (c.put b)) Q X:=by
  obtain ⟨r,g,w⟩:=read_tail n hi
  have key:∀ b o (Q:V→Option Lex→Prop) (X:List UInt8→Prop),wpSs (GG (n+12)) b_read.tail (fun fl st=>match fl with | .ret v=>Q v st.lx | .next=>Q .none st.lx | .brk=>False) (fun m ω=>X m) ⟨[("self",.v .lex)],FL o (c.put [])⟩→GG (n+13) 364 [.lex] (FL o (c.put b)) Q X:=fun b o Q X q=>by
    refine (show wpFn (GG (n+12)) ["self"] b_read _ _ Q X from ⟨rfl,?_⟩)
    have w1:∀ (Q':V→Option Lex→Prop),Q' .none (FL o (c.put []))→GG (n+12) 350 [.lex] (FL o (c.put b)) Q' X:=fun Q' q'=>(show wpFn (GG (n+11)) ["self"] b_clear _ _ Q' X from ⟨rfl,lexOf o (c.put b),rfl,rfl,Nat.le_of_ble_eq_true rfl,rfl,q'⟩)
    exact ⟨rfl,⟨_,rfl⟩,w1 (fun ω lx=>wpSs (GG (n+12)) b_read.tail (fun fl st=>match fl with | .ret v=>Q v st.lx | .next=>Q .none st.lx | .brk=>False) (fun m ω=>X m) ⟨[("self",.v .lex)],lx⟩) q⟩
  cases r with
  | inr m=>exact ⟨.inr m,trivial,fun b o Q X q=>key b o Q X (w o _ X q)⟩
  | inl p=>
    obtain ⟨⟨fl,ρ'⟩,c'⟩:=p
    cases fl with
    | next=>exact ⟨.inl (.none,c'),g,fun b o Q X q=>key b o Q X (w o _ X q)⟩
    | brk=>exact g.elim
    | ret v=>exact ⟨.inl (v,c'),g,fun b o Q X q=>key b o Q X (w o _ X q)⟩
end
section
variable {Γ:Specs} {p:Pf} {t e:X} {x y r:List S} {K:Fl→St→Prop} {Xc:Exc} {st:St}
theorem ifE (hp:PfOk p Γ) (b:Bool) (h:evX p st t=some (.bool b)) (q:wpSs Γ ((match b with | true=>x | false=>y)++r) K Xc st):wpSs Γ (.ifS t x y :: r) K Xc st:=by
  rw [s_cons,s_ifS]
  refine evX_ok hp _ _ h ⟨b,rfl,fun e=>?_,fun e=>?_⟩
  · subst e; rw [wp_app] at q; exact q
  · subst e; rw [wp_app] at q; exact q
theorem asgE (hp:PfOk p Γ) {n:String} {v:V} (h:evX p st e=some v) (q:wpSs Γ r K Xc ⟨setL n (.v v) st.ρ,st.lx⟩):wpSs Γ (.asg n e :: r) K Xc st:=by
  rw [s_cons,s_asg]
  exact evX_ok hp _ _ h q
theorem retE (hp:PfOk p Γ) {v:V} (h:evX p st e=some v) (q:K (.ret v) st):wpSs Γ (.ret e :: r) K Xc st:=by
  rw [s_cons,s_ret]
  exact evX_ok hp _ _ h q
theorem mcallE (hp:PfOk p Γ) {n:String} {l:Lex} {f:Addr} {es:List X} {vs:List V} {Q:Post} (hx:lkL n st.ρ=some (.v .lex)) (hl:st.lx=some l) (h:evXs p st es=some vs) (w:Γ f (.lex :: vs) st.lx (fun v lx=>Q v ⟨st.ρ,lx⟩) (fun m=>Xc m ⟨st.ρ,none⟩)):wpX Γ (.mcall (.loc n) f es) Q Xc st:=by
  rw [w_mcall,w_loc]
  dsimp only
  rw [hx]
  exact ⟨rfl,⟨l,hl⟩,evs_of (fun e ω=>evX_ok hp e) h w⟩
theorem callE (hp:PfOk p Γ) {f:Addr} {es:List X} {vs:List V} {Q:Post} (h:evXs p st es=some vs) (w:Γ f vs st.lx (fun v lx=>Q v ⟨st.ρ,lx⟩) (fun m=>Xc m ⟨st.ρ,none⟩)):wpX Γ (.call f es) Q Xc st:=by
  rw [w_call]
  exact evs_of (fun e ω=>evX_ok hp e) h w
end
section
variable {c:Core} {o:Out} {Q:V→Option Lex→Prop} {X:List UInt8→Prop}
theorem blank_end (n:Nat) (hs:sg c = -1) (q:Q (.bool false) (FL o c)):GG (n+12) 371 [.lex] (FL o c) Q X:=by
  have h1:isNl (sg c)=false:=by rw [hs]; decide
  have h2:isBk (sg c)=false:=by rw [hs]; decide
  have h3:(sg c == 45)=false:=by rw [hs]; decide
  refine (show wpFn (GG (n+11)) ["self"] b_skip_blank _ _ Q X from ⟨rfl,?_⟩)
  refine ifE (pf_ok (n+9)) false (congrArg (fun b=>some (V.bool b)) h1) (ifE (pf_ok (n+9)) false (congrArg (fun b=>some (V.bool b)) h2) ?_)
  show wpSs _ (.ifS _ _ _ :: _) _ _ _
  rw [s_cons,s_ifS,w_andE,w_andC]
  exact evX_ok (pf_ok (n+9)) _ (.bool (sg c == 45)) rfl ⟨_,rfl,fun e=>(by rw [h3] at e; cases e),fun ω=>⟨false,rfl,fun e=>(nomatch e),fun ω=>q⟩⟩
theorem read_end (n:Nat) (hs:sg c = -1) (q:Q (.tok 287 .none) (FL o (c.put []))):GG (n+13) 364 [.lex] (FL o c) Q X:=by
  have w1:∀ (Q':V→Option Lex→Prop),Q' .none (FL o (c.put []))→GG (n+12) 350 [.lex] (FL o c) Q' X:=fun Q' q'=>(show wpFn (GG (n+11)) ["self"] b_clear _ _ Q' X from ⟨rfl,lexOf o c,rfl,rfl,Nat.le_of_ble_eq_true rfl,rfl,q'⟩)
  let K:Fl→St→Prop:=fun fl st=>match fl with | .ret v=>Q v st.lx | .next=>Q .none st.lx | .brk=>False
  have h4:(sg c == -1)=true:=by rw [hs]; decide
  have k2:wpSs (GG (n+12)) b_read.tail.tail K (fun m ω=>X m) ⟨[("self",.v .lex)],FL o (c.put [])⟩:=by
    show wpSs _ (.asg "sign" _ :: .ifS _ _ _ :: _) K _ _
    refine asgE (v:=.int (sg c)) (pf_ok (n+10)) rfl ?_
    refine ifE (pf_ok (n+10)) true (congrArg (fun b=>some (V.bool b)) h4) ?_
    exact retE (v:=.tok 287 .none) (pf_ok (n+10)) rfl q
  have k:wpSs (GG (n+12)) b_read.tail K (fun m ω=>X m) ⟨[("self",.v .lex)],FL o (c.put [])⟩:=by
    refine (show wpS (GG (n+12)) (.whileS (.mcall (.loc "self") 371 []) [.pass]) (fun fl st=>match fl with | .next=>wpSs (GG (n+12)) b_read.tail.tail K (fun m ω=>X m) st | fl=>K fl st) _ _ from ⟨fun st=>st=⟨[("self",.v .lex)],FL o (c.put [])⟩,fun ω=>0,rfl,fun st' h=>?_⟩)
    rw [h]
    exact mcallE (pf_ok (n+10)) rfl rfl rfl (blank_end n (c:=c.put []) hs ⟨false,rfl,fun e=>(nomatch e),fun ω=>k2⟩)
  exact (show wpFn (GG (n+12)) ["self"] b_read _ _ Q X from ⟨rfl,rfl,⟨_,rfl⟩,w1 (fun ω lx=>wpSs (GG (n+12)) b_read.tail K (fun m ω=>X m) ⟨[("self",.v .lex)],lx⟩) k⟩)
end
noncomputable def rdx (n:Nat) (c:Core):Rs V:=open Classical in if sg c = -1 then .inl (.tok 287 .none,c.put []) else if h:Inv c then Classical.choose (d_read (c:=c) n (⟨h.t,h.line,Nat.zero_le _⟩:Inv (c.put []))) else .inr []
noncomputable def rd (n:Nat) (c:Core):Rs V:=rdx n (c.put [])
theorem rd_end (n:Nat) {c:Core} (hs:sg c = -1):rd n c = .inl (.tok 287 .none,c.put []):=if_pos (show sg (c.put []) = -1 from hs)
theorem rd_ok (n:Nat) {c:Core} (hi:Inv c):(rd n c).ok (Rd (c.put []))∧∀ o (Q:V→Option Lex→Prop) X,(rd n c).go (fun v c'=>Q v (FL o c')) X→GG (n+13) 364 [.lex] (FL o c) Q X:=by
  have h0:Inv (c.put []):=hi.put (Nat.zero_le _)
  by_cases hs:sg c = -1
  · rw [rd_end n hs]
    exact ⟨⟨.refl h0,287,.none,rfl,.inl rfl,fun q=>absurd rfl q,fun ω=>⟨rfl,hs⟩,fun ω=>⟨rfl,rfl⟩⟩,fun o Q X q=>read_end n hs q⟩
  · have h:=Classical.choose_spec (d_read (c:=c.put []) n h0)
    have e:rd n c=Classical.choose (d_read (c:=c.put []) n h0):=(if_neg (show ¬ sg (c.put []) = -1 from hs)).trans (dif_pos h0)
    rw [← e] at h
    exact ⟨h.1,fun o Q X q=>h.2 c.buf o Q X q⟩
theorem setM {Γ:Specs} {ρ:Lc} {l:Lex} {x:String} {K:Fl→St→Prop} {X:List UInt8→Prop} {P:(V→Option Lex→Prop)→Prop} (hr:lkL "self" ρ=some (.v .lex)) (h:∀ Q,P Q→Γ 364 [.lex] (some l) Q X) (q:P (fun v lx=>wpX Γ (.loc "self") (fun o st=>o matches .lex∧x ≠ "buffer"∧(¬ v matches .bufref)∧∃ l,st.lx=some l∧l.fs.length≤100∧K .next { st with lx:=some { l with fs:=setF' x v l.fs } }) (fun m ω=>X m) ⟨ρ,lx⟩)):wpS Γ (.setF (.loc "self") x (.mcall (.loc "self") 364 [])) K (fun m ω=>X m) ⟨ρ,some l⟩:=by
  rw [s_setF,w_mcall,w_loc]
  dsimp only
  rw [hr]
  exact ⟨rfl,⟨_,rfl⟩,h _ q⟩
theorem next_none (n:Nat) {c:Core} {o:Out} (hi:Inv c) (ho:o.ahead = .none) {Q:V→Option Lex→Prop} {X:List UInt8→Prop} (q:(rd n c).go (fun v c'=>Q v (FL ⟨c.line,v,.none⟩ c')) X):GG (n+14) 287 [.lex] (FL o c) Q X:=by
  obtain ⟨la,cu,ah⟩:=o
  cases ho
  obtain ⟨g,w⟩:=rd_ok n hi
  refine (show wpFn (GG (n+13)) ["self"] b_next _ _ Q X from ⟨rfl,.int c.line,rfl,rfl,by decide,(fun e=>by cases e),_,rfl,Nat.le_of_ble_eq_true rfl,?_⟩)
  refine (show wpS (GG (n+13)) (.ifS _ _ _) _ _ _ from ⟨.none,rfl,false,rfl,false,rfl,fun e=>(nomatch e),fun ω=>?_⟩)
  refine setM (Γ:=GG (n+13)) rfl (fun Q q=>w ⟨c.line,cu,.none⟩ Q X q) ?_
  cases h:rd n c with
  | inr m=>rw [h] at q; exact q
  | inl p=>
    rw [h] at q g
    obtain ⟨v,c'⟩:=p
    refine bC fun ng=>?_;obtain ⟨_,k,u,rfl,_⟩:=g;refine ng ?_;clear ng
    exact ⟨rfl,by decide,(fun e=>by cases e),_,rfl,Nat.le_of_ble_eq_true rfl,.tok k u,rfl,q⟩
theorem next_some (n:Nat) {c:Core} {o:Out} {k:Int} {u:V} (ho:o.ahead = .tok k u) {Q:V→Option Lex→Prop} {X:List UInt8→Prop} (q:Q (.tok k u) (FL ⟨c.line,.tok k u,.none⟩ c)):GG (n+14) 287 [.lex] (FL o c) Q X:=by
  obtain ⟨la,cu,ah⟩:=o
  cases ho
  refine (show wpFn (GG (n+13)) ["self"] b_next _ _ Q X from ⟨rfl,.int c.line,rfl,rfl,by decide,(fun e=>by cases e),_,rfl,Nat.le_of_ble_eq_true rfl,?_⟩)
  refine (show wpS (GG (n+13)) (.ifS _ _ _) _ _ _ from ⟨.tok k u,rfl,true,rfl,true,rfl,fun ω=>?_,fun e=>(nomatch e)⟩)
  refine (show wpS (GG (n+13)) (.setF _ "current" _) _ _ _ from ⟨.tok k u,rfl,rfl,by decide,(fun e=>by cases e),_,rfl,Nat.le_of_ble_eq_true rfl,?_⟩)
  exact (show wpS (GG (n+13)) (.setF _ "ahead" _) _ _ _ from ⟨rfl,by decide,(fun e=>by cases e),_,rfl,Nat.le_of_ble_eq_true rfl,.tok k u,rfl,q⟩)
theorem look_none (n:Nat) {c:Core} {o:Out} (hi:Inv c) (ho:o.ahead = .none) {Q:V→Option Lex→Prop} {X:List UInt8→Prop} (q:(rd n c).go (fun v c'=>Q v (FL ⟨o.last,o.cur,v⟩ c')) X):GG (n+14) 294 [.lex] (FL o c) Q X:=by
  obtain ⟨la,cu,ah⟩:=o
  cases ho
  obtain ⟨g,w⟩:=rd_ok n hi
  refine (show wpFn (GG (n+13)) ["self"] b_lookahead _ _ Q X from ⟨rfl,.none,rfl,true,rfl,true,rfl,fun ω=>?_,fun e=>(nomatch e)⟩)
  refine setM (Γ:=GG (n+13)) rfl (fun Q q=>w ⟨la,cu,.none⟩ Q X q) ?_
  cases h:rd n c with
  | inr m=>rw [h] at q; exact q
  | inl p=>
    rw [h] at q g
    obtain ⟨v,c'⟩:=p
    refine bC fun ng=>?_;obtain ⟨_,k,u,rfl,_⟩:=g;refine ng ?_;clear ng
    exact ⟨rfl,by decide,(fun e=>by cases e),_,rfl,Nat.le_of_ble_eq_true rfl,.tok k u,rfl,q⟩
theorem look_some (n:Nat) {c:Core} {o:Out} {k:Int} {u:V} (ho:o.ahead = .tok k u) {Q:V→Option Lex→Prop} {X:List UInt8→Prop} (q:Q (.tok k u) (FL o c)):GG (n+14) 294 [.lex] (FL o c) Q X:=by
  obtain ⟨la,cu,ah⟩:=o
  cases ho
  exact (show wpFn (GG (n+13)) ["self"] b_lookahead _ _ Q X from ⟨rfl,.tok k u,rfl,false,rfl,false,rfl,fun e=>(nomatch e),fun ω=>⟨.tok k u,rfl,q⟩⟩)
section
set_option genSizeOfSpec false
set_option genInjectivity false
inductive Run (n:Nat):Core→List V→Option (List UInt8)→Prop
  | stop {c:Core} {m:List UInt8}:rd n c = .inr m→Run n c [] (some m)
  | done {c c':Core} {w:V}:rd n c = .inl (.tok 287 w,c')→Run n c [] none
  | step {c c':Core} {k:Int} {w:V} {l:List V} {e:Option (List UInt8)}:rd n c = .inl (.tok k w,c')→k≠287→Run n c' l e→Run n c (.tup [.int k,w] :: l) e
section
variable {n:Nat} {c c':Core} {l:List V} {e:Option (List UInt8)} {m:List UInt8} {k:Int} {w:V}
theorem run_stop (h:rd n c = .inr m) (r:Run n c l e):l=[]∧e=some m:=by
  cases r with
  | stop h2=>rw [h] at h2; cases h2; exact ⟨rfl,rfl⟩
  | done h2=>rw [h] at h2; cases h2
  | step h2=>rw [h] at h2; cases h2
theorem run_done (h:rd n c = .inl (.tok 287 w,c')) (r:Run n c l e):l=[]∧e=none:=by
  cases r with
  | stop h2=>rw [h] at h2; cases h2
  | done h2=>exact ⟨rfl,rfl⟩
  | step h2 h3=>rw [h] at h2; cases h2; exact absurd rfl h3
theorem run_step (h:rd n c = .inl (.tok k w,c')) (hk:k≠287) (r:Run n c l e):∃ l',l = .tup [.int k,w] :: l'∧Run n c' l' e:=by
  cases r with
  | stop h2=>rw [h] at h2; cases h2
  | done h2=>rw [h] at h2; cases h2; exact absurd rfl hk
  | step h2 h3 h4=>rw [h] at h2; cases h2; exact ⟨_,rfl,h4⟩
theorem rd_tok (hi:Inv c) {v:V} (h:rd n c = .inl (v,c')):∃ k w,v = .tok k w∧Pl w∧Inv c'∧c'.t=c.t∧c.at_≤c'.at_∧(k≠287→c.at_ < c'.at_∧c.at_ < c.t.length)∧(k=287→w = .none∧sg c' = -1):=by
  obtain ⟨g,_⟩:=rd_ok n hi
  rw [h] at g
  obtain ⟨hn,k,w,rfl,hp,h1,h2,h3⟩:=g
  refine ⟨k,w,rfl,hp,hn.inv,hn.t,hn.at_,fun hk=>⟨h1 hk,(sgn_in fun q=>hk (h3 q).1).1⟩,h2⟩
theorem sub_step {L a b j:Nat} (h:a < b) (hj:L - a≤j+1):L - b≤j:=by omega
theorem sub_up {L a b n:Nat} (h:a < b) (h2:a < L) (h5:n≤L - b):n+1≤L - a:=by omega
theorem run_ex (n:Nat):∀ (j:Nat) (c:Core),Inv c→c.t.length - c.at_≤j→∃ l e,Run n c l e∧l.length≤c.t.length - c.at_:=by
  intro j
  induction j with
  | zero=>
    intro c hi hj
    cases h:rd n c with
    | inr m=>exact ⟨[],some m,.stop h,Nat.zero_le _⟩
    | inl p=>
      obtain ⟨v,c'⟩:=p
      refine bC fun ng=>?_;obtain ⟨k,w,rfl,_,_,_,_,h1,_⟩:=rd_tok hi h;refine ng ?_;clear ng
      by_cases hk:k=287
      · subst hk; exact ⟨[],none,.done h,Nat.zero_le _⟩
      · exact absurd (h1 hk).2 (Nat.not_lt.mpr (Nat.sub_eq_zero_iff_le.mp (Nat.le_zero.mp hj)))
  | succ j ih=>
    intro c hi hj
    cases h:rd n c with
    | inr m=>exact ⟨[],some m,.stop h,Nat.zero_le _⟩
    | inl p=>
      obtain ⟨v,c'⟩:=p
      refine bC fun ng=>?_;obtain ⟨k,w,rfl,_,hi2,ht,_,h1,_⟩:=rd_tok hi h;refine ng ?_;clear ng
      by_cases hk:k=287
      · subst hk; exact ⟨[],none,.done h,Nat.zero_le _⟩
      · obtain ⟨h2,h3⟩:=h1 hk
        obtain ⟨l,e,h4,h5⟩:=ih c' hi2 (by rw [ht]; exact sub_step h2 hj)
        refine ⟨_,e,.step h hk h4,?_⟩
        rw [ht] at h5
        exact sub_up h2 h3 h5
def Toks (l:List V):Prop:=∀ v∈l,∃ k w,v = .tup [.int k,w]∧Pl w
theorem run_toks (hi:Inv c) (r:Run n c l e):Toks l:=by
  induction r with
  | stop _=>intro v hv; nomatch hv
  | done _=>intro v hv; nomatch hv
  | step h hk r ih=>
    obtain ⟨k,w,h1,hp,hi2,_⟩:=rd_tok hi h
    cases h1
    intro v hv
    rcases List.mem_cons.mp hv with rfl | hv
    · exact ⟨_,_,rfl,hp⟩
    · exact ih hi2 v hv
theorem pl_eq {w:V} (h:Pl w) (n:Nat):eqN n w w=some true:=by
  rcases h with rfl | ⟨b,rfl⟩ | ⟨i,rfl⟩
  · cases n <;> rfl
  · have e:eqN n (.byt b) (.byt b)=some (b == b):=by cases n <;> rfl
    rw [e,beq_self_eq_true]
  · have e:eqN n (.int i) (.int i)=some (i == i):=by cases n <;> rfl
    rw [e,beq_self_eq_true]
theorem pl_nolex {w:V} (h:Pl w):V.noLex w=true:=by
  rcases h with rfl | ⟨b,rfl⟩ | ⟨i,rfl⟩ <;> rfl
theorem tup_eq {w:V} (h:Pl w) (n:Nat) (k:Int):eqN (n+1) (.tup [.int k,w]) (.tup [.int k,w])=some true:=by
  show (match eqN n (.int k) (.int k),eqL (eqN n) [w] [w] with | some x,some y=>some (x && y) | _,_=>none)=_
  rw [pl_eq (.inr (.inr ⟨k,rfl⟩))]
  show (match some true,(match eqN n w w,some true with | some x,some y=>some (x && y) | _,_=>none) with | some x,some y=>some (x && y) | _,_=>none)=_
  rw [pl_eq h]
  rfl
theorem toks_eq (n:Nat):∀ {l:List V},Toks l→eqL (eqN (n+1)) l l=some true
  | [],_=>rfl
  | v :: l,h=>by
    obtain ⟨k,w,rfl,hp⟩:=h v (.head _)
    show (match eqN (n+1) (.tup [.int k,w]) (.tup [.int k,w]),eqL (eqN (n+1)) l l with | some x,some y=>some (x && y) | _,_=>none)=_
    rw [tup_eq hp,toks_eq n fun v hv=>h v (.tail _ hv)]
    rfl
theorem toks_nolex:∀ {l:List V},Toks l→V.noLexs l=true
  | [],_=>rfl
  | v :: l,h=>by
    obtain ⟨k,w,rfl,hp⟩:=h v (.head _)
    show (V.noLexs [.int k,w] && V.noLexs l)=true
    rw [toks_nolex fun v hv=>h v (.tail _ hv)]
    show ((true && (V.noLex w && true)) && true)=true
    rw [pl_nolex hp]
    rfl
end
noncomputable def pfS (f:Addr) (vs:List V):Option V:=match vs with
  | [.tok k w]=>if f=484 then some (.tup [.int k,w]) else none
  | _=>none
theorem shown (n:Nat) {k:Int} {w:V} {lx:Option Lex} {Q:V→Option Lex→Prop} {X:List UInt8→Prop} (q:Q (.tup [.int k,w]) lx):GG (n+1) 484 [.tok k w] lx Q X:=
  (show wpFn (GG n) ["token"] b_law_shown _ _ Q X from ⟨rfl,retE (v:=.tup [.int k,w]) (pf_none _) rfl q⟩)
theorem pfS_ok (n:Nat):PfOk pfS (GG (n+1)):=by
  intro f vs v h lx Q X q
  obtain ⟨k,w,rfl⟩:∃ k w,vs=[.tok k w]:=by
    rcases vs with _ | ⟨w,_ | ⟨_,_⟩⟩
    · cases h
    · cases w <;> first | exact ⟨_,_,rfl⟩ | exact (nS h)
    · cases w <;> exact (nS h)
  rcases Classical.em (f=484) with e | e1
  · subst e; cases h; exact shown n q
  · exact nomatch ((if_neg e1).symm.trans h:Option.none=some v)
section
variable {Γ:Specs} {p:Pf} {e:X} {r:List S} {K:Fl→St→Prop} {Xc:Exc} {st:St} {Q:V→Option Lex→Prop} {X:List UInt8→Prop} {lx:Option Lex}
theorem setFE (hp:PfOk p Γ) {n x:String} {v:V} {l:Lex} (hv:¬ v matches .bufref) (h:evX p st e=some v) (hx:lkL n st.ρ=some (.v .lex)) (hl:st.lx=some l) (hb:x ≠ "buffer") (hs:l.fs.length≤100) (q:wpSs Γ r K Xc ⟨st.ρ,some ⟨setF' x v l.fs,l.buf⟩⟩):wpSs Γ (.setF (.loc n) x e :: r) K Xc st:=by
  rw [s_cons,s_setF]
  refine evX_ok hp _ _ h ?_
  rw [w_loc]
  dsimp only
  rw [hx]
  exact ⟨rfl,hb,hv,l,hl,hs,q⟩
theorem ctext_x (n:Nat) (q:Q (.byt [61,113]) lx):GG (n+1) 166 [.byt [61,113]] lx Q X:=by
  refine (show wpFn (GG n) ["text"] b_c_text _ _ Q X from ⟨rfl,asgE (v:=.int 0) (pf_none _) rfl ?_⟩)
  have hlen:([61,113]:List UInt8).length=2:=rfl
  refine (show wpS (GG n) (.whileS _ _) _ _ _ from ⟨fun st=>∃ a:Nat,a≤2∧st=⟨lcC [61,113] a,lx⟩,fun st=>match lkL "at" st.ρ with | some (.v (.int i))=>2 - i.toNat | _=>0,⟨0,by omega,rfl⟩,fun st' h=>?_⟩)
  obtain ⟨a,h1,rfl⟩:=h
  match a,h1 with
  | 0,_=>
    refine (show wpAnd _ _ _ _ _ from ⟨rfl,by decide,true,rfl,true,rfl,fun ω=>⟨by decide,by decide,by decide,true,rfl,true,rfl,fun ω=>⟨_,rfl,fun ω=>?_,fun e=>(nomatch e)⟩,fun e=>(nomatch e)⟩,fun e=>(nomatch e)⟩)
    exact asgE (v:=.int 1) (pf_none _) rfl ⟨⟨1,by omega,rfl⟩,show 2 - (1:Int).toNat < 2 - (0:Int).toNat by decide⟩
  | 1,_=>
    refine (show wpAnd _ _ _ _ _ from ⟨rfl,by decide,true,rfl,true,rfl,fun ω=>⟨by decide,by decide,by decide,true,rfl,true,rfl,fun ω=>⟨_,rfl,fun ω=>?_,fun e=>(nomatch e)⟩,fun e=>(nomatch e)⟩,fun e=>(nomatch e)⟩)
    exact asgE (v:=.int 2) (pf_none _) rfl ⟨⟨2,by omega,rfl⟩,show 2 - (2:Int).toNat < 2 - (1:Int).toNat by decide⟩
  | 2,_=>
    refine (show wpAnd _ _ _ _ _ from ⟨rfl,by decide,false,rfl,false,rfl,fun e=>(nomatch e),fun ω=>⟨_,rfl,fun e=>(nomatch e),fun ω=>?_⟩⟩)
    exact ⟨[61,113],2,rfl,rfl,by decide,by decide,q⟩
  | a+3,h1=>omega
theorem chunk_x (n:Nat) (q:Q (.byt [113]) lx):GG (n+2) 180 [.byt [61,113],.int 80] lx Q X:=by
  refine (show wpFn (GG (n+1)) ["source","size"] b_chunk_id _ _ Q X from ⟨rfl,?_⟩)
  show wpSs _ (.asg "source" (.call 166 _) :: .ifS _ _ _ :: _) _ _ _
  rw [s_cons,s_asg]
  refine callE (vs:=[.byt [61,113]]) (pf_none _) rfl (ctext_x n ?_)
  show wpSs _ (.ifS _ _ _ :: _) _ _ _
  rw [s_cons,s_ifS]
  exact ⟨[61,113],1,rfl,rfl,by decide,by decide,true,rfl,true,rfl,fun ω=>⟨[61,113],1,80,rfl,rfl,rfl,by decide,by decide,by decide,q⟩,fun e=>(nomatch e)⟩
end
end
noncomputable def out0:Out:=⟨1,.tok 287 .none,.none⟩
noncomputable def core0 (t:List UInt8):Core:=⟨t,0,1,[]⟩
noncomputable def lay (t:List UInt8) (s:Int):List (String × V):=[("text",.byt t),("source",.byt [61,113]),("chunk",.byt [113]),("limits",.lims),("kinds",.kinds),("at",.int 0),("sign",.int s),("line",.int 1),("last_line",.int 1),("buffer",.bufref),("current",.tok 287 .none),("ahead",.none)]
section
variable {Q:V→Option Lex→Prop} {X:List UInt8→Prop} {t:List UInt8}
theorem inv0 (ht:t.length≤1000):Inv (core0 t):=⟨ht,Nat.le_add_left 1 _,Nat.zero_le _⟩
noncomputable def lcI (t:List UInt8):Lc:=[("self",.v .lex),("text",.v (.byt t)),("chunk",.v (.byt [61,113])),("limits",.v .lims)]
theorem init_b (n:Nat) (s:Int) {K:Fl→St→Prop} {Xc:Exc} (q:K .next ⟨lcI t,some ⟨lay t s,some []⟩⟩):wpSs (GG (n+3)) (b_lexer_init.drop 7) K Xc ⟨lcI t,some ⟨(lay t s).take 7,none⟩⟩:=by
  show wpSs _ (.setF _ "line" _ :: .setF _ "last_line" _ :: .clrB _ :: .setF _ "current" _ :: .setF _ "ahead" _ :: []) _ _ _
  refine setFE (v:=.int 1) (pf_none _) (fun e=>by cases e) rfl rfl rfl (by decide) (Nat.le_of_ble_eq_true rfl) ?_
  refine setFE (v:=.int 1) (pf_none _) (fun e=>by cases e) rfl rfl rfl (by decide) (Nat.le_of_ble_eq_true rfl) ?_
  refine (show wpS _ (.clrB _) _ _ _ from ⟨_,rfl,rfl,Nat.le_of_ble_eq_true rfl,rfl,?_⟩)
  refine setFE (v:=.tok 287 .none) (pf_none _) (fun e=>by cases e) rfl rfl rfl (by decide) (Nat.le_of_ble_eq_true rfl) ?_
  refine setFE (v:=.none) (pf_none _) (fun e=>by cases e) rfl rfl rfl (by decide) (Nat.le_of_ble_eq_true rfl) ?_
  exact q
theorem init_a (n:Nat) {K:Fl→St→Prop} {Xc:Exc} (q:wpSs (GG (n+3)) (b_lexer_init.drop 6) K Xc ⟨lcI t,some ⟨(lay t 0).take 6,none⟩⟩):wpSs (GG (n+3)) b_lexer_init K Xc ⟨lcI t,some ⟨[],none⟩⟩:=by
  show wpSs _ (.setF _ "text" _ :: .setF _ "source" _ :: .setF _ "chunk" (.call 180 _) :: .setF _ "limits" _ :: .setF _ "kinds" (.call 238 _) :: .setF _ "at" _ :: _) _ _ _
  refine setFE (v:=.byt t) (pf_none _) (fun e=>by cases e) rfl rfl rfl (by decide) (Nat.le_of_ble_eq_true rfl) ?_
  refine setFE (v:=.byt [61,113]) (pf_none _) (fun e=>by cases e) rfl rfl rfl (by decide) (Nat.le_of_ble_eq_true rfl) ?_
  rw [s_cons,s_setF]
  refine callE (vs:=[.byt [61,113],.int 80]) (pf_none _) rfl (chunk_x (n+1) ?_)
  refine ⟨rfl,by decide,(fun e=>by cases e),_,rfl,Nat.le_of_ble_eq_true rfl,?_⟩
  show wpSs _ (.setF _ "limits" _ :: .setF _ "kinds" (.call 238 _) :: .setF _ "at" _ :: _) _ _ _
  refine setFE (v:=.lims) (pf_none _) (fun e=>by cases e) rfl rfl rfl (by decide) (Nat.le_of_ble_eq_true rfl) ?_
  rw [s_cons,s_setF]
  refine callE (vs:=[]) (pf_none _) rfl ?_
  refine (show spc (GG (n+2)) 238 _ _ _ _ from ⟨rfl,rfl,by decide,(fun e=>by cases e),_,rfl,Nat.le_of_ble_eq_true rfl,?_⟩)
  show wpSs _ (.setF _ "at" _ :: _) _ _ _
  refine setFE (v:=.int 0) (pf_none _) (fun e=>by cases e) rfl rfl rfl (by decide) (Nat.le_of_ble_eq_true rfl) ?_
  exact q
theorem init_ok (n:Nat) (ht:t.length≤1000) (q:Q .none (FL out0 (core0 t))):GG (n+4) 280 [.lex,.byt t,.byt [61,113],.lims] (some ⟨[],none⟩) Q X:=by
  refine (show wpFn (GG (n+3)) ["self","text","chunk","limits"] b_lexer_init _ _ Q X from ⟨rfl,init_a n ?_⟩)
  have q:Q .none (some ⟨lay t (sgn t 0),some []⟩):=q
  have k:∀ s:Int,s=sgn t 0→wpSs (GG (n+3)) (b_lexer_init.drop 7) (fun fl st=>match fl with | .ret v=>Q v st.lx | .next=>Q .none st.lx | .brk=>False) (fun m ω=>X m) ⟨lcI t,some ⟨(lay t s).take 7,none⟩⟩:=fun s hs=>init_b n s (by rw [hs]; exact q)
  show wpSs _ (.setF _ "sign" (.ite (.cmp (.bi "len" [_]) .Gt _) (.idx _ _) _) :: _) _ _ _
  rw [s_cons,s_setF,w_ite]
  refine ⟨rfl,by omega,decide ((t.length:Int) > 0),rfl,_,rfl,fun e=>?_,fun e=>?_⟩
  · have h:0 < t.length:=by have:=of_decide_eq_true e; omega
    exact ⟨by omega,by decide,by omega,rfl,by decide,(fun e=>by cases e),_,rfl,Nat.le_of_ble_eq_true rfl,k _ (if_pos h).symm⟩
  · have h:¬ 0 < t.length:=by have:=of_decide_eq_false e; omega
    exact ⟨rfl,by decide,(fun e=>by cases e),_,rfl,Nat.le_of_ble_eq_true rfl,k _ (if_neg h).symm⟩
end
noncomputable def lcP (t:List UInt8) (l:List V):Lc:=[("text",.v (.byt t)),("lexer",.v .lex),("found",.own l)]
noncomputable def lcA (t:List UInt8) (l:List V):Lc:=[("text",.v (.byt t)),("chunk",.v (.byt [61,113])),("limits",.v .lims),("lexer",.v .lex),("found",.own l)]
noncomputable def lftN (st:St):Nat:=match st.lx with
  | some lx=>match getF "text" lx.fs,getF "at" lx.fs with
    | some (.byt t),some (.int i)=>t.length - i.toNat
    | _,_=>0
  | none=>0
noncomputable def plTest:X:=.cmp (.fld (.mcall (.loc "lexer") 287 []) "kind") .NotEq (.cst (.int 287))
noncomputable def plBody:List S:=[.app "found" (.call 484 [.fld (.loc "lexer") "current"])]
section
variable {t:List UInt8} {l:List V} {e:Option (List UInt8)} {c:Core} {o:Out} {K:Fl→St→Prop} {Xc:Exc}
theorem plain_loop (n:Nat) (hi:Inv c) (hr:Run n c l e) (ho:o.ahead = .none) (hl:l.length≤1000) (hk:e=none→∀ o c,K .next ⟨lcP t l,FL o c⟩) (hx:∀ m,e=some m→Xc m ⟨lcP t l,none⟩):wpS (GG (n+14)) (.whileS plTest plBody) K Xc ⟨lcP t [],FL o c⟩:=by
  refine ⟨fun st=>∃ l1 l2 o c,st=⟨lcP t l1,FL o c⟩∧l1++l2=l∧o.ahead = .none∧Inv c∧Run n c l2 e,lftN,⟨[],l,o,c,rfl,rfl,ho,hi,hr⟩,fun st' h=>?_⟩
  clear hi hr ho
  refine bC fun ng=>?_;obtain ⟨l1,l2,o,c,rfl,h1,ho,hi,hr⟩:=h;refine ng ?_;clear ng
  unfold plTest
  rw [w_cmp,w_fld]
  refine mcallE (vs:=[]) (pf_none _) rfl rfl rfl (next_none n hi ho ?_)
  cases h:rd n c with
  | inr m=>
    obtain ⟨rfl,rfl⟩:=run_stop h hr
    rw [List.append_nil] at h1
    subst h1
    exact hx m rfl
  | inl p=>
    obtain ⟨v,c'⟩:=p
    refine bC fun ng=>?_;obtain ⟨k,w,rfl,hp,hi2,ht,ha,hb,_⟩:=rd_tok hi h;refine ng ?_;clear ng
    refine ⟨.int k,rfl,!(k == 287),rfl,!(k == 287),rfl,fun e2=>?_,fun e2=>?_⟩
    · have hk2:k≠287:=fun q=>by subst q; cases e2
      obtain ⟨l3,rfl,hr2⟩:=run_step h hk2 hr
      refine (show wpS (GG (n+14)) (.app "found" _) _ _ _ from ⟨l1,rfl,evX_ok (pfS_ok (n+13)) _ (.tup [.int k,w]) rfl ⟨l1,rfl,?_,⟨l1++[.tup [.int k,w]],l3,_,c',rfl,?_,rfl,hi2,hr2⟩,?_⟩⟩)
      · have:=congrArg List.length h1; rw [List.length_append] at this; omega
      · rw [List.append_assoc]; exact h1
      · show c'.t.length - c'.at_ < c.t.length - c.at_
        rw [ht]
        have:=hb hk2
        omega
    · have hk2:k=287:=by
        by_cases q:k=287
        · exact q
        · rw [beq_false_of_ne q] at e2; cases e2
      subst hk2
      obtain ⟨rfl,rfl⟩:=run_done h hr
      rw [List.append_nil] at h1
      subst h1
      exact hk rfl _ _
theorem plain_rest (n:Nat) {X:List UInt8→Prop} {K:Fl→St→Prop} (ht:t.length≤1000) (hr:Run n (core0 t) l e) (hl:l.length≤1000) (q:∀ st,K (.ret (.tup [.lst l,.byt (e.getD [])])) st):wpSs (GG (n+14)) b_law_plain.tail K (fun m ω=>X m) ⟨lcP t [],FL out0 (core0 t)⟩:=by
  show wpSs (GG (n+14)) (.tryR [.whileS plTest plBody] "refusal" (.tup [(.loc "found"),(.fld (.loc "refusal") "value")]) :: [.ret (.tup [(.loc "found"),(.cst (.byt []))])]) _ _ _
  rw [s_cons,s_tryR,s_cons]
  refine plain_loop n (inv0 ht) hr rfl hl (fun he o c=>?_) fun m he=>?_
  · subst he
    show wpSs (GG (n+14)) [.ret (.tup [(.loc "found"),(.cst (.byt []))])] K (fun m ω=>X m) ⟨lcP t l,FL o c⟩
    rw [s_cons,s_ret,w_tup,w_cons,w_loc]
    exact ⟨Nat.le_of_ble_eq_true rfl,q _⟩
  · subst he
    refine ⟨rfl,?_⟩
    rw [w_tup,w_cons,w_loc]
    exact ⟨.byt m,rfl,Nat.le_of_ble_eq_true rfl,q _⟩
theorem plain_ok (n:Nat) {Q:V→Option Lex→Prop} {X:List UInt8→Prop} (ht:t.length≤1000) (hr:Run n (core0 t) l e) (hl:l.length≤1000) (q:Q (.tup [.lst l,.byt (e.getD [])]) none):GG (n+15) 491 [.byt t] none Q X:=by
  have nl:V.noLex (.tup [.lst l,.byt (e.getD [])])=true:=by
    show (V.noLexs l && (true && true))=true
    rw [toks_nolex (run_toks (inv0 ht) hr)]; rfl
  have k:=plain_rest n (X:=X) (K:=fun fl ω=>match fl with | .ret v=>V.noLex v=true∧Q v none | _=>False) ht hr hl fun ω=>⟨nl,q⟩
  refine (show wpNew (GG (n+14)) ["text"] a_law m_two b_law_plain.tail _ _ _ _ from ⟨rfl,rfl,rfl,?_⟩)
  exact (show wpX (GG (n+14)) (.loc "text") _ _ _ from ⟨rfl,rfl,init_ok (n+10) ht ⟨rfl,k⟩⟩)
noncomputable def lcTk (t:List UInt8) (l:List V) (k:Int) (w:V):Lc:=[("text",.v (.byt t)),("chunk",.v (.byt [61,113])),("limits",.v .lims),("lexer",.v .lex),("found",.own l),("token",.v (.tok k w))]
noncomputable def alTest:X:=.cmp (.fld (.loc "token") "kind") .NotEq (.cst (.int 287))
noncomputable def alBody:List S:=[.app "found" (.tup [(.fld (.loc "token") "kind"),(.fld (.loc "token") "value")]),.asg "token" (.mcall (.loc "lexer") 287 [])]
noncomputable def lftT (st:St):Nat:=2 * lftN st+match lkL "token" st.ρ with
  | some (.v (.tok k _))=>if k=287 then 0 else 1
  | _=>0
theorem lftT_eq {t:List UInt8} {l:List V} {k:Int} {w:V} {o:Out} {c:Core}:lftT ⟨lcTk t l k w,FL o c⟩=2 * (c.t.length - c.at_)+if k=287 then 0 else 1:=rfl
def After (n:Nat) (c:Core) (k:Int) (w:V) (l:List V) (e:Option (List UInt8)):Prop:=Pl w∧((k=287∧l=[]∧e=none)∨(k≠287∧∃ l',l = .tup [.int k,w] :: l'∧Run n c l' e))
theorem after_of {n:Nat} {c':Core} (hi:Inv c) {k:Int} {w:V} (h:rd n c = .inl (.tok k w,c')) (hr:Run n c l e):After n c' k w l e:=by
  obtain ⟨_,_,h1,hp,_⟩:=rd_tok hi h
  cases h1
  refine ⟨hp,?_⟩
  by_cases q:k=287
  · subst q; exact .inl ⟨rfl,run_done h hr⟩
  · exact .inr ⟨q,run_step h q hr⟩
theorem all_loop (n:Nat) {k:Int} {w:V} (hi:Inv c) (ha:After n c k w l e) (ho:o.ahead = .none) (hl:l.length≤1000) (hk:e=none→∀ o c w,K .next ⟨lcTk t l 287 w,FL o c⟩) (hx:∀ m,e=some m→∀ ρ,Xc m ⟨ρ,none⟩):wpS (GG (n+14)) (.whileS alTest alBody) K Xc ⟨lcTk t [] k w,FL o c⟩:=by
  rw [s_whileS]
  refine ⟨fun st=>∃ l1 l2 o c k w,st=⟨lcTk t l1 k w,FL o c⟩∧l1++l2=l∧o.ahead = .none∧Inv c∧After n c k w l2 e,lftT,⟨[],l,o,c,k,w,rfl,rfl,ho,hi,ha⟩,fun st' h=>?_⟩
  clear hi ha ho
  refine bC fun ng=>?_;obtain ⟨l1,l2,o,c,k,w,rfl,h1,ho,hi,ha⟩:=h;refine ng ?_;clear ng
  unfold alTest
  obtain ⟨hp,⟨rfl,rfl,rfl⟩ | ⟨hk2,l3,rfl,hr⟩⟩:=ha
  · rw [List.append_nil] at h1
    subst h1
    exact evX_ok (pf_none _) _ (.bool false) rfl ⟨false,rfl,fun e=>(nomatch e),fun ω=>hk rfl _ _ _⟩
  · refine evX_ok (pf_none _) _ (.bool (!(k == 287))) rfl ⟨_,rfl,fun ω=>?_,fun e2=>by rw [beq_false_of_ne hk2] at e2; cases e2⟩
    unfold alBody
    rw [s_cons,s_app]
    refine ⟨l1,rfl,evX_ok (pf_none _) _ (.tup [.int k,w]) rfl ⟨l1,rfl,?_,?_⟩⟩
    · have:=congrArg List.length h1; rw [List.length_append] at this; omega
    dsimp only
    rw [s_cons,s_asg]
    refine mcallE (vs:=[]) (pf_none _) rfl rfl rfl (next_none n hi ho ?_)
    cases h:rd n c with
    | inr m=>
      obtain ⟨rfl,rfl⟩:=run_stop h hr
      exact hx m rfl _
    | inl p=>
      obtain ⟨v,c'⟩:=p
      refine bC fun ng=>?_;obtain ⟨k2,w2,rfl,hp2,hi2,ht,ha,hb,hz⟩:=rd_tok hi h;refine ng ?_;clear ng
      refine ⟨⟨l1++[.tup [.int k,w]],l3,_,c',k2,w2,rfl,by rw [List.append_assoc]; exact h1,rfl,hi2,after_of hi h hr⟩,?_⟩
      show lftT ⟨lcTk t (l1++[.tup [.int k,w]]) k2 w2,FL _ c'⟩ < lftT ⟨lcTk t l1 k w,FL o c⟩
      rw [lftT_eq,lftT_eq,ht,if_neg hk2]
      by_cases q:k2=287
      · rw [if_pos q]; omega
      · rw [if_neg q]; have:=hb q; omega
theorem all_rest (n:Nat) {X:List UInt8→Prop} {K:Fl→St→Prop} (ht:t.length≤1000) (hr:Run n (core0 t) l e) (hl:l.length≤1000) (q:e=none→∀ st,K (.ret (.lst l)) st) (hx:∀ m,e=some m→X m):wpSs (GG (n+14)) b_all_tokens.tail K (fun m ω=>X m) ⟨lcA t [],FL out0 (core0 t)⟩:=by
  show wpSs (GG (n+14)) [.asg "token" (.mcall (.loc "lexer") 287 []),.whileS alTest alBody,.ret (.loc "found")] _ _ _
  rw [s_cons,s_asg]
  refine mcallE (vs:=[]) (pf_none _) rfl rfl rfl (next_none n (inv0 ht) rfl ?_)
  cases h:rd n (core0 t) with
  | inr m=>exact hx m (run_stop h hr).2
  | inl p=>
    obtain ⟨v,c'⟩:=p
    obtain ⟨k,w,rfl,_,hi2,_⟩:=rd_tok (inv0 ht) h
    show wpSs (GG (n+14)) [.whileS alTest alBody,.ret (.loc "found")] K (fun m ω=>X m) ⟨lcTk t [] k w,FL _ c'⟩
    rw [s_cons]
    refine all_loop n hi2 (after_of (inv0 ht) h hr) rfl hl (fun he o c w=>?_) fun m he ω=>hx m he
    show wpSs (GG (n+14)) [.ret (.loc "found")] K (fun m ω=>X m) ⟨lcTk t l 287 w,FL o c⟩
    rw [s_cons,s_ret,w_loc]
    exact q he _
theorem all_ok (n:Nat) {Q:V→Option Lex→Prop} {X:List UInt8→Prop} (ht:t.length≤1000) (hr:Run n (core0 t) l e) (hl:l.length≤1000) (q:e=none→Q (.lst l) none) (hx:∀ m,e=some m→X m):GG (n+15) 476 [.byt t,.byt [61,113],.lims] none Q X:=by
  have nl:V.noLex (.lst l)=true:=toks_nolex (run_toks (inv0 ht) hr)
  have k:=all_rest n (X:=X) (K:=fun fl ω=>match fl with | .ret v=>V.noLex v=true∧Q v none | _=>False) ht hr hl (fun he ω=>⟨nl,q he⟩) hx
  refine (show wpNew (GG (n+14)) ["text","chunk","limits"] a_all m_two b_all_tokens.tail _ _ _ _ from ⟨rfl,rfl,rfl,?_⟩)
  exact (show wpX (GG (n+14)) (.loc "text") _ _ _ from ⟨rfl,rfl,init_ok (n+10) ht ⟨rfl,k⟩⟩)
end
section
variable {p:Pf} {st:St} {x:String} {e a b:X} {u v:V} {n:String}
theorem ev_loc (h:lkL x st.ρ=some (.v v)):evX p st (.loc x)=some v:=by
  show vLocal (lkL x st.ρ)=_
  rw [h]; rfl
theorem ev_fld (h:evX p st e=some u) (h2:attrV u n st.lx=some v):evX p st (.fld e n)=some v:=by
  show (evX p st e).bind (fun v=>attrV v n st.lx)=_
  rw [h]; exact h2
theorem ev_cmp {op:CmpOp} {r:Bool} (h:evX p st a=some u) (h2:evX p st b=some v) (h3:cmpV op u v=some r):evX p st (.cmp a op b)=some (.bool r):=by
  show (evX p st a).bind (fun x=>(evX p st b).bind fun y=>(cmpV op x y).map V.bool)=_
  rw [h,h2]
  show (cmpV op u v).map _=_
  rw [h3]; rfl
theorem ev_call {f:Addr} (h:evX p st e=some u) (h2:p f [u]=some v):evX p st (.call f [e])=some v:=by
  show ((evX p st e).bind fun v=>(some []).map (v :: ·)).bind (p f)=_
  rw [h]; exact h2
end
theorem go_inl {α:Type} {p:α × Core} {k:α→Core→Prop} {X:List UInt8→Prop}:Rs.go (.inl p) k X=k p.1 p.2:=rfl
structure En (ρ:Lc) (l:List V) (T:Nat) (ls:List Int):Prop where
  lx:lkL "lexer" ρ=some (.v .lex)
  fd:lkL "found" ρ=some (.own l)
  tn:lkL "turn" ρ=some (.v (.int T))
  lk:lkL "looks" ρ=some (.v (.lst (ls.map .int)))
theorem lk_ne {x y:String} {l:LV} {ρ:Lc} (h:y≠x):lkL y (setL x l ρ)=lkL y ρ:=by rw [lkL_setL,if_neg h]
theorem lk_eq {x:String} {l:LV} {ρ:Lc}:lkL x (setL x l ρ)=some l:=by rw [lkL_setL,if_pos rfl]
theorem En.set {ρ:Lc} {l:List V} {T:Nat} {ls:List Int} (h:En ρ l T ls) {x:String} {v:LV} (h1 : "lexer" ≠ x) (h2 : "found" ≠ x) (h3 : "turn" ≠ x) (h4 : "looks" ≠ x):En (setL x v ρ) l T ls:=
  ⟨(lk_ne h1).trans h.lx,(lk_ne h2).trans h.fd,(lk_ne h3).trans h.tn,(lk_ne h4).trans h.lk⟩
noncomputable def pkN:X:=.bin .Mod (.idx (.loc "looks") (.bin .Mod (.loc "turn") (.bi "len" [(.loc "looks")]))) (.cst (.int 4))
noncomputable def pkBody:List S:=[.app "seen" (.call 484 [(.mcall (.loc "lexer") 294 [])])]
section
variable {ρ:Lc} {l:List V} {T:Nat} {ls:List Int} {c:Core} {o:Out} {K:Fl→St→Prop} {Xc:Exc} {bef:V}
theorem pk_n {Γ:Specs} {lx:Option Lex} (he:En ρ l T ls) (hne:ls≠[]) (hl:ls.length≤1000) {Q:Post} (q:∀ k:Nat,k < 4→Q (.int k) ⟨ρ,lx⟩):wpX Γ pkN Q Xc ⟨ρ,lx⟩:=by
  have h0:0 < ls.length:=List.length_pos_iff.mpr hne
  unfold pkN
  rw [w_bin,w_idx,w_loc]
  dsimp only
  rw [he.lk]
  dsimp only
  rw [w_bin,w_loc]
  dsimp only
  rw [he.tn]
  dsimp only
  rw [w_bi,w_cons,w_loc]
  dsimp only
  rw [he.lk]
  dsimp only
  rw [w_nil]
  have hm:(ls.map V.int).length=ls.length:=List.length_map ..
  refine .inl ⟨rfl,by rw [hm]; omega,(show binV .Mod (.int T) (.int (ls.map V.int).length) _ from ⟨by rw [hm]; omega,by rw [hm]; omega,?_⟩)⟩
  rw [hm]
  have h1:0≤(T:Int).fmod (ls.length:Int):=Int.fmod_nonneg_of_pos _ (by omega)
  have h2:(T:Int).fmod (ls.length:Int) < ls.length:=Int.fmod_lt_of_pos _ (by omega)
  refine (show idxV (.lst (ls.map V.int)) (.int _) _ from ⟨h1,by rw [hm]; exact h2,by rw [hm]; omega,?_⟩)
  have hx:∃ y:Int,(ls.map V.int).getD ((T:Int).fmod (ls.length:Int)).toNat .none = .int y:=by
    have h3:((T:Int).fmod (ls.length:Int)).toNat < (ls.map V.int).length:=by rw [hm]; omega
    refine ⟨ls[((T:Int).fmod (ls.length:Int)).toNat]'(by rw [hm] at h3; exact h3),?_⟩
    rw [List.getD_eq_getElem?_getD,List.getElem?_eq_getElem h3,List.getElem_map]; rfl
  obtain ⟨y,hy⟩:=hx
  rw [hy]
  dsimp only
  rw [w_cst]
  have h4:0≤y.fmod 4:=Int.fmod_nonneg_of_pos _ (by omega)
  have h5:y.fmod 4 < 4:=Int.fmod_lt_of_pos _ (by omega)
  refine (show binV .Mod (.int y) (.int 4) _ from ⟨by decide,by decide,?_⟩)
  have h6:=q (y.fmod 4).toNat (by omega)
  rw [Int.toNat_of_nonneg h4] at h6
  exact h6
theorem look_for (n:Nat) (he:En ρ l T ls) (hi:Inv c) (ho:o.ahead = .none) (hs:lkL "seen" ρ=some (.own [])) (hb:lkL "before" ρ=some (.v bef)) (hne:ls≠[]) (hl:ls.length≤1000)
    (hx:∀ m,rd n c = .inr m→∀ ρ',En ρ' l T ls→Xc m ⟨ρ',none⟩)
    (q1:∀ ρ',En ρ' l T ls→lkL "before" ρ'=some (.v bef)→lkL "seen" ρ'=some (.own [])→K .next ⟨ρ',FL o c⟩)
    (q2:∀ ρ' i k w c',En ρ' l T ls→lkL "before" ρ'=some (.v bef)→rd n c = .inl (.tok k w,c')→i≤4→lkL "seen" ρ'=some (.own (List.replicate i (.tup [.int k,w])))→K .next ⟨ρ',FL ⟨o.last,o.cur,.tok k w⟩ c'⟩) :
    wpS (GG (n+14)) (.forR "again" pkN pkBody) K Xc ⟨ρ,FL o c⟩:=by
  rw [s_forR]
  refine pk_n he hne hl fun j hj=>?_
  refine ⟨j,fun i st=>∃ ρ',En ρ' l T ls∧lkL "before" ρ'=some (.v bef)∧((i=0∧lkL "seen" ρ'=some (.own [])∧st=⟨ρ',FL o c⟩)∨∃ k w c',rd n c = .inl (.tok k w,c')∧lkL "seen" ρ'=some (.own (List.replicate i (.tup [.int k,w])))∧st=⟨ρ',FL ⟨o.last,o.cur,.tok k w⟩ c'⟩),rfl,by omega,⟨ρ,he,hb,.inl ⟨rfl,hs,rfl⟩⟩,fun i st' hij h=>?_,fun st' h=>?_⟩
  · obtain ⟨ρ',he',hb',h⟩:=h
    unfold pkBody
    rw [s_cons,s_app]
    have he2:=he'.set (x:="again") (v:=.v (.int i)) (by decide) (by decide) (by decide) (by decide)
    have hb2:=(lk_ne (x:="again") (l:=.v (.int i)) (by decide : "before" ≠ "again")).trans hb'
    rcases h with ⟨rfl,hs',rfl⟩ | ⟨k,w,c',hr,hs',rfl⟩
    · have hs2:=(lk_ne (x:="again") (l:=.v (.int (0:Nat))) (by decide : "seen" ≠ "again")).trans hs'
      refine ⟨[],hs2,?_⟩
      rw [w_call,w_cons]
      refine mcallE (vs:=[]) (pf_none _) he2.lx rfl rfl (look_none n hi ho ?_)
      cases h:rd n c with
      | inr m=>exact hx m h _ he2
      | inl p=>
        obtain ⟨v,c'⟩:=p
        obtain ⟨k,w,rfl,_⟩:=rd_tok hi h
        rw [go_inl]
        dsimp only
        rw [w_nil]
        dsimp only
        refine shown (n+13) ?_
        refine ⟨[],hs2,by decide,?_⟩
        rw [s_nil]
        exact ⟨_,he2.set (by decide) (by decide) (by decide) (by decide),(lk_ne (by decide)).trans hb2,.inr ⟨k,w,c',rfl,lk_eq,rfl⟩⟩
    · have hs2:=(lk_ne (x:="again") (l:=.v (.int i)) (by decide : "seen" ≠ "again")).trans hs'
      refine ⟨_,hs2,?_⟩
      rw [w_call,w_cons]
      refine mcallE (vs:=[]) (pf_none _) he2.lx rfl rfl (look_some n (k:=k) (u:=w) rfl ?_)
      rw [w_nil]
      refine shown (n+13) ?_
      refine ⟨_,hs2,by rw [List.length_replicate]; omega,?_⟩
      dsimp only
      rw [s_nil]
      refine ⟨_,he2.set (by decide) (by decide) (by decide) (by decide),(lk_ne (by decide)).trans hb2,.inr ⟨k,w,c',hr,lk_eq.trans ?_,rfl⟩⟩
      rw [List.replicate_succ']
  · obtain ⟨ρ',he',hb',h⟩:=h
    rcases h with ⟨rfl,hs',rfl⟩ | ⟨k,w,c',hr,hs',rfl⟩
    · exact q1 _ he' hb' hs'
    · exact q2 _ j k w c' he' hb' hr (by omega) hs'
end
noncomputable def pkTail:List S:=[
  .ifS (.orE [(.cmp (.loc "token") .NotEq (.call 484 [(.fld (.loc "lexer") "current")])),(.cmp (.filtNe "seen" "token" "one") .NotEq (.lstD []))]) [.ret (.cst .none)] [],
  .ifS (.cmp (.idx (.loc "token") (.cst (.int 0))) .NotEq (.cst (.int 287))) [.app "found" (.loc "token")] [],
  .asg "turn" (.bin .Add (.loc "turn") (.cst (.int 1)))]
noncomputable def pkMid:List S:=.ifS (.cmp (.call 484 [(.fld (.loc "lexer") "current")]) .NotEq (.loc "before")) [.ret (.cst .none)] [] :: .asg "token" (.call 484 [(.mcall (.loc "lexer") 287 [])]) :: pkTail
noncomputable def pkAll:List S:=.asgT ["before","seen"] [(.e (.call 484 [(.fld (.loc "lexer") "current")])),.nil] :: .forR "again" pkN pkBody :: pkMid
theorem ev_bin {p:Pf} {st:St} {a b:X} {u v r:V} {op:Operator} (h:evX p st a=some u) (h2:evX p st b=some v) (h3:evB op u v=some r):evX p st (.bin op a b)=some r:=by
  show (evX p st a).bind (fun x=>(evX p st b).bind fun y=>evB op x y)=_
  rw [h,h2]; exact h3
theorem tok_ne {w:V} (h:Pl w) (k:Int):cmpV .NotEq (.tup [.int k,w]) (.tup [.int k,w])=some false:=by
  show (eqN 6 _ _).map (!·)=_
  rw [tup_eq h]; rfl
section
variable {ρ:Lc} {l:List V} {T:Nat} {ls:List Int} {c c':Core} {o:Out} {K:Fl→St→Prop} {Xc:Exc} {k:Int} {w:V} {la:Nat}
noncomputable def grown (l:List V) (k:Int) (w:V):List V:=if k=287 then l else l++[.tup [.int k,w]]
theorem pk_tail (n:Nat) (he:En ρ l T ls) (hp:Pl w) (htk:lkL "token" ρ=some (.v (.tup [.int k,w]))) {i:Nat} (hs:lkL "seen" ρ=some (.own (List.replicate i (.tup [.int k,w])))) (hi:i≤4) (hl:l.length≤1000)
    (q:∀ ρ',En ρ' (grown l k w) (T+1) ls→K .next ⟨ρ',FL ⟨la,.tok k w,.none⟩ c'⟩):wpSs (GG (n+14)) pkTail K Xc ⟨ρ,FL ⟨la,.tok k w,.none⟩ c'⟩:=by
  have htk2:=(lk_ne (x:="seen") (l:=.v (.lst (List.replicate i (.tup [.int k,w])))) (by decide : "token" ≠ "seen")).trans htk
  have he2:=he.set (x:="seen") (v:=.v (.lst (List.replicate i (.tup [.int k,w])))) (by decide) (by decide) (by decide) (by decide)
  unfold pkTail
  rw [s_cons,s_ifS,w_orE,w_orC]
  refine evX_ok (pfS_ok (n+13)) _ _ (ev_cmp (ev_loc htk) (ev_call (ev_fld (ev_loc he.lx) rfl) rfl) (tok_ne hp k)) ⟨false,rfl,fun ω=>?_,fun e=>(nomatch e)⟩
  rw [w_orC,w_cmp]
  refine ⟨i,k,w,hs,htk,pl_eq hp 5,by omega,?_⟩
  dsimp only
  rw [w_lstD,w_nil]
  refine ⟨by decide,false,rfl,false,rfl,fun ω=>?_,fun e=>(nomatch e)⟩
  rw [w_orN]
  refine ⟨false,rfl,fun e=>(nomatch e),fun ω=>?_⟩
  rw [s_nil]
  dsimp only
  rw [s_cons,s_ifS,w_cmp,w_idx,w_loc]
  dsimp only
  rw [htk2]
  dsimp only
  rw [w_cst]
  refine ⟨by decide,(by decide:(0:Int) < (2:Nat)),(by decide:2 < 1000),?_⟩
  show wpX _ (.cst _) (fun vb st=>∃ r,cmpV .NotEq (.int k) vb=some r∧_) _ _
  rw [w_cst]
  have fin:∀ {ρ':Lc},En ρ' (grown l k w) T ls→wpSs (GG (n+14)) [.asg "turn" (.bin .Add (.loc "turn") (.cst (.int 1)))] K Xc ⟨ρ',FL ⟨la,.tok k w,.none⟩ c'⟩:=fun {ρ'} h=>by
    refine asgE (v:=.int ((T+1:Nat):Int)) (pf_none _) (ev_bin (ev_loc h.tn) rfl rfl) ?_
    rw [s_nil]
    exact q _ ⟨(lk_ne (by decide)).trans h.lx,(lk_ne (by decide)).trans h.fd,lk_eq,(lk_ne (by decide)).trans h.lk⟩
  refine ⟨!(k == 287),rfl,!(k == 287),rfl,fun e=>?_,fun e=>?_⟩
  · have hk:k≠287:=fun q=>by subst q; cases e
    rw [s_cons,s_app]
    refine ⟨l,he2.fd,?_⟩
    rw [w_loc]
    dsimp only
    rw [htk2]
    refine ⟨l,he2.fd,by omega,?_⟩
    rw [s_nil]
    refine fin (ρ':=setL "found" _ _) ⟨(lk_ne (by decide)).trans he2.lx,lk_eq.trans ?_,(lk_ne (by decide)).trans he2.tn,(lk_ne (by decide)).trans he2.lk⟩
    show _=some (LV.own (if k=287 then l else l++[.tup [.int k,w]]))
    rw [if_neg hk]
  · have hk:k=287:=by
      by_cases q:k=287
      · exact q
      · rw [beq_false_of_ne q] at e; cases e
    rw [s_nil]
    refine fin ⟨he2.lx,he2.fd.trans ?_,he2.tn,he2.lk⟩
    show _=some (LV.own (if k=287 then l else l++[.tup [.int k,w]]))
    rw [if_pos hk]
theorem pk_turn (n:Nat) {k0:Int} {w0:V} (he:En ρ l T ls) (hi:Inv c) (ho:o.ahead = .none) (hcu:o.cur = .tok k0 w0) (hp0:Pl w0) (hne:ls≠[]) (hls:ls.length≤1000) (hl:l.length≤1000)
    (hx:∀ m,rd n c = .inr m→∀ ρ',En ρ' l T ls→Xc m ⟨ρ',none⟩)
    (hk:∀ k w c',rd n c = .inl (.tok k w,c')→∀ ρ' la,En ρ' (grown l k w) (T+1) ls→K .next ⟨ρ',FL ⟨la,.tok k w,.none⟩ c'⟩):wpSs (GG (n+14)) pkAll K Xc ⟨ρ,FL o c⟩:=by
  obtain ⟨la,cu,ah⟩:=o
  cases ho
  cases hcu
  unfold pkAll
  rw [s_cons,s_asgT,i_e]
  refine evX_ok (pfS_ok (n+13)) _ _ (ev_call (ev_fld (ev_loc he.lx) rfl) rfl) ?_
  rw [i_n,i_nil]
  dsimp only
  have he1:En (setAll ["before","seen"] [.v (.tup [.int k0,w0]),.own []] ρ) l T ls:=(he.set (x:="before") (v:=.v (.tup [.int k0,w0])) (by decide) (by decide) (by decide) (by decide)).set (x:="seen") (v:=.own []) (by decide) (by decide) (by decide) (by decide)
  have hs1:lkL "seen" (setAll ["before","seen"] [.v (.tup [.int k0,w0]),.own []] ρ)=some (.own []):=lk_eq
  have hb1:lkL "before" (setAll ["before","seen"] [.v (.tup [.int k0,w0]),.own []] ρ)=some (.v (.tup [.int k0,w0])):=(lk_ne (by decide)).trans lk_eq
  generalize setAll ["before","seen"] [.v (.tup [.int k0,w0]),.own []] ρ=ρ1 at he1 hs1 hb1
  have tl:∀ {ρ':Lc} {i:Nat} {k:Int} {w:V} {c':Core} {la:Nat},En ρ' l T ls→rd n c = .inl (.tok k w,c')→lkL "seen" ρ'=some (.own (List.replicate i (.tup [.int k,w])))→i≤4→wpSs (GG (n+14)) pkTail K Xc ⟨setL "token" (.v (.tup [.int k,w])) ρ',FL ⟨la,.tok k w,.none⟩ c'⟩:=fun {ρ' i k w c' la} h1 h2 h3 h4=>by
    refine bC fun ng=>?_;obtain ⟨_,_,h5,hp,_⟩:=rd_tok hi h2;refine ng ?_;clear ng
    cases h5
    exact pk_tail n (h1.set (by decide) (by decide) (by decide) (by decide)) hp lk_eq ((lk_ne (by decide)).trans h3) h4 hl fun ρ2 h6=>hk k w c' h2 ρ2 _ h6
  have md:∀ {ρ':Lc} {o:Out} {c':Core},En ρ' l T ls→lkL "before" ρ'=some (.v (.tup [.int k0,w0]))→o.cur = .tok k0 w0→wpS (GG (n+14)) (.asg "token" (.call 484 [(.mcall (.loc "lexer") 287 [])])) (fun fl st=>match fl with | .next=>wpSs (GG (n+14)) pkTail K Xc st | fl=>K fl st) Xc ⟨ρ',FL o c'⟩→wpSs (GG (n+14)) pkMid K Xc ⟨ρ',FL o c'⟩:=fun {ρ' o c'} h1 h2 h3 h4=>by
    obtain ⟨la,cu,ah⟩:=o
    cases h3
    unfold pkMid
    refine ifE (pfS_ok (n+13)) false (ev_cmp (ev_call (ev_fld (ev_loc h1.lx) rfl) rfl) (ev_loc h2) (tok_ne hp0 k0)) ?_
    show wpSs _ (_ :: pkTail) _ _ _
    rw [s_cons]
    exact h4
  rw [s_cons]
  refine look_for n he1 hi rfl hs1 hb1 hne hls hx (fun ρ' h1 h2 h3=>?_) fun ρ' i k w c' h1 h2 h3 h4 h5=>?_
  · refine md h1 h2 rfl ?_
    rw [s_asg,w_call,w_cons]
    refine mcallE (vs:=[]) (pf_none _) h1.lx rfl rfl (next_none n hi rfl ?_)
    cases h:rd n c with
    | inr m=>exact hx m h _ h1
    | inl p=>
      obtain ⟨v,c'⟩:=p
      obtain ⟨k,w,rfl,_⟩:=rd_tok hi h
      rw [go_inl]
      dsimp only
      rw [w_nil]
      dsimp only
      refine shown (n+13) ?_
      exact tl (i:=0) h1 h h3 (by decide)
  · refine md h1 h2 rfl ?_
    rw [s_asg,w_call,w_cons]
    refine mcallE (vs:=[]) (pf_none _) h1.lx rfl rfl (next_some n (k:=k) (u:=w) rfl ?_)
    rw [w_nil]
    dsimp only
    refine shown (n+13) ?_
    exact tl h1 h3 h5 h4
end
noncomputable def pkTest:X:=.orE [(.cmp (.loc "turn") .Eq (.cst (.int 0))),(.cmp (.fld (.fld (.loc "lexer") "current") "kind") .NotEq (.cst (.int 287)))]
theorem ev_or2 {p:Pf} {st:St} {a b:X} {x y:Bool} (h:evX p st a=some (.bool x)) (h2:evX p st b=some (.bool y)):evX p st (.orE [a,b])=some (.bool (x || (y || false))):=by
  show ((evX p st a).bind fun v=>((evX p st b).bind fun v=>(some []).map (v :: ·)).map (v :: ·)).bind (fun vs=>(evOr vs).map V.bool)=_
  rw [h,h2]; rfl
noncomputable def runB (i:Option LV) (v:Option V):Bool:=match i,v with
  | some (.v (.int i)),some (.tok k _)=>i == 0 || (!(k == 287) || false)
  | _,_=>false
noncomputable def lftW (st:St):Nat:=2 * lftN st+if runB (lkL "turn" st.ρ) (st.lx.bind fun lx=>getF "current" lx.fs)=true then 1 else 0
section
variable {ρ:Lc} {l:List V} {T:Nat} {ls:List Int} {c c':Core} {o:Out} {K:Fl→St→Prop} {Xc:Exc} {k:Int} {w:V} {la:Nat} {e:Option (List UInt8)}
theorem lftW_eq {ah:V} (he:En ρ l T ls):lftW ⟨ρ,FL ⟨la,.tok k w,ah⟩ c⟩=2 * (c.t.length - c.at_)+if ((T:Int) == 0 || (!(k == 287) || false))=true then 1 else 0:=by
  show 2 * (c.t.length - c.at_)+(if runB (lkL "turn" ρ) (some (.tok k w))=true then 1 else 0)=_
  rw [he.tn]; rfl
theorem pk_loop (n:Nat) (hne:ls≠[]) (hls:ls.length≤1000) (hl:l.length≤1000) (he:En ρ [] 0 ls) (hi:Inv c) (hr:Run n c l e)
    (hx:∀ m,e=some m→∀ ρ T,En ρ l T ls→Xc m ⟨ρ,none⟩)
    (hk:e=none→∀ ρ T o c,En ρ l T ls→o.ahead = .none→Inv c→sg c = -1→K .next ⟨ρ,FL o c⟩):wpS (GG (n+14)) (.whileS pkTest pkAll) K Xc ⟨ρ,FL out0 c⟩:=by
  rw [s_whileS]
  refine ⟨fun st=>∃ l1 l2 ρ T la k0 w0 c,st=⟨ρ,FL ⟨la,.tok k0 w0,.none⟩ c⟩∧En ρ l1 T ls∧Pl w0∧Inv c∧(((T=0∨k0≠287)∧Run n c l2 e∧l1++l2=l)∨(T≠0∧k0=287∧l1=l∧e=none∧sg c = -1)),lftW,⟨[],l,ρ,0,1,287,.none,c,rfl,he,.inl rfl,hi,.inl ⟨.inl rfl,hr,rfl⟩⟩,fun st' h=>?_⟩
  clear he hi hr
  refine bC fun ng=>?_;obtain ⟨l1,l2,ρ,T,la,k0,w0,c,rfl,he,hp0,hi,h⟩:=h;refine ng ?_;clear ng
  unfold pkTest
  refine evX_ok (pfS_ok (n+13)) _ _ (ev_or2 (x:=(T:Int) == 0) (y:=!(k0 == 287)) (ev_cmp (ev_loc he.tn) rfl rfl) (ev_cmp (ev_fld (ev_fld (ev_loc he.lx) rfl) rfl) rfl rfl)) ⟨_,rfl,fun e2=>?_,fun e2=>?_⟩
  · rcases h with ⟨_,hr,h1⟩ | ⟨h1,rfl,_⟩
    · have hl1:l1.length≤1000:=by have:=congrArg List.length h1; rw [List.length_append] at this; omega
      refine pk_turn n he hi rfl rfl hp0 hne hls hl1 (fun m hm ρ' he'=>?_) fun k w c' hr2 ρ' la' he'=>?_
      · obtain ⟨rfl,h3⟩:=run_stop hm hr
        rw [List.append_nil] at h1
        subst h1
        exact hx m h3 ρ' T he'
      · refine bC fun ng=>?_;obtain ⟨_,_,h5,hp,hi2,ht,ha,hb,hz⟩:=rd_tok hi hr2;refine ng ?_;clear ng
        cases h5
        by_cases hk2:k=287
        · subst hk2
          obtain ⟨rfl,h3⟩:=run_done hr2 hr
          rw [List.append_nil] at h1
          have he':En ρ' l1 (T+1) ls:=he'
          refine ⟨⟨l1,[],ρ',T+1,la',287,w,c',rfl,he',hp,hi2,.inr ⟨by omega,rfl,h1,h3,(hz rfl).2⟩⟩,?_⟩
          rw [lftW_eq he',lftW_eq he,if_pos e2,if_neg,ht]
          · omega
          · rw [beq_false_of_ne (by omega)]; decide
        · obtain ⟨l3,rfl,hr3⟩:=run_step hr2 hk2 hr
          have he':En ρ' (if k=287 then l1 else l1++[.tup [.int k,w]]) (T+1) ls:=he'
          rw [if_neg hk2] at he'
          refine ⟨⟨_,l3,ρ',T+1,la',k,w,c',rfl,he',hp,hi2,.inl ⟨.inr hk2,hr3,by rw [List.append_assoc]; exact h1⟩⟩,?_⟩
          rw [lftW_eq he',lftW_eq he,if_pos e2,ht]
          have:=hb hk2
          split <;> omega
    · rw [beq_false_of_ne (by omega)] at e2; cases e2
  · rcases h with ⟨h2,_,_⟩ | ⟨h1,rfl,rfl,h3,h4⟩
    · rcases h2 with rfl | h2
      · cases e2
      · rw [beq_false_of_ne h2,Bool.or_eq_false_iff] at e2; cases e2.2
    · exact hk h3 ρ T _ c he rfl hi h4
end
noncomputable def pkEnd:List S:=[.expr (.mcall (.loc "lexer") 294 []),.ret (.ite (.andE [(.cmp (.fld (.mcall (.loc "lexer") 287 []) "kind") .Eq (.cst (.int 287))),(.cmp (.fld (.mcall (.loc "lexer") 287 []) "kind") .Eq (.cst (.int 287)))]) (.tup [(.loc "found"),(.cst (.byt []))]) (.cst .none))]
section
variable {ρ:Lc} {l:List V} {T:Nat} {ls:List Int} {c:Core} {o:Out} {K:Fl→St→Prop} {Xc:Exc} {e:Option (List UInt8)} {t:List UInt8}
theorem pk_end (n:Nat) (he:En ρ l T ls) (ho:o.ahead = .none) (hi:Inv c) (hs:sg c = -1) (q:∀ st,K (.ret (.tup [.lst l,.byt []])) st):wpSs (GG (n+14)) pkEnd K Xc ⟨ρ,FL o c⟩:=by
  unfold pkEnd
  rw [s_cons,s_expr]
  refine mcallE (vs:=[]) (pf_none _) he.lx rfl rfl (look_none n hi ho ?_)
  rw [rd_end n hs,go_inl]
  dsimp only
  rw [s_cons,s_ret,w_ite,w_andE,w_andC,w_cmp,w_fld]
  refine mcallE (vs:=[]) (pf_none _) he.lx rfl rfl (next_some n (k:=287) (u:=.none) rfl ?_)
  refine ⟨.int 287,rfl,?_⟩
  rw [w_cst]
  refine ⟨true,rfl,true,rfl,fun ω=>?_,fun e=>(nomatch e)⟩
  rw [w_andC,w_cmp,w_fld]
  refine mcallE (vs:=[]) (pf_none _) he.lx rfl rfl (next_none n (c:=c.put []) (hi.put (Nat.zero_le _)) rfl ?_)
  rw [rd_end n (c:=c.put []) hs,go_inl]
  refine ⟨.int 287,rfl,?_⟩
  rw [w_cst]
  refine ⟨true,rfl,true,rfl,fun ω=>?_,fun e=>(nomatch e)⟩
  rw [w_andN]
  refine ⟨true,rfl,fun ω=>?_,fun e=>(nomatch e)⟩
  rw [w_tup,w_cons,w_loc]
  dsimp only
  rw [he.fd]
  exact ⟨Nat.le_of_ble_eq_true rfl,q _⟩
noncomputable def lcK (t:List UInt8) (ls:List Int):Lc:=[("text",.v (.byt t)),("looks",.v (.lst (ls.map .int))),("lexer",.v .lex),("found",.own []),("turn",.v (.int 0))]
theorem peek_rest (n:Nat) {X:List UInt8→Prop} (hne:ls≠[]) (hls:ls.length≤1000) (ht:t.length≤1000) (hr:Run n (core0 t) l e) (hl:l.length≤1000) (q:∀ st,K (.ret (.tup [.lst l,.byt (e.getD [])])) st):wpSs (GG (n+14)) b_law_peeked.tail K (fun m ω=>X m) ⟨lcK t ls,FL out0 (core0 t)⟩:=by
  show wpSs (GG (n+14)) (.tryR [.whileS pkTest pkAll] "refusal" (.tup [(.loc "found"),(.fld (.loc "refusal") "value")]) :: pkEnd) _ _ _
  rw [s_cons,s_tryR,s_cons]
  refine pk_loop n hne hls hl ⟨rfl,rfl,rfl,rfl⟩ (inv0 ht) hr (fun m he ρ T h=>?_) fun he ρ T o c h h1 h2 h3=>?_
  · subst he
    have h1:lkL "found" (setL "refusal" (.v (.exc m)) ρ)=some (.own l):=(lk_ne (by decide)).trans h.fd
    refine ⟨rfl,?_⟩
    rw [w_tup,w_cons,w_loc]
    dsimp only
    rw [h1]
    dsimp only
    rw [w_cons,w_fld,w_loc]
    have h2:lkL "refusal" (setL "found" (.v (.lst l)) (setL "refusal" (.v (.exc m)) ρ))=some (.v (.exc m)):=(lk_ne (by decide)).trans lk_eq
    dsimp only
    rw [h2]
    exact ⟨.byt m,rfl,Nat.le_of_ble_eq_true rfl,q _⟩
  · subst he
    dsimp only
    rw [s_nil]
    exact pk_end n h h1 h2 h3 q
theorem ints_nolex (ls:List Int):(true && (V.noLexs (ls.map .int) && true))=true:=by
  have h:V.noLexs (ls.map .int)=true:=by
    induction ls with
    | nil=>rfl
    | cons i r ih=>exact ih
  rw [h]; rfl
theorem peek_ok (n:Nat) {Q:V→Option Lex→Prop} {X:List UInt8→Prop} (hne:ls≠[]) (hls:ls.length≤1000) (ht:t.length≤1000) (hr:Run n (core0 t) l e) (hl:l.length≤1000) (q:Q (.tup [.lst l,.byt (e.getD [])]) none):GG (n+15) 496 [.byt t,.lst (ls.map .int)] none Q X:=by
  have nl:V.noLex (.tup [.lst l,.byt (e.getD [])])=true:=by
    show (V.noLexs l && (true && true))=true
    rw [toks_nolex (run_toks (inv0 ht) hr)]; rfl
  have k:=peek_rest n (X:=X) (K:=fun fl ω=>match fl with | .ret v=>V.noLex v=true∧Q v none | _=>False) hne hls ht hr hl fun ω=>⟨nl,q⟩
  refine (show wpNew (GG (n+14)) ["text","looks"] a_law m_three b_law_peeked.tail _ _ _ _ from ⟨rfl,rfl,ints_nolex ls,?_⟩)
  exact (show wpX (GG (n+14)) (.loc "text") _ _ _ from ⟨rfl,rfl,init_ok (n+10) ht ⟨rfl,k⟩⟩)
end
theorem piece_len7 (i:Nat):(lawPieces.getD i []).length≤7:=by
  have h:(lawPieces.all fun p=>decide (p.length≤7))=true:=by decide
  by_cases q:i < lawPieces.length
  · rw [List.getD_eq_getElem?_getD,List.getElem?_eq_getElem q]
    exact of_decide_eq_true (List.all_eq_true.mp h _ (List.getElem_mem q))
  · rw [List.getD_eq_getElem?_getD,List.getElem?_eq_none (by omega)]
    exact Nat.zero_le _
theorem pieces_len:∀ ns:List Int,(ns.flatMap fun n=>lawPieces.getD (n.fmod 24).toNat []).length≤7 * ns.length
  | []=>Nat.zero_le _
  | n :: r=>by
    rw [List.flatMap_cons,List.length_append,List.length_cons]
    have h1:=piece_len7 (n.fmod 24).toNat
    have h2:=pieces_len r
    omega
noncomputable def someOf (ns:List Int):List Int:=(ns.take 12).map (fun n=>if n < 0 then -n else n)++[(ns.length+2:Int)]
noncomputable def textOf (ns:List Int):List UInt8:=(someOf ns).flatMap fun n=>lawPieces.getD (n.fmod 24).toNat []
noncomputable def looksOf (ns:List Int):List Int:=(someOf ns).map fun n=>n.fdiv 24
noncomputable def lcLaw (ns:List Int) (due:V):Lc:=[("script",.v (.lst (ns.map .int))),("some",.v (.lst ((someOf ns).map .int))),("text",.v (.byt (textOf ns))),("due",.v due)]
noncomputable def lwPeek (e:X):X:=.cmp (.call 496 [(.loc "text"),e]) .NotEq (.loc "due")
noncomputable def lwT:List S:=[.tryR [.ret (.andE [(.cmp (.call 476 [(.loc "text"),(.cst (.byt [61,113])),.newLims]) .Eq (.idx (.loc "due") (.cst (.int 0)))),(.cmp (.idx (.loc "due") (.cst (.int 1))) .Eq (.cst (.byt [])))])] "refusal" (.cmp (.fld (.loc "refusal") "value") .Eq (.idx (.loc "due") (.cst (.int 1))))]
noncomputable def lwA:List S:=.ifS (.orE [lwPeek (.divE "some"),lwPeek (.lstD [(.cst (.int 1))]),lwPeek (.lstD [(.cst (.int 0)),(.cst (.int 2))])]) [.ret (.cst (.bool false))] [] :: lwT
section
variable {ns:List Int} {l:List V} {e:Option (List UInt8)} {K:Fl→St→Prop} {Xc:Exc}
theorem some_len (ns:List Int):(someOf ns).length≤13∧0 < (someOf ns).length:=by
  unfold someOf
  rw [List.length_append,List.length_map,List.length_take,List.length_singleton]
  omega
theorem text_len (ns:List Int):(textOf ns).length≤1000:=by
  have h1:=pieces_len (someOf ns)
  have h2:=(some_len ns).1
  exact Nat.le_trans h1 (by omega)
theorem due_ne {b:List UInt8} (h:Toks l):cmpV .NotEq (.tup [.lst l,.byt b]) (.tup [.lst l,.byt b])=some false:=by
  show (match eqN 5 (.lst l) (.lst l),eqL (eqN 5) [.byt b] [.byt b] with | some x,some y=>some (x && y) | _,_=>none).map (!·)=_
  rw [show eqN 5 (.lst l) (.lst l)=some true from toks_eq 3 h]
  show (match some true,(match some (b == b),some true with | some x,some y=>some (x && y) | _,_=>none) with | some x,some y=>some (x && y) | _,_=>none).map (!·)=_
  rw [beq_self_eq_true]; rfl
theorem lw_peek (n:Nat) {ls:List Int} {x:X} (hr:Run n (core0 (textOf ns)) l e) (hl:l.length≤1000) (hne:ls≠[]) (hls:ls.length≤1000) (hx:∀ (Q:List V→St→Prop),Q [.lst (ls.map .int)] ⟨lcLaw ns (.tup [.lst l,.byt (e.getD [])]),none⟩→wpXs (GG (n+15)) [x] Q Xc ⟨lcLaw ns (.tup [.lst l,.byt (e.getD [])]),none⟩) {Q:Post} (q:Q (.bool false) ⟨lcLaw ns (.tup [.lst l,.byt (e.getD [])]),none⟩):wpX (GG (n+15)) (lwPeek x) Q Xc ⟨lcLaw ns (.tup [.lst l,.byt (e.getD [])]),none⟩:=by
  unfold lwPeek
  rw [w_cmp,w_call,w_cons,w_loc]
  refine hx _ (peek_ok n hne hls (text_len ns) hr hl ?_)
  rw [w_loc]
  exact ⟨false,due_ne (run_toks (inv0 (text_len ns)) hr),q⟩
theorem idx0 (l:List V) (b:List UInt8) {Q:V→Prop} (q:Q (.lst l)):idxV (.tup [.lst l,.byt b]) (.int 0) Q:=⟨by decide,(by decide:(0:Int) < (2:Nat)),(by decide:2 < 1000),q⟩
theorem idx1 (l:List V) (b:List UInt8) {Q:V→Prop} (q:Q (.byt b)):idxV (.tup [.lst l,.byt b]) (.int 1) Q:=⟨by decide,(by decide:(1:Int) < (2:Nat)),(by decide:2 < 1000),q⟩
theorem w_due {Γ:Specs} {st:St} {d i:V} {Q:Post} (h:lkL "due" st.ρ=some (.v d)) (q:idxV d i fun v=>Q v st):wpX Γ (.idx (.loc "due") (.cst i)) Q Xc st:=by
  rw [w_idx,w_loc,h]
  exact q
theorem w_args {Γ:Specs} {st:St} {b:List UInt8} {Q:List V→St→Prop} (h:lkL "text" st.ρ=some (.v (.byt b))) (q:Q [.byt b,.byt [61,113],.lims] st):wpXs Γ [(.loc "text"),(.cst (.byt [61,113])),.newLims] Q Xc st:=by
  rw [w_cons,w_loc,h]
  exact q
theorem lw_t (n:Nat) (hr:Run n (core0 (textOf ns)) l e) (hl:l.length≤1000) (q:∀ ρ,K (.ret (.bool true)) ⟨ρ,none⟩):wpSs (GG (n+15)) lwT K Xc ⟨lcLaw ns (.tup [.lst l,.byt (e.getD [])]),none⟩:=by
  have htk:=run_toks (inv0 (text_len ns)) hr
  unfold lwT
  rw [s_cons,s_tryR,s_cons,s_ret,w_andE,w_andC,w_cmp]
  rw [w_call]
  refine w_args rfl ?_
  refine all_ok n (text_len ns) hr hl (fun he=>?_) fun m he=>?_
  · subst he
    have e1:cmpV .Eq (.lst l) (.lst l)=some true:=toks_eq 4 htk
    refine w_due rfl (idx0 _ _ ?_)
    refine ⟨true,e1,true,rfl,fun ω=>?_,fun e=>(nomatch e)⟩
    rw [w_andC,w_cmp]
    refine w_due rfl (idx1 _ _ ?_)
    refine ⟨true,rfl,true,rfl,fun ω=>?_,fun e=>(nomatch e)⟩
    exact q _
  · subst he
    have e1:cmpV .Eq (.byt m) (.byt m)=some true:=(show some (m == m)=_ by rw [beq_self_eq_true])
    refine ⟨rfl,?_⟩
    rw [w_cmp,w_fld,w_loc]
    dsimp only
    rw [lk_eq]
    dsimp only
    refine ⟨.byt m,rfl,?_⟩
    refine w_due ((lk_ne (by decide)).trans rfl) (idx1 _ _ ?_)
    exact ⟨true,e1,q _⟩
theorem lw_a (n:Nat) (hr:Run n (core0 (textOf ns)) l e) (hl:l.length≤1000) (q:∀ ρ,K (.ret (.bool true)) ⟨ρ,none⟩):wpSs (GG (n+15)) lwA K Xc ⟨lcLaw ns (.tup [.lst l,.byt (e.getD [])]),none⟩:=by
  have htk:=run_toks (inv0 (text_len ns)) hr
  unfold lwA
  rw [s_cons,s_ifS,w_orE,w_orC]
  refine lw_peek n hr hl (x:=.divE "some") (ls:=looksOf ns) (fun h=>?_) ?_ (fun Q q=>?_) ⟨false,rfl,fun ω=>?_,fun e=>(nomatch e)⟩
  · have h1:=(some_len ns).2
    have h2:=congrArg List.length h
    unfold looksOf at h2
    rw [List.length_map] at h2
    rw [h2] at h1
    exact absurd h1 (by decide)
  · have h1:=(some_len ns).1
    unfold looksOf
    rw [List.length_map]; omega
  · have h1:=(some_len ns).1
    exact ⟨someOf ns,rfl,by omega,q⟩
  rw [w_orC]
  refine lw_peek n hr hl (x:=.lstD [(.cst (.int 1))]) (ls:=[1]) (by decide) (by decide) (fun Q q=>⟨by decide,q⟩) ⟨false,rfl,fun ω=>?_,fun e=>(nomatch e)⟩
  rw [w_orC]
  refine lw_peek n hr hl (x:=.lstD [(.cst (.int 0)),(.cst (.int 2))]) (ls:=[0,2]) (by decide) (by decide) (fun Q q=>⟨by decide,q⟩) ⟨false,rfl,fun ω=>?_,fun e=>(nomatch e)⟩
  rw [w_orN]
  refine ⟨false,rfl,fun e=>(nomatch e),fun ω=>?_⟩
  rw [s_nil]
  exact lw_t n hr hl q
theorem law_ok (n:Nat) {Q:V→Option Lex→Prop} {X:List UInt8→Prop} (hn:ns.length≤63) (q:Q (.bool true) none):GG (n+16) 501 [.lst (ns.map .int)] none Q X:=by
  obtain ⟨l,e,hr,hl⟩:=run_ex n _ (core0 (textOf ns)) (inv0 (text_len ns)) (Nat.le_refl _)
  have ht:=text_len ns
  have hl:l.length≤1000:=Nat.le_trans hl (Nat.le_trans (Nat.sub_le _ _) ht)
  let K:Fl→St→Prop:=fun fl st=>match fl with | .ret v=>Q v st.lx | .next=>Q .none st.lx | .brk=>False
  have k:=lw_a (ns:=ns) (K:=K) (Xc:=fun m ω=>X m) n hr hl fun ρ=>q
  have h2:=some_len ns
  refine (show wpFn (GG (n+15)) ["script"] b_law _ _ Q X from ⟨rfl,?_⟩)
  show wpSs (GG (n+15)) (.asg "some" (.someE "script") :: .asg "text" (.joinE "some") :: .asg "due" (.call 491 [(.loc "text")]) :: lwA) K (fun m ω=>X m) ⟨[("script",.v (.lst (ns.map .int)))],none⟩
  rw [s_cons,s_asg]
  refine ⟨ns,rfl,by omega,?_⟩
  show wpSs (GG (n+15)) (.asg "text" (.joinE "some") :: .asg "due" (.call 491 [(.loc "text")]) :: lwA) K (fun m ω=>X m) ⟨[("script",.v (.lst (ns.map .int))),("some",.v (.lst ((someOf ns).map .int)))],none⟩
  rw [s_cons,s_asg]
  refine ⟨someOf ns,rfl,(fun h=>by rw [h] at h2; exact absurd h2.2 (by decide)),by omega,?_⟩
  show wpSs (GG (n+15)) (.asg "due" (.call 491 [(.loc "text")]) :: lwA) K (fun m ω=>X m) ⟨[("script",.v (.lst (ns.map .int))),("some",.v (.lst ((someOf ns).map .int))),("text",.v (.byt (textOf ns)))],none⟩
  rw [s_cons,s_asg]
  refine callE (vs:=[.byt (textOf ns)]) (pf_none _) rfl ?_
  exact plain_ok n ht hr hl k
end
theorem items_int {R : WRecords} : ∀ {xs : List WData}, WShape.hasItems R xs .int = true → ∃ ns : List Int, xs = ns.map .int
  | [], _ => ⟨[], rfl⟩
  | x :: xs, h => by
    obtain ⟨h1, h2⟩ := Bool.and_eq_true_iff.mp (show (WShape.has R x .int && WShape.hasItems R xs .int) = true from h)
    obtain ⟨i, rfl⟩ := hasW_int h1
    obtain ⟨ns, rfl⟩ := items_int h2
    exact ⟨i :: ns, rfl⟩
theorem well_ints {P : Params} {h : Heap} {G : Froz} {a : Addr} : ∀ {ns : List Int} {vs : List Value}, WellAll P h vs (ns.map .int) → Reps P G a (ns.map V.int) vs
  | [], _, r => by cases r; exact .nil
  | _ :: _, _, r => by
    cases r with | cons r rs =>
    cases r with | int _ t =>
    exact .cons (.int _ t) (well_ints rs)
theorem pre_len {xs : List WData} (h : rw1.row.pre.holds [] { args := [.list xs] } = true) : xs.length ≤ 63 := by
  have e : rw1.row.pre = .and (.not (.lt (.lit (.int 63)) (.len (.arg 0)))) (.lit (.bool true)) := rfl
  rw [e] at h
  simp [WTm.holds, WTm.value] at h
  have e2 : less? (WData.int 63) (WData.int ↑xs.length) = some (decide ((63 : Int) < xs.length)) := rfl
  rw [e2] at h
  by_cases q : (63 : Int) < xs.length
  · rw [decide_eq_true q] at h
    cases h
  · omega
theorem post_ok (args : List WData) : rw1.row.claim.post args (.bool true) args = true := by
  kernel_rfl
theorem law_glob (P : Params) : nsIn (KF P) mainGlobals (Str.ofString "law") = some (some (.ref 501)) := by kernel_rfl
theorem law_wp {ns : List Int} (hn : ns.length ≤ 63) : wpFn (GG 15) ["script"] b_law [.lst (ns.map .int)] none (fun v ω => v = .bool true) (fun ω => False) := law_ok 0 (Q := fun v ω => v = .bool true) (X := fun ω => False) hn rfl
theorem law_body {ns : List Int} (hn : ns.length ≤ 63) : BodyOK (fScope (stm 70)) (fBody (stm 70)) 34 (["script"].zip ([V.lst (ns.map .int)].map .v)) none (fun v ω => v = .bool true) (fun ω => False) := body_of (s_law (by decide)).s (gg_ok spc_ok 15) (law_wp hn)
theorem law_walk {w : World} {s : Shared} {mg mb : Str → Option Value} (hK : (KF w.params).In s.heap) (hg : s.heap.Ns mainGlobals mg) (hb : s.heap.Ns builtinsNs mb) (hl : s.heap.NoLimit) (hbi : ∀ x : Str, x ≠ "__name__" → mb x = bootBuiltins x) {x : Addr} {vs : List Value} {ns : List Int} (hn : ns.length ≤ 63) (hx : s.heap.get? x = some (lisObj vs 0)) (rs : WellAll w.params s.heap vs (ns.map .int))
    {QC EC : Value → Shared → Prop} (K : ∀ h' tk, (∀ b o, s.heap.get? b = some o → h'.get? b = some o) → QC (.bool true) { s with heap := h', toks := tk }) : wpG (model pw w) callerA (call (.ref 501) [.ref x]) QC EC s := by
  obtain ⟨fd, F⟩ := e_law w.params
  refine bC fun ng => ?_;obtain ⟨c, oc, cvs, ct, q1, q2, q3, q4⟩ := F.at_.code;refine ng ?_;clear ng
  have ok : (⟨w, s.heap, mg, mb⟩ : Cx).Ok := ⟨hK, hg, hb, hl, hbi⟩
  have hL := size_new s.heap
  refine wpG_call (g_call_def (binds := (["script"].map Str.ofString).zip [.ref x]) (by decide) (hK _ _ F.at_.at_) rfl hl ⟨c, oc, cvs, ct, q1, hK _ _ q2, q3, q4⟩ F.at_.body (kp_binds hK fun S => F.binds S _ rfl) (by
      rw [F.at_.scope]; intro x hx q
      have := List.all_eq_true.mp F.cells x hx
      rw [q] at this; cases this) (by
      rw [F.at_.scope]; intro x hx
      obtain ⟨n, hn, e⟩ := List.mem_map.mp (List.of_mem_zip (a := x.1) (b := x.2) hx).1
      rw [← e]
      exact beq_iff_eq.mp (List.all_eq_true.mp F.loc n hn)) (fun h₀ hns keep => ?_) (by rw [F.at_.scope]; exact F.co) (by rw [F.at_.scope]; exact F.gen) (by rw [F.at_.scope]; exact F.kind))
  have hf : (callEnv fd s.heap.objs.size 501).frame = some s.heap.objs.size := rfl
  have hsc : (callEnv fd s.heap.objs.size 501).scope = fScope (stm 70) := F.at_.scope
  have oL : ∃ o, h₀.get? s.heap.objs.size = some o ∧ ∀ vs, o.data ≠ .fields vs := by
    refine bC fun ng => ?_;obtain ⟨o, es, ep, ho, hd, _⟩ := hns;refine ng ?_;clear ng
    exact ⟨o, ho, fun vs q => by rw [hd] at q; cases q⟩
  have efs : (FR.mk ⟨w, s.heap, mg, mb⟩ s.heap (fun b => s.heap.get? b) [] s.heap.objs.size [callEnv fd s.heap.objs.size 501] none).fs = [s.heap.objs.size] := rfl
  have B0 : Base (FR.mk ⟨w, s.heap, mg, mb⟩ s.heap (fun b => s.heap.get? b) [] s.heap.objs.size [callEnv fd s.heap.objs.size 501] none) (fun b => s.heap.get? b) h₀ := by
    refine ⟨fun ω ω e => e, fun b o e => keep b o e, fun ω ω e => e, fun ω ω e => .inl e, fun b o e ω ω => keep b o e, fun b o e ω => ⟨o, keep b o e, .refl _⟩, hL, fun b ⟨o, e⟩ => ⟨o, keep b o e⟩, by rw [efs]; exact .head _, fun L' hL' => ?_, ?_, fun p hp => nomatch hp⟩
    · rw [efs] at hL'
      rw [List.mem_singleton.mp hL']
      obtain ⟨o, ho, _⟩ := oL
      exact ⟨hL, o, ho⟩
    · obtain ⟨o, ho, hd⟩ := oL
      exact ⟨by rw [hsc, F.kind]; decide, ⟨_, o, hf, hL, ho, hd⟩, trivial⟩
  have rx : Rep w.params (fun b => s.heap.get? b) 0 (.lst (ns.map .int)) (.ref x) := .lst hx (well_ints rs)
  have R0 : Rel (FR.mk ⟨w, s.heap, mg, mb⟩ s.heap (fun b => s.heap.get? b) [] s.heap.objs.size [callEnv fd s.heap.objs.size 501] none) (fun b => s.heap.get? b) ⟨0, 0, 0⟩ ⟨["script"].zip ([V.lst (ns.map .int)].map .v), none⟩ h₀ := by
    refine ⟨B0, ⟨_, (show View _ h₀ _ from hns), ⟨fun y l e => ?_, fun y z us ws v ω e1 ω => absurd e1 params_own⟩⟩, trivial⟩
    refine bC fun ng => ?_;obtain ⟨V, v, rfl, rv, hm⟩ := params_rel (.cons rx .nil) rfl e;refine ng ?_;clear ng
    refine ⟨v, ?_, rv⟩
    refine lookup_of_mem ?_ (List.mem_reverse.mpr hm)
    rw [List.map_reverse, List.map_fst_zip (by rw [List.length_map]; exact Nat.le_refl _)]
    exact List.pairwise_reverse.mpr (F.nodup.imp fun h => h.symm)
  have E0 : Env0 (FR.mk ⟨w, s.heap, mg, mb⟩ s.heap (fun b => s.heap.get? b) [] s.heap.objs.size [callEnv fd s.heap.objs.size 501] none) (fScope (stm 70)) (callEnv fd s.heap.objs.size 501) (callerA.deeper (callEnv fd s.heap.objs.size 501)) 34 := by
    refine ⟨ok, hsc, F.kind, rfl, hf, F.at_.globals, F.at_.builtins, (fun y q => ?_), ⟨[], rfl⟩, rfl, rfl, (show 1 + claimMargin + 1 + 34 < recursionLimit by decide), (show 4 + 3 + 16 * 34 + 40 < cLine by decide)⟩
    have hm : (y, NameKind.cell) ∈ (fScope (stm 70)).names := mem_of_lookup q
    have := List.all_eq_true.mp F.cells _ hm
    cases this
  refine wpG_mono (law_body hn (s := { s with heap := h₀, toks := s.toks + ((["script"].map Str.ofString).zip [Value.ref x]).length }) (QC := QC) (EC := fun ω ω => False) E0 rfl R0 (fun G' b' lx' v V h' tk' B' ω r' q => ?_) fun ω ω ω ω ω ω ω ω q => q.elim) (fun ω ω q => q) fun ω ω q => q.elim
  subst q
  cases r'
  exact K h' tk' fun b o e => B'.gh b o (B'.gg b o e)
theorem said1 : PySem.W.Fast.tw9446332074065402090 rw1 = true := by kernel_rfl
theorem said : rw1.wellSaid = true := by
  rw [PySem.W.Fast.te9446332074065402090]
  exact said1
theorem holds : rw1.Holds := by
  refine holds_law said fun hs => ?_
  refine holds_calm (q := lawView) (loose := looseNames) (Xt := XtL) (XP := XL lawView []) (Yf := Hook.obs hook) (Ya := Hook.val hook) (YP := Hook.says hook) (N := 7000) left (Hook.of hook) (Hook.keeps hook) (fun s e => xl_of s (Bool.and_eq_true_iff.mp e).1) XL.keeps (by rfl) (by rfl) (by rfl) (fun s e => recFacts_of (Bool.and_eq_true_iff.mp e).2) (by rfl) hs (by decide +kernel) (by decide +kernel) (by decide +kernel) (by decide +kernel) ⟨rfl, rfl, rfl, rfl, rfl, by decide +kernel⟩ ?hw ?hc
  case hw => exact ⟨[.list []], by kernel_rfl, by kernel_rfl⟩
  case hc =>
    intro w s₀ s₁ mg mb G Y a ha args vals as hpre hrd hwl hgens
    have hK := kIn_of Y
    obtain ⟨h1, h2⟩ := pre_splitW hpre
    refine bC fun ng => ?_;obtain ⟨d, r, rfl, h3, h4⟩ := hasAllW_cons (es := []) h1;refine ng ?_;clear ng
    obtain rfl := hasAllW_nil h4
    obtain ⟨xs, rfl, h5⟩ := hasW_list h3
    obtain ⟨ns, rfl⟩ := items_int h5
    have hn := pre_len h2
    rw [List.length_map] at hn
    cases hwl with | cons h6 h7 =>
    cases h7
    cases h6 with | list hx rs =>
    have ha' : mg (Str.ofString "law") = some (.ref a) := ha
    rw [mg_of hK G.T.g (law_glob w.params)] at ha'
    cases ha'
    refine law_walk hK G.T.g G.T.b G.T.nolimit G.T.builtins hn hx rs fun h' tk kp => ?_
    exact ⟨.inl ⟨.bool true, .bool true, [], rfl, fun ω => rfl, .bool true, post_ok _, fun ω => ⟨List.nodup_nil, fun ω q => nomatch q⟩⟩, .of_keep kp, rfl, .of_eq hgens⟩
end Mine
theorem PySem.Challenge.cw_rr0064_01_holds : PySem.Challenge.rw_rr0064_01.Holds :=
  Mine.holds
