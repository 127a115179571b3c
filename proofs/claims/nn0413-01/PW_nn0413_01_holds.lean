import PyProof.Rows.All
import Wide.All
import OpenK.AllK
import Wide.FinOn
import Lean
import PySem.Challenge.RW_nn0413_01
set_option Elab.async false
set_option tactic.hygienic false
set_option linter.unusedVariables false
set_option maxRecDepth 100000
set_option genInjectivity false
set_option genSizeOf false
set_option genSizeOfSpec false
set_option bootstrap.genMatcherCode false
set_option linter.all false
set_option linter.unusedSimpArgs false
set_option linter.unusedSectionVars false
set_option linter.deprecated false
namespace Mine.Internal
section
set_option maxHeartbeats 8000000
open PySem PySem.W PyProof.Rows
namespace Hd
abbrev pw:Program:=PySem.Challenge.pw_nn0413_01
noncomputable abbrev S (s:String):PySem.Str:=PySem.Str.ofString s
noncomputable def bd:List PySem.Stmt:=behindTheImports pw
noncomputable def nth:List PySem.Stmt→Nat→PySem.Stmt
 |[],_=>.Pass ⟨0,0,0,0⟩
 |x::_,0=>x
 |_::r,n+1=>nth r n
noncomputable def sub:PySem.Stmt→List PySem.Stmt
 |.FunctionDef _ _ b ..=>b
 |.ClassDef _ _ _ b ..=>b
 |_=>[]
noncomputable def st (i:Nat):PySem.Stmt:=nth bd i
noncomputable def sm (i j:Nat):PySem.Stmt:=nth (sub (st i)) j
noncomputable def sN:PySem.Stmt→PySem.Str
 |.FunctionDef n ..=>n
 |_=>S ""
noncomputable def sA:PySem.Stmt→Arguments
 |.FunctionDef _ a ..=>a
 |_=>⟨[],[],none,[],[],none,[]⟩
noncomputable def sS:PySem.Stmt→PySem.Scope
 |.FunctionDef _ _ _ _ _ _ s ..=>s
 |_=>pw.main.scope
noncomputable def F (s:PySem.Stmt)(q:String)(g:Addr)(cl:List (PySem.Str×Addr))(d k doc pm:PySem.Value)(an:Option Addr)(cd ct:PySem.Value)(b:Addr):Data :=
 .func ⟨sN s,S q,sA s,.stmts (sub s),sS s,g,cl,d,k,doc,pm,an,cd,ct,b⟩
noncomputable def E (P:Params)(x:String)(t:Nat)(v:PySem.Value):DictEntry:=⟨PyData.keyHash P (S x),.str (S x) t,v⟩
noncomputable def dd:Obj:=⟨.none,none,.freed,#[]⟩
noncomputable def dz:Obj:=⟨.none,none,.fields #[],#[]⟩
noncomputable def en:Env:={scope:=pw.main.scope,locals:=mainNs,globals:=mainNs,cells:=[],code:=(.ref 13),frame:=some 14}
noncomputable abbrev an:Option PySem.Value:=some (.ref 6)
noncomputable abbrev q_:Pos:=⟨0,0,0,0⟩
noncomputable abbrev cE:Code:=.body bd en
noncomputable def ct (a n:Nat):List PySem.Stmt:=(bd.drop a).take n
noncomputable def zs (x:String)(n:Nat):PySem.Value:=.str (S x) n
noncomputable def zi (n:Nat):PySem.Value:=.int n 0
noncomputable def zt (l:List PySem.Value):Obj:=⟨.type "tuple",none,.seq l.toArray 0,#[]⟩
noncomputable def zf (d:Data):Obj:=⟨.type "function",none,d,#[]⟩
noncomputable abbrev zd:PySem.Value:=.type "dict"
noncomputable abbrev zn:PySem.Value:=.none
noncomputable def zc (n q:String)(k l a b c d:Nat)(r:PySem.Value)(f:PySem.Value)(r2 v1 v2 v3 v4:PySem.Value)(e:Nat):Obj:=⟨.type "code",none,.fields [zs n k,zs q (k+1),zs "/claim/cut.py" (k+2),zi l,zi a,zi b,zi c,zi d,r,f,zi 181,r2,v1,v2,v3,v4,zi e,zi l,zs "/claim/cut.py" (e+1)].toArray,#[]⟩
noncomputable def zp (t:BT)(n:Nat)(l:List Obj):BT:=match l with | []=>t | o::r=>zp (t.ins n o) (n+1) r
noncomputable def zq (t:BT)(l:List (Nat×Obj)):BT:=match l with | []=>t | p::r=>zq (t.ins p.1 p.2) r
noncomputable abbrev yb0:=boot_o_0
noncomputable abbrev yb1:=boot_o_1
noncomputable abbrev yb2:=boot_o_2
noncomputable abbrev yb3:=boot_o_3
noncomputable abbrev yb4:=boot_o_4
noncomputable abbrev yb5:=boot_o_5
noncomputable abbrev yb6:=boot_o_6
noncomputable abbrev yb7:=boot_o_7
noncomputable abbrev yb8:=boot_o_8
noncomputable abbrev yb9:=boot_o_9
noncomputable abbrev yb10:=boot_o_10
noncomputable def o0:=zt []
noncomputable def o1:=zc "<module>" "<module>" 182 1 0 0 0 0 (.ref 11) (.bool false) (.ref 12) .none .none .none .none 185
noncomputable def o2:Obj:=⟨(.type "frame"),none,.plain,#[(some (.ref 13)),(some (.ref 3)),(some (.ref 3)),none,(some (zs "__main__" 164)),none,(some (.ref 0))]⟩
noncomputable def o3 (P:Params):Obj:=⟨zd,none,(.dict #[E P "__name__" 165 (zs "grammarmill.source" 194),E P "__doc__" 166 .none,E P "__package__" 167 .none,E P "__loader__" 168 (.builtin "__main__.__loader__#opaque"),E P "__spec__" 169 .none,E P "__annotations__" 170 (.ref 6),E P "__builtins__" 171 (.ref 4),E P "__file__" 173 (zs "/claim/cut.py" 172),E P "__cached__" 174 .none,E P "_wall" 193 (.ref 21),E P "SMALL" 197 (zs "abcdefghijklmnopqrstuvwxyz" 196),E P "LETTERS" 200 (zs "abcdefghijklmnopqrstuvwxyzABCDEFGHIJKLMNOPQRSTUVWXYZ" 199),E P "FIGURES" 202 (zs "0123456789" 201),E P "NAME_SIGNS" 206 (zs "abcdefghijklmnopqrstuvwxyzABCDEFGHIJKLMNOPQRSTUVWXYZ_0123456789" 205),E P "HEX_SIGNS" 209 (zs "0123456789abcdefABCDEF" 208),E P "OCTAL_SIGNS" 211 (zs "01234567" 210),E P "MOST_FIGURES" 213 (.int 4000 212)] 17),#[]⟩
noncomputable def o4:Obj:=⟨zn,none,(.fields #[zi 1,zi 0,.ref 20]),#[]⟩
noncomputable def o6:=zt [zs "k" 190]
noncomputable def o8:Obj:=⟨zn,none,(F (st 0) "_wall" 0 [] .none .none .none .none none .none .none 0),#[]⟩
noncomputable def o9:=zc "_wall" "_wall" 187 1 1 0 0 3 (.ref 15) (.bool true) (.ref 16) .none (.ref 17) (.ref 18) (.ref 19) 191
noncomputable def o10:=zf (F (st 0) "_wall" 3 [] .none .none .none (zs "__main__" 164) none (.ref 20) .none 0)
noncomputable def o11 (P:Params):Obj:=⟨zd,none,(.dict #[E P "__name__" 165 (zs "grammarmill.source" 194),E P "__doc__" 166 .none,E P "__package__" 167 .none,E P "__loader__" 168 (.builtin "__main__.__loader__#opaque"),E P "__spec__" 169 .none,E P "__annotations__" 170 (.ref 6),E P "__builtins__" 171 (.ref 4),E P "__file__" 173 (zs "/claim/cut.py" 172),E P "__cached__" 174 .none,E P "_wall" 193 (.ref 21),E P "SMALL" 197 (zs "abcdefghijklmnopqrstuvwxyz" 196),E P "LETTERS" 200 (zs "abcdefghijklmnopqrstuvwxyzABCDEFGHIJKLMNOPQRSTUVWXYZ" 199),E P "FIGURES" 202 (zs "0123456789" 201),E P "NAME_SIGNS" 206 (zs "abcdefghijklmnopqrstuvwxyzABCDEFGHIJKLMNOPQRSTUVWXYZ_0123456789" 205),E P "HEX_SIGNS" 209 (zs "0123456789abcdefABCDEF" 208),E P "OCTAL_SIGNS" 211 (zs "01234567" 210),E P "MOST_FIGURES" 213 (.int 4000 212),E P "PLAIN_ESCAPES" 235 (.ref 22)] 18),#[]⟩
noncomputable def o12 (P:Params):Obj:=⟨zd,none,(.dict #[E P "n" 214 (.int 10 215),E P "t" 216 (.int 9 217),E P "r" 218 (.int 13 219),E P "f" 220 (.int 12 221),E P "v" 222 (.int 11 223),E P "a" 224 (.int 7 225),E P "b" 226 (.int 8 227)] 7),#[]⟩
noncomputable def o13 (P:Params):Obj:=⟨zn,none,(.dict #[E P "type.__subclasses__.Exception.0" 322 (zi 82),E P "type.__subclasses__.Exception.n" 323 (zi 1)] 2),#[]⟩
noncomputable def o14 (P:Params):Obj:=⟨zd,none,(.dict #[E P "__name__" 165 (zs "grammarmill.source" 194),E P "__doc__" 166 .none,E P "__package__" 167 .none,E P "__loader__" 168 (.builtin "__main__.__loader__#opaque"),E P "__spec__" 169 .none,E P "__annotations__" 170 (.ref 6),E P "__builtins__" 171 (.ref 4),E P "__file__" 173 (zs "/claim/cut.py" 172),E P "__cached__" 174 .none,E P "_wall" 193 (.ref 21),E P "SMALL" 197 (zs "abcdefghijklmnopqrstuvwxyz" 196),E P "LETTERS" 200 (zs "abcdefghijklmnopqrstuvwxyzABCDEFGHIJKLMNOPQRSTUVWXYZ" 199),E P "FIGURES" 202 (zs "0123456789" 201),E P "NAME_SIGNS" 206 (zs "abcdefghijklmnopqrstuvwxyzABCDEFGHIJKLMNOPQRSTUVWXYZ_0123456789" 205),E P "HEX_SIGNS" 209 (zs "0123456789abcdefABCDEF" 208),E P "OCTAL_SIGNS" 211 (zs "01234567" 210),E P "MOST_FIGURES" 213 (.int 4000 212),E P "PLAIN_ESCAPES" 235 (.ref 22),E P "Position" 275 (.ref 46),E P "position_of" 287 (.ref 57),E P "ToolError" 325 (.ref 82),E P "RegexError" 341 (.ref 95)] 22),#[]⟩
noncomputable def o15:Obj:=⟨zn,none,(.fields #[zi 1,zi 0,.ref 20,zi 13,zi 0,.ref 28,zi 22,zi 0,.ref 56,zi 31,zi 0,.ref 63,zi 42,zi 0,.ref 91]),#[]⟩
noncomputable def o17:Obj:=⟨(.type "builtin_function_or_method"),none,(.fields #[.builtin "type.__prepare__",.type "type"]),#[]⟩
noncomputable def o18 (P:Params):Obj:=⟨zd,none,(.dict #[E P "__module__" 243 (zs "grammarmill.source" 194),E P "__qualname__" 245 (zs "Position" 244),E P "__firstlineno__" 247 (.int 13 246),E P "__init__" 257 (.ref 36),E P "told" 264 (.ref 43),E P "__static_attributes__" 268 (.ref 44)] 6),#[]⟩
noncomputable def o20:Obj:=⟨zn,none,(.fields #[zi 15,zi 4,.ref 35,zi 20,zi 4,.ref 42]),#[]⟩
noncomputable def o21:=zc "Position" "Position" 238 13 0 0 0 0 (.ref 26) (.bool false) (.ref 27) .none .none .none .none 241
noncomputable def o22:Obj:=⟨(.type "frame"),none,.plain,#[(some (.ref 28)),(some (.ref 3)),(some (.ref 25)),none,(some (zs "grammarmill.source" 194)),none,(some (.ref 0))]⟩
noncomputable def o24:=zt [zs "self" 251,zs "offset" 252,zs "line" 253,zs "column" 254]
noncomputable def o26:Obj:=⟨zn,none,(F (sm 10 0) "Position.__init__" 0 [] .none .none .none .none none .none .none 0),#[]⟩
noncomputable def o27:=zc "__init__" "Position.__init__" 248 15 4 0 0 3 (.ref 30) (.bool true) (.ref 31) .none (.ref 32) (.ref 33) (.ref 34) 255
noncomputable def o28:=zf (F (sm 10 0) "Position.__init__" 3 [] .none .none .none (zs "grammarmill.source" 194) none (.ref 35) .none 0)
noncomputable def o30:=zt [zs "self" 261]
noncomputable def o32:Obj:=⟨zn,none,(F (sm 10 1) "Position.told" 0 [] .none .none .none .none none .none .none 0),#[]⟩
noncomputable def o33:=zc "told" "Position.told" 258 20 1 0 0 3 (.ref 37) (.bool true) (.ref 38) .none (.ref 39) (.ref 40) (.ref 41) 262
noncomputable def o34:=zf (F (sm 10 1) "Position.told" 3 [] .none .none .none (zs "grammarmill.source" 194) none (.ref 42) .none 0)
noncomputable def o35:=zt [zs "column" 265,zs "line" 266,zs "offset" 267]
noncomputable def o36 (P:Params):Obj:=⟨zd,none,(.dict #[E P "__module__" 243 (zs "grammarmill.source" 194),E P "__firstlineno__" 247 (.int 13 246),E P "__init__" 257 (.ref 36),E P "told" 264 (.ref 43),E P "__static_attributes__" 268 (.ref 44),E P "__dict__" 270 (.ref 47),E P "__weakref__" 272 (.ref 48),E P "__doc__" 273 .none] 4),#[]⟩
noncomputable def o37:Obj:=⟨(.type "type"),none,(.cls ⟨(S "Position"),[.type "object"],[.ref 46,.type "object"],45,S "Position",true,[],[],false,none,false⟩),#[none,none,(some (zs "Position" 236)),(some (zs "Position" 244)),(some (.builtin "object.__new__")),(some (.bool true))]⟩
noncomputable def o38:Obj:=⟨(.type "getset_descriptor"),none,(.fields #[zs "__dict__" 269,.ref 46,.builtin "function.__dict__",.builtin "function.__dict__#set"]),#[]⟩
noncomputable def o39:Obj:=⟨(.type "getset_descriptor"),none,(.fields #[zs "__weakref__" 271,.ref 46,.builtin "ExceptionGroup.__weakref__",.none]),#[]⟩
noncomputable def o40:Obj:=⟨(.type "super"),none,(.fields #[.ref 46,.ref 46,.ref 46]),#[]⟩
noncomputable def o41:Obj:=⟨(.type "builtin_function_or_method"),none,(.fields #[.builtin "object.__init_subclass__",.ref 46]),#[]⟩
noncomputable def o43:=zt [zs "text" 279,zs "offset" 280,zs "at" 281,zs "line" 282,zs "begun" 283,zs "here" 284]
noncomputable def o45:Obj:=⟨zn,none,(F (st 11) "position_of" 0 [] .none .none .none .none none .none .none 0),#[]⟩
noncomputable def o46:=zc "position_of" "position_of" 276 22 2 0 0 3 (.ref 51) (.bool true) (.ref 52) .none (.ref 53) (.ref 54) (.ref 55) 285
noncomputable def o47:=zf (F (st 11) "position_of" 3 [] .none .none .none (zs "grammarmill.source" 194) none (.ref 56) .none 0)
noncomputable def o48:=zt [.type "Exception"]
noncomputable def o50 (P:Params):Obj:=⟨zd,none,(.dict #[E P "__module__" 295 (zs "grammarmill.source" 194),E P "__qualname__" 297 (zs "ToolError" 296),E P "__firstlineno__" 299 (.int 31 298),E P "__init__" 308 (.ref 72),E P "told" 315 (.ref 79),E P "__static_attributes__" 318 (.ref 80)] 6),#[]⟩
noncomputable def o52:Obj:=⟨zn,none,(.fields #[zi 33,zi 4,.ref 71,zi 38,zi 4,.ref 78]),#[]⟩
noncomputable def o53:=zc "ToolError" "ToolError" 290 31 0 0 0 0 (.ref 61) (.bool false) (.ref 62) .none .none .none .none 293
noncomputable def o54:Obj:=⟨(.type "frame"),none,.plain,#[(some (.ref 63)),(some (.ref 3)),(some (.ref 60)),none,(some (zs "grammarmill.source" 194)),none,(some (.ref 0))]⟩
noncomputable def o55:=zt [.none]
noncomputable def o57:=zt [zs "self" 303,zs "what" 304,zs "at" 305]
noncomputable def o59:Obj:=⟨zn,none,(F (sm 12 0) "ToolError.__init__" 0 [] .none .none .none .none none .none .none 0),#[]⟩
noncomputable def o60:=zc "__init__" "ToolError.__init__" 300 33 3 0 0 3 (.ref 66) (.bool true) (.ref 67) .none (.ref 68) (.ref 69) (.ref 70) 306
noncomputable def o61:=zf (F (sm 12 0) "ToolError.__init__" 3 [] (.ref 65) .none .none (zs "grammarmill.source" 194) none (.ref 71) .none 0)
noncomputable def o63:=zt [zs "self" 312]
noncomputable def o65:Obj:=⟨zn,none,(F (sm 12 1) "ToolError.told" 0 [] .none .none .none .none none .none .none 0),#[]⟩
noncomputable def o66:=zc "told" "ToolError.told" 309 38 1 0 0 3 (.ref 73) (.bool true) (.ref 74) .none (.ref 75) (.ref 76) (.ref 77) 313
noncomputable def o67:=zf (F (sm 12 1) "ToolError.told" 3 [] .none .none .none (zs "grammarmill.source" 194) none (.ref 78) .none 0)
noncomputable def o68:=zt [zs "at" 316,zs "what" 317]
noncomputable def o69 (P:Params):Obj:=⟨zd,none,(.dict #[E P "__module__" 295 (zs "grammarmill.source" 194),E P "__firstlineno__" 299 (.int 31 298),E P "__init__" 308 (.ref 72),E P "told" 315 (.ref 79),E P "__static_attributes__" 318 (.ref 80),E P "__weakref__" 320 (.ref 83),E P "__doc__" 321 .none] 3),#[]⟩
noncomputable def o70:Obj:=⟨(.type "type"),none,(.cls ⟨(S "ToolError"),[.type "Exception"],[.ref 82,.type "Exception",.type "BaseException",.type "object"],81,S "ToolError",true,[],[.ref 95],false,none,false⟩),#[(some (.ref 58)),none,(some (zs "ToolError" 288)),(some (zs "ToolError" 296)),(some (.builtin "Exception.__new__")),(some (.bool true))]⟩
noncomputable def o71:Obj:=⟨(.type "getset_descriptor"),none,(.fields #[zs "__weakref__" 319,.ref 82,.builtin "ExceptionGroup.__weakref__",.none]),#[]⟩
noncomputable def o72:Obj:=⟨(.type "super"),none,(.fields #[.ref 82,.ref 82,.ref 82]),#[]⟩
noncomputable def o73:Obj:=⟨(.type "builtin_function_or_method"),none,(.fields #[.builtin "object.__init_subclass__",.ref 82]),#[]⟩
noncomputable def o74:=zt [.ref 82]
noncomputable def o76 (P:Params):Obj:=⟨zd,none,(.dict #[E P "__module__" 333 (zs "grammarmill.source" 194),E P "__qualname__" 335 (zs "RegexError" 334),E P "__firstlineno__" 337 (.int 42 336),E P "__static_attributes__" 338 (.ref 93)] 4),#[]⟩
noncomputable def o78:=zc "RegexError" "RegexError" 328 42 0 0 0 0 (.ref 89) (.bool false) (.ref 90) .none .none .none .none 331
noncomputable def o79:Obj:=⟨(.type "frame"),none,.plain,#[(some (.ref 91)),(some (.ref 3)),(some (.ref 88)),none,(some (zs "grammarmill.source" 194)),none,(some (.ref 0))]⟩
noncomputable def o81 (P:Params):Obj:=⟨zd,none,(.dict #[E P "__module__" 333 (zs "grammarmill.source" 194),E P "__firstlineno__" 337 (.int 42 336),E P "__static_attributes__" 338 (.ref 93),E P "__doc__" 339 .none] 2),#[]⟩
noncomputable def o82:Obj:=⟨(.type "type"),none,(.cls ⟨(S "RegexError"),[.ref 82],[.ref 95,.ref 82,.type "Exception",.type "BaseException",.type "object"],94,S "RegexError",true,[],[],false,none,false⟩),#[(some (.ref 86)),none,(some (zs "RegexError" 326)),(some (zs "RegexError" 334)),(some (.builtin "Exception.__new__")),(some (.bool true))]⟩
noncomputable def o83:Obj:=⟨(.type "super"),none,(.fields #[.ref 95,.ref 95,.ref 95]),#[]⟩
noncomputable def o84:Obj:=⟨(.type "builtin_function_or_method"),none,(.fields #[.builtin "object.__init_subclass__",.ref 95]),#[]⟩
noncomputable def o85 (P:Params):Obj:=⟨zd,none,(.dict #[E P "__name__" 165 (zs "grammarmill.charset" 519),E P "__doc__" 166 .none,E P "__package__" 167 .none,E P "__loader__" 168 (.builtin "__main__.__loader__#opaque"),E P "__spec__" 169 .none,E P "__annotations__" 170 (.ref 6),E P "__builtins__" 171 (.ref 4),E P "__file__" 173 (zs "/claim/cut.py" 172),E P "__cached__" 174 .none,E P "_wall" 193 (.ref 21),E P "SMALL" 197 (zs "abcdefghijklmnopqrstuvwxyz" 196),E P "LETTERS" 200 (zs "abcdefghijklmnopqrstuvwxyzABCDEFGHIJKLMNOPQRSTUVWXYZ" 199),E P "FIGURES" 202 (zs "0123456789" 201),E P "NAME_SIGNS" 206 (zs "abcdefghijklmnopqrstuvwxyzABCDEFGHIJKLMNOPQRSTUVWXYZ_0123456789" 205),E P "HEX_SIGNS" 209 (zs "0123456789abcdefABCDEF" 208),E P "OCTAL_SIGNS" 211 (zs "01234567" 210),E P "MOST_FIGURES" 213 (.int 4000 212),E P "PLAIN_ESCAPES" 235 (.ref 22),E P "Position" 275 (.ref 46),E P "position_of" 287 (.ref 57),E P "ToolError" 325 (.ref 82),E P "RegexError" 341 (.ref 95),E P "Cursor" 501 (.ref 222),E P "hex_escape" 509 (.ref 233),E P "escaped_sign" 518 (.ref 240),E P "TOP" 522 (.int 127 521),E P "HEX" 524 (zs "0123456789abcdef" 523),E P "BRACKET_SIGNS" 526 (zs "\\][^-" 525)] 28),#[]⟩
noncomputable def o86:Obj:=⟨zn,none,(.fields #[zi 1,zi 0,.ref 20,zi 13,zi 0,.ref 28,zi 22,zi 0,.ref 56,zi 31,zi 0,.ref 63,zi 42,zi 0,.ref 91,zi 44,zi 0,.ref 103,zi 141,zi 0,.ref 232,zi 144,zi 0,.ref 239]),#[]⟩
noncomputable def o89 (P:Params):Obj:=⟨zd,none,(.dict #[E P "__module__" 349 (zs "grammarmill.source" 194),E P "__qualname__" 351 (zs "Cursor" 350),E P "__firstlineno__" 353 (.int 44 352),E P "__init__" 363 (.ref 112),E P "is_done" 370 (.ref 119),E P "peek" 380 (.ref 127),E P "starts" 388 (.ref 134),E P "take" 396 (.ref 141),E P "skip" 404 (.ref 148),E P "take_while" 413 (.ref 155),E P "take_line" 420 (.ref 162),E P "skip_blanks" 429 (.ref 170),E P "name" 437 (.ref 177),E P "number" 446 (.ref 184),E P "position" 453 (.ref 191),E P "position_at" 461 (.ref 198),E P "coded" 473 (.ref 205),E P "escape" 481 (.ref 212),E P "quoted" 491 (.ref 219),E P "__static_attributes__" 494 (.ref 220)] 20),#[]⟩
noncomputable def o91:Obj:=⟨zn,none,(.fields #[zi 46,zi 4,.ref 111,zi 50,zi 4,.ref 118,zi 53,zi 4,.ref 126,zi 59,zi 4,.ref 133,zi 62,zi 4,.ref 140,zi 69,zi 4,.ref 147,zi 75,zi 4,.ref 154,zi 81,zi 4,.ref 161,zi 84,zi 4,.ref 169,zi 87,zi 4,.ref 176,zi 93,zi 4,.ref 183,zi 101,zi 4,.ref 190,zi 104,zi 4,.ref 197,zi 107,zi 4,.ref 204,zi 115,zi 4,.ref 211,zi 129,zi 4,.ref 218]),#[]⟩
noncomputable def o92:=zc "Cursor" "Cursor" 344 44 0 0 0 0 (.ref 101) (.bool false) (.ref 102) .none .none .none .none 347
noncomputable def o93:Obj:=⟨(.type "frame"),none,.plain,#[(some (.ref 103)),(some (.ref 3)),(some (.ref 100)),none,(some (zs "grammarmill.source" 194)),none,(some (.ref 0))]⟩
noncomputable def o94:=zt [.int 0 354]
noncomputable def o96:=zt [zs "self" 358,zs "text" 359,zs "at" 360]
noncomputable def o98:Obj:=⟨zn,none,(F (sm 14 0) "Cursor.__init__" 0 [] .none .none .none .none none .none .none 0),#[]⟩
noncomputable def o99:=zc "__init__" "Cursor.__init__" 355 46 3 0 0 3 (.ref 106) (.bool true) (.ref 107) .none (.ref 108) (.ref 109) (.ref 110) 361
noncomputable def o100:=zf (F (sm 14 0) "Cursor.__init__" 3 [] (.ref 105) .none .none (zs "grammarmill.source" 194) none (.ref 111) .none 0)
noncomputable def o102:=zt [zs "self" 367]
noncomputable def o104:Obj:=⟨zn,none,(F (sm 14 1) "Cursor.is_done" 0 [] .none .none .none .none none .none .none 0),#[]⟩
noncomputable def o105:=zc "is_done" "Cursor.is_done" 364 50 1 0 0 3 (.ref 113) (.bool true) (.ref 114) .none (.ref 115) (.ref 116) (.ref 117) 368
noncomputable def o106:=zf (F (sm 14 1) "Cursor.is_done" 3 [] .none .none .none (zs "grammarmill.source" 194) none (.ref 118) .none 0)
noncomputable def o107:=zt [.int 0 371]
noncomputable def o109:=zt [zs "self" 375,zs "ahead" 376,zs "at" 377]
noncomputable def o111:Obj:=⟨zn,none,(F (sm 14 2) "Cursor.peek" 0 [] .none .none .none .none none .none .none 0),#[]⟩
noncomputable def o112:=zc "peek" "Cursor.peek" 372 53 2 0 0 3 (.ref 121) (.bool true) (.ref 122) .none (.ref 123) (.ref 124) (.ref 125) 378
noncomputable def o113:=zf (F (sm 14 2) "Cursor.peek" 3 [] (.ref 120) .none .none (zs "grammarmill.source" 194) none (.ref 126) .none 0)
noncomputable def o115:=zt [zs "self" 384,zs "word" 385]
noncomputable def o117:Obj:=⟨zn,none,(F (sm 14 3) "Cursor.starts" 0 [] .none .none .none .none none .none .none 0),#[]⟩
noncomputable def o118:=zc "starts" "Cursor.starts" 381 59 2 0 0 3 (.ref 128) (.bool true) (.ref 129) .none (.ref 130) (.ref 131) (.ref 132) 386
noncomputable def o119:=zf (F (sm 14 3) "Cursor.starts" 3 [] .none .none .none (zs "grammarmill.source" 194) none (.ref 133) .none 0)
noncomputable def o121:=zt [zs "self" 392,zs "sign" 393]
noncomputable def o123:Obj:=⟨zn,none,(F (sm 14 4) "Cursor.take" 0 [] .none .none .none .none none .none .none 0),#[]⟩
noncomputable def o124:=zc "take" "Cursor.take" 389 62 1 0 0 3 (.ref 135) (.bool true) (.ref 136) .none (.ref 137) (.ref 138) (.ref 139) 394
noncomputable def o125:=zf (F (sm 14 4) "Cursor.take" 3 [] .none .none .none (zs "grammarmill.source" 194) none (.ref 140) .none 0)
noncomputable def o127:=zt [zs "self" 400,zs "word" 401]
noncomputable def o129:Obj:=⟨zn,none,(F (sm 14 5) "Cursor.skip" 0 [] .none .none .none .none none .none .none 0),#[]⟩
noncomputable def o130:=zc "skip" "Cursor.skip" 397 69 2 0 0 3 (.ref 142) (.bool true) (.ref 143) .none (.ref 144) (.ref 145) (.ref 146) 402
noncomputable def o131:=zf (F (sm 14 5) "Cursor.skip" 3 [] .none .none .none (zs "grammarmill.source" 194) none (.ref 147) .none 0)
noncomputable def o133:=zt [zs "self" 408,zs "signs" 409,zs "begun" 410]
noncomputable def o135:Obj:=⟨zn,none,(F (sm 14 6) "Cursor.take_while" 0 [] .none .none .none .none none .none .none 0),#[]⟩
noncomputable def o136:=zc "take_while" "Cursor.take_while" 405 75 2 0 0 3 (.ref 149) (.bool true) (.ref 150) .none (.ref 151) (.ref 152) (.ref 153) 411
noncomputable def o137:=zf (F (sm 14 6) "Cursor.take_while" 3 [] .none .none .none (zs "grammarmill.source" 194) none (.ref 154) .none 0)
noncomputable def o139:=zt [zs "self" 417]
noncomputable def o141:Obj:=⟨zn,none,(F (sm 14 7) "Cursor.take_line" 0 [] .none .none .none .none none .none .none 0),#[]⟩
noncomputable def o142:=zc "take_line" "Cursor.take_line" 414 81 1 0 0 3 (.ref 156) (.bool true) (.ref 157) .none (.ref 158) (.ref 159) (.ref 160) 418
noncomputable def o143:=zf (F (sm 14 7) "Cursor.take_line" 3 [] .none .none .none (zs "grammarmill.source" 194) none (.ref 161) .none 0)
noncomputable def o144:=zt [zs " \t" 421]
noncomputable def o146:=zt [zs "self" 425,zs "signs" 426]
noncomputable def o148:Obj:=⟨zn,none,(F (sm 14 8) "Cursor.skip_blanks" 0 [] .none .none .none .none none .none .none 0),#[]⟩
noncomputable def o149:=zc "skip_blanks" "Cursor.skip_blanks" 422 84 2 0 0 3 (.ref 164) (.bool true) (.ref 165) .none (.ref 166) (.ref 167) (.ref 168) 427
noncomputable def o150:=zf (F (sm 14 8) "Cursor.skip_blanks" 3 [] (.ref 163) .none .none (zs "grammarmill.source" 194) none (.ref 169) .none 0)
noncomputable def o152:=zt [zs "self" 433,zs "here" 434]
noncomputable def o154:Obj:=⟨zn,none,(F (sm 14 9) "Cursor.name" 0 [] .none .none .none .none none .none .none 0),#[]⟩
noncomputable def o155:=zc "name" "Cursor.name" 430 87 1 0 0 3 (.ref 171) (.bool true) (.ref 172) .none (.ref 173) (.ref 174) (.ref 175) 435
noncomputable def o156:=zf (F (sm 14 9) "Cursor.name" 3 [] .none .none .none (zs "grammarmill.source" 194) none (.ref 176) .none 0)
noncomputable def o158:=zt [zs "self" 441,zs "begun" 442,zs "figures" 443]
noncomputable def o160:Obj:=⟨zn,none,(F (sm 14 10) "Cursor.number" 0 [] .none .none .none .none none .none .none 0),#[]⟩
noncomputable def o161:=zc "number" "Cursor.number" 438 93 1 0 0 3 (.ref 178) (.bool true) (.ref 179) .none (.ref 180) (.ref 181) (.ref 182) 444
noncomputable def o162:=zf (F (sm 14 10) "Cursor.number" 3 [] .none .none .none (zs "grammarmill.source" 194) none (.ref 183) .none 0)
noncomputable def o164:=zt [zs "self" 450]
noncomputable def o166:Obj:=⟨zn,none,(F (sm 14 11) "Cursor.position" 0 [] .none .none .none .none none .none .none 0),#[]⟩
noncomputable def o167:=zc "position" "Cursor.position" 447 101 1 0 0 3 (.ref 185) (.bool true) (.ref 186) .none (.ref 187) (.ref 188) (.ref 189) 451
noncomputable def o168:=zf (F (sm 14 11) "Cursor.position" 3 [] .none .none .none (zs "grammarmill.source" 194) none (.ref 190) .none 0)
noncomputable def o170:=zt [zs "self" 457,zs "offset" 458]
noncomputable def o172:Obj:=⟨zn,none,(F (sm 14 12) "Cursor.position_at" 0 [] .none .none .none .none none .none .none 0),#[]⟩
noncomputable def o173:=zc "position_at" "Cursor.position_at" 454 104 2 0 0 3 (.ref 192) (.bool true) (.ref 193) .none (.ref 194) (.ref 195) (.ref 196) 459
noncomputable def o174:=zf (F (sm 14 12) "Cursor.position_at" 3 [] .none .none .none (zs "grammarmill.source" 194) none (.ref 197) .none 0)
noncomputable def o176:=zt [zs "self" 465,zs "signs" 466,zs "most" 467,zs "base" 468,zs "code" 469,zs "taken" 470]
noncomputable def o178:Obj:=⟨zn,none,(F (sm 14 13) "Cursor.coded" 0 [] .none .none .none .none none .none .none 0),#[]⟩
noncomputable def o179:=zc "coded" "Cursor.coded" 462 107 4 0 0 3 (.ref 199) (.bool true) (.ref 200) .none (.ref 201) (.ref 202) (.ref 203) 471
noncomputable def o180:=zf (F (sm 14 13) "Cursor.coded" 3 [] .none .none .none (zs "grammarmill.source" 194) none (.ref 204) .none 0)
noncomputable def o182:=zt [zs "self" 477,zs "sign" 478]
noncomputable def o184:Obj:=⟨zn,none,(F (sm 14 14) "Cursor.escape" 0 [] .none .none .none .none none .none .none 0),#[]⟩
noncomputable def o185:=zc "escape" "Cursor.escape" 474 115 1 0 0 3 (.ref 206) (.bool true) (.ref 207) .none (.ref 208) (.ref 209) (.ref 210) 479
noncomputable def o186:=zf (F (sm 14 14) "Cursor.escape" 3 [] .none .none .none (zs "grammarmill.source" 194) none (.ref 211) .none 0)
noncomputable def o188:=zt [zs "self" 485,zs "end" 486,zs "signs" 487,zs "sign" 488]
noncomputable def o190:Obj:=⟨zn,none,(F (sm 14 15) "Cursor.quoted" 0 [] .none .none .none .none none .none .none 0),#[]⟩
noncomputable def o191:=zc "quoted" "Cursor.quoted" 482 129 2 0 0 3 (.ref 213) (.bool true) (.ref 214) .none (.ref 215) (.ref 216) (.ref 217) 489
noncomputable def o192:=zf (F (sm 14 15) "Cursor.quoted" 3 [] .none .none .none (zs "grammarmill.source" 194) none (.ref 218) .none 0)
noncomputable def o193:=zt [zs "at" 492,zs "text" 493]
noncomputable def o194 (P:Params):Obj:=⟨zd,none,(.dict #[E P "__module__" 349 (zs "grammarmill.source" 194),E P "__firstlineno__" 353 (.int 44 352),E P "__init__" 363 (.ref 112),E P "is_done" 370 (.ref 119),E P "peek" 380 (.ref 127),E P "starts" 388 (.ref 134),E P "take" 396 (.ref 141),E P "skip" 404 (.ref 148),E P "take_while" 413 (.ref 155),E P "take_line" 420 (.ref 162),E P "skip_blanks" 429 (.ref 170),E P "name" 437 (.ref 177),E P "number" 446 (.ref 184),E P "position" 453 (.ref 191),E P "position_at" 461 (.ref 198),E P "coded" 473 (.ref 205),E P "escape" 481 (.ref 212),E P "quoted" 491 (.ref 219),E P "__static_attributes__" 494 (.ref 220),E P "__dict__" 496 (.ref 223),E P "__weakref__" 498 (.ref 224),E P "__doc__" 499 .none] 4),#[]⟩
noncomputable def o195:Obj:=⟨(.type "type"),none,(.cls ⟨(S "Cursor"),[.type "object"],[.ref 222,.type "object"],221,S "Cursor",true,[],[],false,none,false⟩),#[none,none,(some (zs "Cursor" 342)),(some (zs "Cursor" 350)),(some (.builtin "object.__new__")),(some (.bool true))]⟩
noncomputable def o196:Obj:=⟨(.type "getset_descriptor"),none,(.fields #[zs "__dict__" 495,.ref 222,.builtin "function.__dict__",.builtin "function.__dict__#set"]),#[]⟩
noncomputable def o197:Obj:=⟨(.type "getset_descriptor"),none,(.fields #[zs "__weakref__" 497,.ref 222,.builtin "ExceptionGroup.__weakref__",.none]),#[]⟩
noncomputable def o198:Obj:=⟨(.type "super"),none,(.fields #[.ref 222,.ref 222,.ref 222]),#[]⟩
noncomputable def o199:Obj:=⟨(.type "builtin_function_or_method"),none,(.fields #[.builtin "object.__init_subclass__",.ref 222]),#[]⟩
noncomputable def o201:=zt [zs "code" 505,zs "figures" 506]
noncomputable def o203:Obj:=⟨zn,none,(F (st 15) "hex_escape" 0 [] .none .none .none .none none .none .none 0),#[]⟩
noncomputable def o204:=zc "hex_escape" "hex_escape" 502 141 1 0 0 3 (.ref 227) (.bool true) (.ref 228) .none (.ref 229) (.ref 230) (.ref 231) 507
noncomputable def o205:=zf (F (st 15) "hex_escape" 3 [] .none .none .none (zs "grammarmill.source" 194) none (.ref 232) .none 0)
noncomputable def o207:=zt [zs "sign" 513,zs "marks" 514,zs "code" 515]
noncomputable def o209:Obj:=⟨zn,none,(F (st 16) "escaped_sign" 0 [] .none .none .none .none none .none .none 0),#[]⟩
noncomputable def o210:=zc "escaped_sign" "escaped_sign" 510 144 2 0 0 3 (.ref 234) (.bool true) (.ref 235) .none (.ref 236) (.ref 237) (.ref 238) 516
noncomputable def o211:=zf (F (st 16) "escaped_sign" 3 [] .none .none .none (zs "grammarmill.source" 194) none (.ref 239) .none 0)
noncomputable def o212 (P:Params):Obj:=⟨zd,none,(.dict #[E P "__name__" 165 (zs "grammarmill.charset" 519),E P "__doc__" 166 .none,E P "__package__" 167 .none,E P "__loader__" 168 (.builtin "__main__.__loader__#opaque"),E P "__spec__" 169 .none,E P "__annotations__" 170 (.ref 6),E P "__builtins__" 171 (.ref 4),E P "__file__" 173 (zs "/claim/cut.py" 172),E P "__cached__" 174 .none,E P "_wall" 193 (.ref 21),E P "SMALL" 197 (zs "abcdefghijklmnopqrstuvwxyz" 196),E P "LETTERS" 200 (zs "abcdefghijklmnopqrstuvwxyzABCDEFGHIJKLMNOPQRSTUVWXYZ" 199),E P "FIGURES" 202 (zs "0123456789" 201),E P "NAME_SIGNS" 206 (zs "abcdefghijklmnopqrstuvwxyzABCDEFGHIJKLMNOPQRSTUVWXYZ_0123456789" 205),E P "HEX_SIGNS" 209 (zs "0123456789abcdefABCDEF" 208),E P "OCTAL_SIGNS" 211 (zs "01234567" 210),E P "MOST_FIGURES" 213 (.int 4000 212),E P "PLAIN_ESCAPES" 235 (.ref 22),E P "Position" 275 (.ref 46),E P "position_of" 287 (.ref 57),E P "ToolError" 325 (.ref 82),E P "RegexError" 341 (.ref 95),E P "Cursor" 501 (.ref 222),E P "hex_escape" 509 (.ref 233),E P "escaped_sign" 518 (.ref 240),E P "TOP" 522 (.int 127 521),E P "HEX" 524 (zs "0123456789abcdef" 523),E P "BRACKET_SIGNS" 526 (zs "\\][^-" 525),E P "CLASS_SPANS" 597 (.ref 241)] 29),#[]⟩
noncomputable def o213 (P:Params):Obj:=⟨zd,none,(.dict #[E P "alpha" 527 (.ref 244),E P "digit" 532 (.ref 246),E P "alnum" 535 (.ref 250),E P "upper" 542 (.ref 252),E P "lower" 545 (.ref 254),E P "space" 548 (.ref 257),E P "blank" 553 (.ref 260),E P "punct" 558 (.ref 265),E P "xdigit" 567 (.ref 269),E P "cntrl" 574 (.ref 272),E P "print" 579 (.ref 274),E P "graph" 582 (.ref 276)] 12),#[]⟩
noncomputable def o214:=zt [.int 65 528,.int 90 529]
noncomputable def o215:=zt [.int 97 530,.int 122 531]
noncomputable def o216:=zt [.ref 242,.ref 243]
noncomputable def o217:=zt [.int 48 533,.int 57 534]
noncomputable def o218:=zt [.ref 245]
noncomputable def o219:=zt [.int 48 536,.int 57 537]
noncomputable def o220:=zt [.int 65 538,.int 90 539]
noncomputable def o221:=zt [.int 97 540,.int 122 541]
noncomputable def o222:=zt [.ref 247,.ref 248,.ref 249]
noncomputable def o223:=zt [.int 65 543,.int 90 544]
noncomputable def o224:=zt [.ref 251]
noncomputable def o225:=zt [.int 97 546,.int 122 547]
noncomputable def o226:=zt [.ref 253]
noncomputable def o227:=zt [.int 9 549,.int 13 550]
noncomputable def o228:=zt [.int 32 551,.int 32 552]
noncomputable def o229:=zt [.ref 255,.ref 256]
noncomputable def o230:=zt [.int 9 554,.int 9 555]
noncomputable def o231:=zt [.int 32 556,.int 32 557]
noncomputable def o232:=zt [.ref 258,.ref 259]
noncomputable def o233:=zt [.int 33 559,.int 47 560]
noncomputable def o234:=zt [.int 58 561,.int 64 562]
noncomputable def o235:=zt [.int 91 563,.int 96 564]
noncomputable def o236:=zt [.int 123 565,.int 126 566]
noncomputable def o237:=zt [.ref 261,.ref 262,.ref 263,.ref 264]
noncomputable def o238:=zt [.int 48 568,.int 57 569]
noncomputable def o239:=zt [.int 65 570,.int 70 571]
noncomputable def o240:=zt [.int 97 572,.int 102 573]
noncomputable def o241:=zt [.ref 266,.ref 267,.ref 268]
noncomputable def o242:=zt [.int 0 575,.int 31 576]
noncomputable def o243:=zt [.int 127 577,.int 127 578]
noncomputable def o244:=zt [.ref 270,.ref 271]
noncomputable def o245:=zt [.int 32 580,.int 126 581]
noncomputable def o246:=zt [.ref 273]
noncomputable def o247:=zt [.int 33 583,.int 126 584]
noncomputable def o248:=zt [.ref 275]
noncomputable def o249 (P:Params):Obj:=⟨zd,none,(.dict #[E P "__name__" 165 (zs "grammarmill.charset" 519),E P "__doc__" 166 .none,E P "__package__" 167 .none,E P "__loader__" 168 (.builtin "__main__.__loader__#opaque"),E P "__spec__" 169 .none,E P "__annotations__" 170 (.ref 6),E P "__builtins__" 171 (.ref 4),E P "__file__" 173 (zs "/claim/cut.py" 172),E P "__cached__" 174 .none,E P "_wall" 193 (.ref 21),E P "SMALL" 197 (zs "abcdefghijklmnopqrstuvwxyz" 196),E P "LETTERS" 200 (zs "abcdefghijklmnopqrstuvwxyzABCDEFGHIJKLMNOPQRSTUVWXYZ" 199),E P "FIGURES" 202 (zs "0123456789" 201),E P "NAME_SIGNS" 206 (zs "abcdefghijklmnopqrstuvwxyzABCDEFGHIJKLMNOPQRSTUVWXYZ_0123456789" 205),E P "HEX_SIGNS" 209 (zs "0123456789abcdefABCDEF" 208),E P "OCTAL_SIGNS" 211 (zs "01234567" 210),E P "MOST_FIGURES" 213 (.int 4000 212),E P "PLAIN_ESCAPES" 235 (.ref 22),E P "Position" 275 (.ref 46),E P "position_of" 287 (.ref 57),E P "ToolError" 325 (.ref 82),E P "RegexError" 341 (.ref 95),E P "Cursor" 501 (.ref 222),E P "hex_escape" 509 (.ref 233),E P "escaped_sign" 518 (.ref 240),E P "TOP" 522 (.int 127 521),E P "HEX" 524 (zs "0123456789abcdef" 523),E P "BRACKET_SIGNS" 526 (zs "\\][^-" 525),E P "CLASS_SPANS" 597 (.ref 241),E P "CharSet" 855 (.ref 442)] 30),#[]⟩
noncomputable def o250:Obj:=⟨zn,none,(.fields #[zi 1,zi 0,.ref 20,zi 13,zi 0,.ref 28,zi 22,zi 0,.ref 56,zi 31,zi 0,.ref 63,zi 42,zi 0,.ref 91,zi 44,zi 0,.ref 103,zi 141,zi 0,.ref 232,zi 144,zi 0,.ref 239,zi 160,zi 0,.ref 282]),#[]⟩
noncomputable def o253 (P:Params):Obj:=⟨zd,none,(.dict #[E P "__module__" 605 (zs "grammarmill.charset" 519),E P "__qualname__" 607 (zs "CharSet" 606),E P "__firstlineno__" 609 (.int 160 608),E P "__init__" 617 (.ref 290),E P "none" 635 (.ref 299),E P "every" 653 (.ref 309),E P "dot" 671 (.ref 319),E P "of" 689 (.ref 327),E P "span" 709 (.ref 337),E P "made" 734 (.ref 347),E P "has" 747 (.ref 355),E P "size" 757 (.ref 362),E P "codes" 767 (.ref 369),E P "least" 774 (.ref 376),E P "is_empty" 781 (.ref 383),E P "union" 789 (.ref 390),E P "meet" 797 (.ref 397),E P "complement" 808 (.ref 404),E P "minus" 816 (.ref 411),E P "same" 824 (.ref 418),E P "meets" 832 (.ref 425),E P "folded" 839 (.ref 432),E P "key" 846 (.ref 439),E P "__static_attributes__" 848 (.ref 440)] 24),#[]⟩
noncomputable def o255:Obj:=⟨zn,none,(.fields #[zi 162,zi 4,.ref 289,zi 166,zi 4,.ref 296,zi 170,zi 4,.ref 306,zi 174,zi 4,.ref 316,zi 178,zi 4,.ref 324,zi 182,zi 4,.ref 334,zi 186,zi 4,.ref 344,zi 202,zi 4,.ref 354,zi 216,zi 4,.ref 361,zi 222,zi 4,.ref 368,zi 228,zi 4,.ref 375,zi 233,zi 4,.ref 382,zi 236,zi 4,.ref 389,zi 239,zi 4,.ref 396,zi 242,zi 4,.ref 403,zi 253,zi 4,.ref 410,zi 256,zi 4,.ref 417,zi 259,zi 4,.ref 424,zi 262,zi 4,.ref 431,zi 265,zi 4,.ref 438]),#[]⟩
noncomputable def o256:=zc "CharSet" "CharSet" 600 160 0 0 0 0 (.ref 280) (.bool false) (.ref 281) .none .none .none .none 603
noncomputable def o257:Obj:=⟨(.type "frame"),none,.plain,#[(some (.ref 282)),(some (.ref 3)),(some (.ref 279)),none,(some (zs "grammarmill.charset" 519)),none,(some (.ref 0))]⟩
noncomputable def o259:=zt [zs "self" 613,zs "spans" 614]
noncomputable def o261:Obj:=⟨zn,none,(F (sm 22 0) "CharSet.__init__" 0 [] .none .none .none .none none .none .none 0),#[]⟩
noncomputable def o262:=zc "__init__" "CharSet.__init__" 610 162 2 0 0 3 (.ref 284) (.bool true) (.ref 285) .none (.ref 286) (.ref 287) (.ref 288) 615
noncomputable def o263:=zf (F (sm 22 0) "CharSet.__init__" 3 [] .none .none .none (zs "grammarmill.charset" 519) none (.ref 289) .none 0)
noncomputable def o267:Obj:=⟨zn,none,(F (sm 22 1) "CharSet.none" 0 [] .none .none .none .none none .none .none 0),#[]⟩
noncomputable def o268:=zc "none" "CharSet.none" 618 165 0 0 0 3 (.ref 291) (.bool true) (.ref 292) .none (.ref 293) (.ref 294) (.ref 295) 621
noncomputable def o269:=zf (F (sm 22 1) "CharSet.none" 3 [] .none .none .none (zs "grammarmill.charset" 519) (some 300) (.ref 296) .none 0)
noncomputable def o270 (P:Params):Obj:=⟨zd,none,(.dict #[E P "__module__" 624 (zs "grammarmill.charset" 519),E P "__name__" 627 (zs "none" 626),E P "__qualname__" 630 (zs "CharSet.none" 629),E P "__doc__" 632 .none,E P "__annotations__" 634 (.ref 300)] 5),#[]⟩
noncomputable def o271:Obj:=⟨(.type "staticmethod"),some 298,(.fields #[.ref 297,.bool false]),#[]⟩
noncomputable def o272:Obj:=⟨zd,none,(.dict #[] 0),#[]⟩
noncomputable def o276:Obj:=⟨zn,none,(F (sm 22 2) "CharSet.every" 0 [] .none .none .none .none none .none .none 0),#[]⟩
noncomputable def o277:=zc "every" "CharSet.every" 636 169 0 0 0 3 (.ref 301) (.bool true) (.ref 302) .none (.ref 303) (.ref 304) (.ref 305) 639
noncomputable def o278:=zf (F (sm 22 2) "CharSet.every" 3 [] .none .none .none (zs "grammarmill.charset" 519) (some 310) (.ref 306) .none 0)
noncomputable def o279 (P:Params):Obj:=⟨zd,none,(.dict #[E P "__module__" 642 (zs "grammarmill.charset" 519),E P "__name__" 645 (zs "every" 644),E P "__qualname__" 648 (zs "CharSet.every" 647),E P "__doc__" 650 .none,E P "__annotations__" 652 (.ref 310)] 5),#[]⟩
noncomputable def o280:Obj:=⟨(.type "staticmethod"),some 308,(.fields #[.ref 307,.bool false]),#[]⟩
noncomputable def o285:Obj:=⟨zn,none,(F (sm 22 3) "CharSet.dot" 0 [] .none .none .none .none none .none .none 0),#[]⟩
noncomputable def o286:=zc "dot" "CharSet.dot" 654 173 0 0 0 3 (.ref 311) (.bool true) (.ref 312) .none (.ref 313) (.ref 314) (.ref 315) 657
noncomputable def o287:=zf (F (sm 22 3) "CharSet.dot" 3 [] .none .none .none (zs "grammarmill.charset" 519) (some 320) (.ref 316) .none 0)
noncomputable def o288 (P:Params):Obj:=⟨zd,none,(.dict #[E P "__module__" 660 (zs "grammarmill.charset" 519),E P "__name__" 663 (zs "dot" 662),E P "__qualname__" 666 (zs "CharSet.dot" 665),E P "__doc__" 668 .none,E P "__annotations__" 670 (.ref 320)] 5),#[]⟩
noncomputable def o289:Obj:=⟨(.type "staticmethod"),some 318,(.fields #[.ref 317,.bool false]),#[]⟩
noncomputable def o292:Obj:=⟨zn,none,(F (sm 22 4) "CharSet.of" 0 [] .none .none .none .none none .none .none 0),#[]⟩
noncomputable def o293:=zc "of" "CharSet.of" 672 177 1 0 0 3 (.ref 321) (.bool true) (.ref 322) .none .none .none (.ref 323) 675
noncomputable def o294:=zf (F (sm 22 4) "CharSet.of" 3 [] .none .none .none (zs "grammarmill.charset" 519) (some 328) (.ref 324) .none 0)
noncomputable def o295 (P:Params):Obj:=⟨zd,none,(.dict #[E P "__module__" 678 (zs "grammarmill.charset" 519),E P "__name__" 681 (zs "of" 680),E P "__qualname__" 684 (zs "CharSet.of" 683),E P "__doc__" 686 .none,E P "__annotations__" 688 (.ref 328)] 5),#[]⟩
noncomputable def o296:Obj:=⟨(.type "staticmethod"),some 326,(.fields #[.ref 325,.bool false]),#[]⟩
noncomputable def o299:=zt [zs "low" 693,zs "high" 694]
noncomputable def o301:Obj:=⟨zn,none,(F (sm 22 5) "CharSet.span" 0 [] .none .none .none .none none .none .none 0),#[]⟩
noncomputable def o302:=zc "span" "CharSet.span" 690 181 2 0 0 3 (.ref 329) (.bool true) (.ref 330) .none (.ref 331) (.ref 332) (.ref 333) 695
noncomputable def o303:=zf (F (sm 22 5) "CharSet.span" 3 [] .none .none .none (zs "grammarmill.charset" 519) (some 338) (.ref 334) .none 0)
noncomputable def o304 (P:Params):Obj:=⟨zd,none,(.dict #[E P "__module__" 698 (zs "grammarmill.charset" 519),E P "__name__" 701 (zs "span" 700),E P "__qualname__" 704 (zs "CharSet.span" 703),E P "__doc__" 706 .none,E P "__annotations__" 708 (.ref 338)] 5),#[]⟩
noncomputable def o305:Obj:=⟨(.type "staticmethod"),some 336,(.fields #[.ref 335,.bool false]),#[]⟩
noncomputable def o308:=zt [zs "pairs" 713,zs "kept" 714,zs "first" 715,zs "last" 716,zs "low" 717,zs "high" 718,zs "spans" 719]
noncomputable def o310:Obj:=⟨zn,none,(F (sm 22 6) "CharSet.made" 0 [] .none .none .none .none none .none .none 0),#[]⟩
noncomputable def o311:=zc "made" "CharSet.made" 710 185 1 0 0 3 (.ref 339) (.bool true) (.ref 340) .none (.ref 341) (.ref 342) (.ref 343) 720
noncomputable def o312:=zf (F (sm 22 6) "CharSet.made" 3 [] .none .none .none (zs "grammarmill.charset" 519) (some 348) (.ref 344) .none 0)
noncomputable def o313 (P:Params):Obj:=⟨zd,none,(.dict #[E P "__module__" 723 (zs "grammarmill.charset" 519),E P "__name__" 726 (zs "made" 725),E P "__qualname__" 729 (zs "CharSet.made" 728),E P "__doc__" 731 .none,E P "__annotations__" 733 (.ref 348)] 5),#[]⟩
noncomputable def o314:Obj:=⟨(.type "staticmethod"),some 346,(.fields #[.ref 345,.bool false]),#[]⟩
noncomputable def o317:=zt [zs "self" 738,zs "code" 739,zs "left" 740,zs "right" 741,zs "middle" 742,zs "low" 743,zs "high" 744]
noncomputable def o319:Obj:=⟨zn,none,(F (sm 22 7) "CharSet.has" 0 [] .none .none .none .none none .none .none 0),#[]⟩
noncomputable def o320:=zc "has" "CharSet.has" 735 202 2 0 0 3 (.ref 349) (.bool true) (.ref 350) .none (.ref 351) (.ref 352) (.ref 353) 745
noncomputable def o321:=zf (F (sm 22 7) "CharSet.has" 3 [] .none .none .none (zs "grammarmill.charset" 519) none (.ref 354) .none 0)
noncomputable def o323:=zt [zs "self" 751,zs "total" 752,zs "low" 753,zs "high" 754]
noncomputable def o325:Obj:=⟨zn,none,(F (sm 22 8) "CharSet.size" 0 [] .none .none .none .none none .none .none 0),#[]⟩
noncomputable def o326:=zc "size" "CharSet.size" 748 216 1 0 0 3 (.ref 356) (.bool true) (.ref 357) .none (.ref 358) (.ref 359) (.ref 360) 755
noncomputable def o327:=zf (F (sm 22 8) "CharSet.size" 3 [] .none .none .none (zs "grammarmill.charset" 519) none (.ref 361) .none 0)
noncomputable def o329:=zt [zs "self" 761,zs "found" 762,zs "low" 763,zs "high" 764]
noncomputable def o331:Obj:=⟨zn,none,(F (sm 22 9) "CharSet.codes" 0 [] .none .none .none .none none .none .none 0),#[]⟩
noncomputable def o332:=zc "codes" "CharSet.codes" 758 222 1 0 0 3 (.ref 363) (.bool true) (.ref 364) .none (.ref 365) (.ref 366) (.ref 367) 765
noncomputable def o333:=zf (F (sm 22 9) "CharSet.codes" 3 [] .none .none .none (zs "grammarmill.charset" 519) none (.ref 368) .none 0)
noncomputable def o335:=zt [zs "self" 771]
noncomputable def o337:Obj:=⟨zn,none,(F (sm 22 10) "CharSet.least" 0 [] .none .none .none .none none .none .none 0),#[]⟩
noncomputable def o338:=zc "least" "CharSet.least" 768 228 1 0 0 3 (.ref 370) (.bool true) (.ref 371) .none (.ref 372) (.ref 373) (.ref 374) 772
noncomputable def o339:=zf (F (sm 22 10) "CharSet.least" 3 [] .none .none .none (zs "grammarmill.charset" 519) none (.ref 375) .none 0)
noncomputable def o341:=zt [zs "self" 778]
noncomputable def o343:Obj:=⟨zn,none,(F (sm 22 11) "CharSet.is_empty" 0 [] .none .none .none .none none .none .none 0),#[]⟩
noncomputable def o344:=zc "is_empty" "CharSet.is_empty" 775 233 1 0 0 3 (.ref 377) (.bool true) (.ref 378) .none (.ref 379) (.ref 380) (.ref 381) 779
noncomputable def o345:=zf (F (sm 22 11) "CharSet.is_empty" 3 [] .none .none .none (zs "grammarmill.charset" 519) none (.ref 382) .none 0)
noncomputable def o347:=zt [zs "self" 785,zs "other" 786]
noncomputable def o349:Obj:=⟨zn,none,(F (sm 22 12) "CharSet.union" 0 [] .none .none .none .none none .none .none 0),#[]⟩
noncomputable def o350:=zc "union" "CharSet.union" 782 236 2 0 0 3 (.ref 384) (.bool true) (.ref 385) .none (.ref 386) (.ref 387) (.ref 388) 787
noncomputable def o351:=zf (F (sm 22 12) "CharSet.union" 3 [] .none .none .none (zs "grammarmill.charset" 519) none (.ref 389) .none 0)
noncomputable def o353:=zt [zs "self" 793,zs "other" 794]
noncomputable def o355:Obj:=⟨zn,none,(F (sm 22 13) "CharSet.meet" 0 [] .none .none .none .none none .none .none 0),#[]⟩
noncomputable def o356:=zc "meet" "CharSet.meet" 790 239 2 0 0 3 (.ref 391) (.bool true) (.ref 392) .none (.ref 393) (.ref 394) (.ref 395) 795
noncomputable def o357:=zf (F (sm 22 13) "CharSet.meet" 3 [] .none .none .none (zs "grammarmill.charset" 519) none (.ref 396) .none 0)
noncomputable def o359:=zt [zs "self" 801,zs "spans" 802,zs "begin" 803,zs "low" 804,zs "high" 805]
noncomputable def o361:Obj:=⟨zn,none,(F (sm 22 14) "CharSet.complement" 0 [] .none .none .none .none none .none .none 0),#[]⟩
noncomputable def o362:=zc "complement" "CharSet.complement" 798 242 1 0 0 3 (.ref 398) (.bool true) (.ref 399) .none (.ref 400) (.ref 401) (.ref 402) 806
noncomputable def o363:=zf (F (sm 22 14) "CharSet.complement" 3 [] .none .none .none (zs "grammarmill.charset" 519) none (.ref 403) .none 0)
noncomputable def o365:=zt [zs "self" 812,zs "other" 813]
noncomputable def o367:Obj:=⟨zn,none,(F (sm 22 15) "CharSet.minus" 0 [] .none .none .none .none none .none .none 0),#[]⟩
noncomputable def o368:=zc "minus" "CharSet.minus" 809 253 2 0 0 3 (.ref 405) (.bool true) (.ref 406) .none (.ref 407) (.ref 408) (.ref 409) 814
noncomputable def o369:=zf (F (sm 22 15) "CharSet.minus" 3 [] .none .none .none (zs "grammarmill.charset" 519) none (.ref 410) .none 0)
noncomputable def o371:=zt [zs "self" 820,zs "other" 821]
noncomputable def o373:Obj:=⟨zn,none,(F (sm 22 16) "CharSet.same" 0 [] .none .none .none .none none .none .none 0),#[]⟩
noncomputable def o374:=zc "same" "CharSet.same" 817 256 2 0 0 3 (.ref 412) (.bool true) (.ref 413) .none (.ref 414) (.ref 415) (.ref 416) 822
noncomputable def o375:=zf (F (sm 22 16) "CharSet.same" 3 [] .none .none .none (zs "grammarmill.charset" 519) none (.ref 417) .none 0)
noncomputable def o377:=zt [zs "self" 828,zs "other" 829]
noncomputable def o379:Obj:=⟨zn,none,(F (sm 22 17) "CharSet.meets" 0 [] .none .none .none .none none .none .none 0),#[]⟩
noncomputable def o380:=zc "meets" "CharSet.meets" 825 259 2 0 0 3 (.ref 419) (.bool true) (.ref 420) .none (.ref 421) (.ref 422) (.ref 423) 830
noncomputable def o381:=zf (F (sm 22 17) "CharSet.meets" 3 [] .none .none .none (zs "grammarmill.charset" 519) none (.ref 424) .none 0)
noncomputable def o383:=zt [zs "self" 836]
noncomputable def o385:Obj:=⟨zn,none,(F (sm 22 18) "CharSet.folded" 0 [] .none .none .none .none none .none .none 0),#[]⟩
noncomputable def o386:=zc "folded" "CharSet.folded" 833 262 1 0 0 3 (.ref 426) (.bool true) (.ref 427) .none (.ref 428) (.ref 429) (.ref 430) 837
noncomputable def o387:=zf (F (sm 22 18) "CharSet.folded" 3 [] .none .none .none (zs "grammarmill.charset" 519) none (.ref 431) .none 0)
noncomputable def o389:=zt [zs "self" 843]
noncomputable def o391:Obj:=⟨zn,none,(F (sm 22 19) "CharSet.key" 0 [] .none .none .none .none none .none .none 0),#[]⟩
noncomputable def o392:=zc "key" "CharSet.key" 840 265 1 0 0 3 (.ref 433) (.bool true) (.ref 434) .none (.ref 435) (.ref 436) (.ref 437) 844
noncomputable def o393:=zf (F (sm 22 19) "CharSet.key" 3 [] .none .none .none (zs "grammarmill.charset" 519) none (.ref 438) .none 0)
noncomputable def o394:=zt [zs "spans" 847]
noncomputable def o395 (P:Params):Obj:=⟨zd,none,(.dict #[E P "__module__" 605 (zs "grammarmill.charset" 519),E P "__firstlineno__" 609 (.int 160 608),E P "__init__" 617 (.ref 290),E P "none" 635 (.ref 299),E P "every" 653 (.ref 309),E P "dot" 671 (.ref 319),E P "of" 689 (.ref 327),E P "span" 709 (.ref 337),E P "made" 734 (.ref 347),E P "has" 747 (.ref 355),E P "size" 757 (.ref 362),E P "codes" 767 (.ref 369),E P "least" 774 (.ref 376),E P "is_empty" 781 (.ref 383),E P "union" 789 (.ref 390),E P "meet" 797 (.ref 397),E P "complement" 808 (.ref 404),E P "minus" 816 (.ref 411),E P "same" 824 (.ref 418),E P "meets" 832 (.ref 425),E P "folded" 839 (.ref 432),E P "key" 846 (.ref 439),E P "__static_attributes__" 848 (.ref 440),E P "__dict__" 850 (.ref 443),E P "__weakref__" 852 (.ref 444),E P "__doc__" 853 .none] 4),#[]⟩
noncomputable def o396:Obj:=⟨(.type "type"),none,(.cls ⟨(S "CharSet"),[.type "object"],[.ref 442,.type "object"],441,S "CharSet",true,[],[],false,none,false⟩),#[none,none,(some (zs "CharSet" 598)),(some (zs "CharSet" 606)),(some (.builtin "object.__new__")),(some (.bool true))]⟩
noncomputable def o397:Obj:=⟨(.type "getset_descriptor"),none,(.fields #[zs "__dict__" 849,.ref 442,.builtin "function.__dict__",.builtin "function.__dict__#set"]),#[]⟩
noncomputable def o398:Obj:=⟨(.type "getset_descriptor"),none,(.fields #[zs "__weakref__" 851,.ref 442,.builtin "ExceptionGroup.__weakref__",.none]),#[]⟩
noncomputable def o399:Obj:=⟨(.type "super"),none,(.fields #[.ref 442,.ref 442,.ref 442]),#[]⟩
noncomputable def o400:Obj:=⟨(.type "builtin_function_or_method"),none,(.fields #[.builtin "object.__init_subclass__",.ref 442]),#[]⟩
noncomputable def o401 (P:Params):Obj:=⟨zd,none,(.dict #[E P "__name__" 165 (zs "grammarmill.regex" 882),E P "__doc__" 166 .none,E P "__package__" 167 .none,E P "__loader__" 168 (.builtin "__main__.__loader__#opaque"),E P "__spec__" 169 .none,E P "__annotations__" 170 (.ref 6),E P "__builtins__" 171 (.ref 4),E P "__file__" 173 (zs "/claim/cut.py" 172),E P "__cached__" 174 .none,E P "_wall" 193 (.ref 21),E P "SMALL" 197 (zs "abcdefghijklmnopqrstuvwxyz" 196),E P "LETTERS" 200 (zs "abcdefghijklmnopqrstuvwxyzABCDEFGHIJKLMNOPQRSTUVWXYZ" 199),E P "FIGURES" 202 (zs "0123456789" 201),E P "NAME_SIGNS" 206 (zs "abcdefghijklmnopqrstuvwxyzABCDEFGHIJKLMNOPQRSTUVWXYZ_0123456789" 205),E P "HEX_SIGNS" 209 (zs "0123456789abcdefABCDEF" 208),E P "OCTAL_SIGNS" 211 (zs "01234567" 210),E P "MOST_FIGURES" 213 (.int 4000 212),E P "PLAIN_ESCAPES" 235 (.ref 22),E P "Position" 275 (.ref 46),E P "position_of" 287 (.ref 57),E P "ToolError" 325 (.ref 82),E P "RegexError" 341 (.ref 95),E P "Cursor" 501 (.ref 222),E P "hex_escape" 509 (.ref 233),E P "escaped_sign" 518 (.ref 240),E P "TOP" 522 (.int 127 521),E P "HEX" 524 (zs "0123456789abcdef" 523),E P "BRACKET_SIGNS" 526 (zs "\\][^-" 525),E P "CLASS_SPANS" 597 (.ref 241),E P "CharSet" 855 (.ref 442),E P "show_code" 863 (.ref 453),E P "told" 873 (.ref 460),E P "named_class" 881 (.ref 467),E P "MOST_REPEAT" 885 (.int 40 884),E P "MOST_NESTED" 887 (.int 20 886),E P "BLANKS" 889 (zs " \t\n" 888),E P "STRAY_SIGNS" 891 (zs "*+?]}^$/ \t\n" 890),E P "NEWLINE" 893 (zs "\n" 892),E P "Node" 929 (.ref 491),E P "Empty" 947 (.ref 505)] 40),#[]⟩
noncomputable def o402:Obj:=⟨zn,none,(.fields #[zi 1,zi 0,.ref 20,zi 13,zi 0,.ref 28,zi 22,zi 0,.ref 56,zi 31,zi 0,.ref 63,zi 42,zi 0,.ref 91,zi 44,zi 0,.ref 103,zi 141,zi 0,.ref 232,zi 144,zi 0,.ref 239,zi 160,zi 0,.ref 282,zi 267,zi 0,.ref 452,zi 274,zi 0,.ref 459,zi 285,zi 0,.ref 466,zi 296,zi 0,.ref 473,zi 304,zi 0,.ref 501]),#[]⟩
noncomputable def o404:=zt [zs "code" 859,zs "sign" 860]
noncomputable def o406:Obj:=⟨zn,none,(F (st 23) "show_code" 0 [] .none .none .none .none none .none .none 0),#[]⟩
noncomputable def o407:=zc "show_code" "show_code" 856 267 1 0 0 3 (.ref 447) (.bool true) (.ref 448) .none (.ref 449) (.ref 450) (.ref 451) 861
noncomputable def o408:=zf (F (st 23) "show_code" 3 [] .none .none .none (zs "grammarmill.charset" 519) none (.ref 452) .none 0)
noncomputable def o410:=zt [zs "charset" 867,zs "parts" 868,zs "low" 869,zs "high" 870]
noncomputable def o412:Obj:=⟨zn,none,(F (st 24) "told" 0 [] .none .none .none .none none .none .none 0),#[]⟩
noncomputable def o413:=zc "told" "told" 864 274 1 0 0 3 (.ref 454) (.bool true) (.ref 455) .none (.ref 456) (.ref 457) (.ref 458) 871
noncomputable def o414:=zf (F (st 24) "told" 3 [] .none .none .none (zs "grammarmill.charset" 519) none (.ref 459) .none 0)
noncomputable def o416:=zt [zs "name" 877,zs "spans" 878]
noncomputable def o418:Obj:=⟨zn,none,(F (st 25) "named_class" 0 [] .none .none .none .none none .none .none 0),#[]⟩
noncomputable def o419:=zc "named_class" "named_class" 874 285 1 0 0 3 (.ref 461) (.bool true) (.ref 462) .none (.ref 463) (.ref 464) (.ref 465) 879
noncomputable def o420:=zf (F (st 25) "named_class" 3 [] .none .none .none (zs "grammarmill.charset" 519) none (.ref 466) .none 0)
noncomputable def o423 (P:Params):Obj:=⟨zd,none,(.dict #[E P "__module__" 901 (zs "grammarmill.regex" 882),E P "__qualname__" 903 (zs "Node" 902),E P "__firstlineno__" 905 (.int 296 904),E P "name" 907 (zs "node" 906),E P "parts" 914 (.ref 481),E P "told" 921 (.ref 488),E P "__static_attributes__" 922 (.ref 489)] 7),#[]⟩
noncomputable def o425:Obj:=⟨zn,none,(.fields #[zi 299,zi 4,.ref 480,zi 302,zi 4,.ref 487]),#[]⟩
noncomputable def o426:=zc "Node" "Node" 896 296 0 0 0 0 (.ref 471) (.bool false) (.ref 472) .none .none .none .none 899
noncomputable def o427:Obj:=⟨(.type "frame"),none,.plain,#[(some (.ref 473)),(some (.ref 3)),(some (.ref 470)),none,(some (zs "grammarmill.regex" 882)),none,(some (.ref 0))]⟩
noncomputable def o429:=zt [zs "self" 911]
noncomputable def o431:Obj:=⟨zn,none,(F (sm 32 1) "Node.parts" 0 [] .none .none .none .none none .none .none 0),#[]⟩
noncomputable def o432:=zc "parts" "Node.parts" 908 299 1 0 0 3 (.ref 475) (.bool true) (.ref 476) .none (.ref 477) (.ref 478) (.ref 479) 912
noncomputable def o433:=zf (F (sm 32 1) "Node.parts" 3 [] .none .none .none (zs "grammarmill.regex" 882) none (.ref 480) .none 0)
noncomputable def o435:=zt [zs "self" 918]
noncomputable def o437:Obj:=⟨zn,none,(F (sm 32 2) "Node.told" 0 [] .none .none .none .none none .none .none 0),#[]⟩
noncomputable def o438:=zc "told" "Node.told" 915 302 1 0 0 3 (.ref 482) (.bool true) (.ref 483) .none (.ref 484) (.ref 485) (.ref 486) 919
noncomputable def o439:=zf (F (sm 32 2) "Node.told" 3 [] .none .none .none (zs "grammarmill.regex" 882) none (.ref 487) .none 0)
noncomputable def o441 (P:Params):Obj:=⟨zd,none,(.dict #[E P "__module__" 901 (zs "grammarmill.regex" 882),E P "__firstlineno__" 905 (.int 296 904),E P "name" 907 (zs "node" 906),E P "parts" 914 (.ref 481),E P "told" 921 (.ref 488),E P "__static_attributes__" 922 (.ref 489),E P "__dict__" 924 (.ref 492),E P "__weakref__" 926 (.ref 493),E P "__doc__" 927 .none] 4),#[]⟩
noncomputable def o442:Obj:=⟨(.type "type"),none,(.cls ⟨(S "Node"),[.type "object"],[.ref 491,.type "object"],490,S "Node",true,[],[.ref 505],false,none,false⟩),#[none,none,(some (zs "Node" 894)),(some (zs "Node" 902)),(some (.builtin "object.__new__")),(some (.bool true))]⟩
noncomputable def o443:Obj:=⟨(.type "getset_descriptor"),none,(.fields #[zs "__dict__" 923,.ref 491,.builtin "function.__dict__",.builtin "function.__dict__#set"]),#[]⟩
noncomputable def o444:Obj:=⟨(.type "getset_descriptor"),none,(.fields #[zs "__weakref__" 925,.ref 491,.builtin "ExceptionGroup.__weakref__",.none]),#[]⟩
noncomputable def o445:Obj:=⟨(.type "super"),none,(.fields #[.ref 491,.ref 491,.ref 491]),#[]⟩
noncomputable def o446:Obj:=⟨(.type "builtin_function_or_method"),none,(.fields #[.builtin "object.__init_subclass__",.ref 491]),#[]⟩
noncomputable def o447:=zt [.ref 491]
noncomputable def o449 (P:Params):Obj:=⟨zd,none,(.dict #[E P "__module__" 937 (zs "grammarmill.regex" 882),E P "__qualname__" 939 (zs "Empty" 938),E P "__firstlineno__" 941 (.int 304 940),E P "name" 943 (zs "empty" 942),E P "__static_attributes__" 944 (.ref 503)] 5),#[]⟩
noncomputable def o451:=zc "Empty" "Empty" 932 304 0 0 0 0 (.ref 499) (.bool false) (.ref 500) .none .none .none .none 935
noncomputable def o452:Obj:=⟨(.type "frame"),none,.plain,#[(some (.ref 501)),(some (.ref 3)),(some (.ref 498)),none,(some (zs "grammarmill.regex" 882)),none,(some (.ref 0))]⟩
noncomputable def o454 (P:Params):Obj:=⟨zd,none,(.dict #[E P "__module__" 937 (zs "grammarmill.regex" 882),E P "__firstlineno__" 941 (.int 304 940),E P "name" 943 (zs "empty" 942),E P "__static_attributes__" 944 (.ref 503),E P "__doc__" 945 .none] 2),#[]⟩
noncomputable def o455:Obj:=⟨(.type "type"),none,(.cls ⟨(S "Empty"),[.ref 491],[.ref 505,.ref 491,.type "object"],504,S "Empty",true,[],[],false,none,false⟩),#[(some (.ref 496)),none,(some (zs "Empty" 930)),(some (zs "Empty" 938)),(some (.builtin "object.__new__")),(some (.bool true))]⟩
noncomputable def o456:Obj:=⟨(.type "super"),none,(.fields #[.ref 505,.ref 505,.ref 505]),#[]⟩
noncomputable def o457:Obj:=⟨(.type "builtin_function_or_method"),none,(.fields #[.builtin "object.__init_subclass__",.ref 505]),#[]⟩
noncomputable def o458 (P:Params):Obj:=⟨zd,none,(.dict #[E P "__name__" 165 (zs "grammarmill.regex" 882),E P "__doc__" 166 .none,E P "__package__" 167 .none,E P "__loader__" 168 (.builtin "__main__.__loader__#opaque"),E P "__spec__" 169 .none,E P "__annotations__" 170 (.ref 6),E P "__builtins__" 171 (.ref 4),E P "__file__" 173 (zs "/claim/cut.py" 172),E P "__cached__" 174 .none,E P "_wall" 193 (.ref 21),E P "SMALL" 197 (zs "abcdefghijklmnopqrstuvwxyz" 196),E P "LETTERS" 200 (zs "abcdefghijklmnopqrstuvwxyzABCDEFGHIJKLMNOPQRSTUVWXYZ" 199),E P "FIGURES" 202 (zs "0123456789" 201),E P "NAME_SIGNS" 206 (zs "abcdefghijklmnopqrstuvwxyzABCDEFGHIJKLMNOPQRSTUVWXYZ_0123456789" 205),E P "HEX_SIGNS" 209 (zs "0123456789abcdefABCDEF" 208),E P "OCTAL_SIGNS" 211 (zs "01234567" 210),E P "MOST_FIGURES" 213 (.int 4000 212),E P "PLAIN_ESCAPES" 235 (.ref 22),E P "Position" 275 (.ref 46),E P "position_of" 287 (.ref 57),E P "ToolError" 325 (.ref 82),E P "RegexError" 341 (.ref 95),E P "Cursor" 501 (.ref 222),E P "hex_escape" 509 (.ref 233),E P "escaped_sign" 518 (.ref 240),E P "TOP" 522 (.int 127 521),E P "HEX" 524 (zs "0123456789abcdef" 523),E P "BRACKET_SIGNS" 526 (zs "\\][^-" 525),E P "CLASS_SPANS" 597 (.ref 241),E P "CharSet" 855 (.ref 442),E P "show_code" 863 (.ref 453),E P "told" 873 (.ref 460),E P "named_class" 881 (.ref 467),E P "MOST_REPEAT" 885 (.int 40 884),E P "MOST_NESTED" 887 (.int 20 886),E P "BLANKS" 889 (zs " \t\n" 888),E P "STRAY_SIGNS" 891 (zs "*+?]}^$/ \t\n" 890),E P "NEWLINE" 893 (zs "\n" 892),E P "Node" 929 (.ref 491),E P "Empty" 947 (.ref 505),E P "Never" 965 (.ref 517),E P "Chars" 999 (.ref 543),E P "Pair" 1043 (.ref 576)] 43),#[]⟩
noncomputable def o459:Obj:=⟨zn,none,(.fields #[zi 1,zi 0,.ref 20,zi 13,zi 0,.ref 28,zi 22,zi 0,.ref 56,zi 31,zi 0,.ref 63,zi 42,zi 0,.ref 91,zi 44,zi 0,.ref 103,zi 141,zi 0,.ref 232,zi 144,zi 0,.ref 239,zi 160,zi 0,.ref 282,zi 267,zi 0,.ref 452,zi 274,zi 0,.ref 459,zi 285,zi 0,.ref 466,zi 296,zi 0,.ref 473,zi 304,zi 0,.ref 501,zi 306,zi 0,.ref 513,zi 308,zi 0,.ref 525,zi 316,zi 0,.ref 551]),#[]⟩
noncomputable def o460:Obj:=⟨(.type "type"),none,(.cls ⟨(S "Node"),[.type "object"],[.ref 491,.type "object"],490,S "Node",true,[],[.ref 505,.ref 517,.ref 543,.ref 576],false,none,false⟩),#[none,none,(some (zs "Node" 894)),(some (zs "Node" 902)),(some (.builtin "object.__new__")),(some (.bool true))]⟩
noncomputable def o463 (P:Params):Obj:=⟨zd,none,(.dict #[E P "__module__" 955 (zs "grammarmill.regex" 882),E P "__qualname__" 957 (zs "Never" 956),E P "__firstlineno__" 959 (.int 306 958),E P "name" 961 (zs "never" 960),E P "__static_attributes__" 962 (.ref 515)] 5),#[]⟩
noncomputable def o465:=zc "Never" "Never" 950 306 0 0 0 0 (.ref 511) (.bool false) (.ref 512) .none .none .none .none 953
noncomputable def o466:Obj:=⟨(.type "frame"),none,.plain,#[(some (.ref 513)),(some (.ref 3)),(some (.ref 510)),none,(some (zs "grammarmill.regex" 882)),none,(some (.ref 0))]⟩
noncomputable def o468 (P:Params):Obj:=⟨zd,none,(.dict #[E P "__module__" 955 (zs "grammarmill.regex" 882),E P "__firstlineno__" 959 (.int 306 958),E P "name" 961 (zs "never" 960),E P "__static_attributes__" 962 (.ref 515),E P "__doc__" 963 .none] 2),#[]⟩
noncomputable def o469:Obj:=⟨(.type "type"),none,(.cls ⟨(S "Never"),[.ref 491],[.ref 517,.ref 491,.type "object"],516,S "Never",true,[],[],false,none,false⟩),#[(some (.ref 508)),none,(some (zs "Never" 948)),(some (zs "Never" 956)),(some (.builtin "object.__new__")),(some (.bool true))]⟩
noncomputable def o470:Obj:=⟨(.type "super"),none,(.fields #[.ref 517,.ref 517,.ref 517]),#[]⟩
noncomputable def o471:Obj:=⟨(.type "builtin_function_or_method"),none,(.fields #[.builtin "object.__init_subclass__",.ref 517]),#[]⟩
noncomputable def o474 (P:Params):Obj:=⟨zd,none,(.dict #[E P "__module__" 973 (zs "grammarmill.regex" 882),E P "__qualname__" 975 (zs "Chars" 974),E P "__firstlineno__" 977 (.int 308 976),E P "name" 979 (zs "chars" 978),E P "__init__" 987 (.ref 533),E P "told" 994 (.ref 540),E P "__static_attributes__" 996 (.ref 541)] 7),#[]⟩
noncomputable def o476:Obj:=⟨zn,none,(.fields #[zi 311,zi 4,.ref 532,zi 314,zi 4,.ref 539]),#[]⟩
noncomputable def o477:=zc "Chars" "Chars" 968 308 0 0 0 0 (.ref 523) (.bool false) (.ref 524) .none .none .none .none 971
noncomputable def o478:Obj:=⟨(.type "frame"),none,.plain,#[(some (.ref 525)),(some (.ref 3)),(some (.ref 522)),none,(some (zs "grammarmill.regex" 882)),none,(some (.ref 0))]⟩
noncomputable def o480:=zt [zs "self" 983,zs "charset" 984]
noncomputable def o482:Obj:=⟨zn,none,(F (sm 35 1) "Chars.__init__" 0 [] .none .none .none .none none .none .none 0),#[]⟩
noncomputable def o483:=zc "__init__" "Chars.__init__" 980 311 2 0 0 3 (.ref 527) (.bool true) (.ref 528) .none (.ref 529) (.ref 530) (.ref 531) 985
noncomputable def o484:=zf (F (sm 35 1) "Chars.__init__" 3 [] .none .none .none (zs "grammarmill.regex" 882) none (.ref 532) .none 0)
noncomputable def o486:=zt [zs "self" 991]
noncomputable def o488:Obj:=⟨zn,none,(F (sm 35 2) "Chars.told" 0 [] .none .none .none .none none .none .none 0),#[]⟩
noncomputable def o489:=zc "told" "Chars.told" 988 314 1 0 0 3 (.ref 534) (.bool true) (.ref 535) .none (.ref 536) (.ref 537) (.ref 538) 992
noncomputable def o490:=zf (F (sm 35 2) "Chars.told" 3 [] .none .none .none (zs "grammarmill.regex" 882) none (.ref 539) .none 0)
noncomputable def o491:=zt [zs "charset" 995]
noncomputable def o492 (P:Params):Obj:=⟨zd,none,(.dict #[E P "__module__" 973 (zs "grammarmill.regex" 882),E P "__firstlineno__" 977 (.int 308 976),E P "name" 979 (zs "chars" 978),E P "__init__" 987 (.ref 533),E P "told" 994 (.ref 540),E P "__static_attributes__" 996 (.ref 541),E P "__doc__" 997 .none] 2),#[]⟩
noncomputable def o493:Obj:=⟨(.type "type"),none,(.cls ⟨(S "Chars"),[.ref 491],[.ref 543,.ref 491,.type "object"],542,S "Chars",true,[],[],false,none,false⟩),#[(some (.ref 520)),none,(some (zs "Chars" 966)),(some (zs "Chars" 974)),(some (.builtin "object.__new__")),(some (.bool true))]⟩
noncomputable def o494:Obj:=⟨(.type "super"),none,(.fields #[.ref 543,.ref 543,.ref 543]),#[]⟩
noncomputable def o495:Obj:=⟨(.type "builtin_function_or_method"),none,(.fields #[.builtin "object.__init_subclass__",.ref 543]),#[]⟩
noncomputable def o498 (P:Params):Obj:=⟨zd,none,(.dict #[E P "__module__" 1007 (zs "grammarmill.regex" 882),E P "__qualname__" 1009 (zs "Pair" 1008),E P "__firstlineno__" 1011 (.int 316 1010),E P "__init__" 1020 (.ref 559),E P "parts" 1027 (.ref 566),E P "told" 1037 (.ref 573),E P "__static_attributes__" 1040 (.ref 574)] 7),#[]⟩
noncomputable def o500:Obj:=⟨zn,none,(.fields #[zi 318,zi 4,.ref 558,zi 322,zi 4,.ref 565,zi 325,zi 4,.ref 572]),#[]⟩
noncomputable def o501:=zc "Pair" "Pair" 1002 316 0 0 0 0 (.ref 549) (.bool false) (.ref 550) .none .none .none .none 1005
noncomputable def o502:Obj:=⟨(.type "frame"),none,.plain,#[(some (.ref 551)),(some (.ref 3)),(some (.ref 548)),none,(some (zs "grammarmill.regex" 882)),none,(some (.ref 0))]⟩
noncomputable def o504:=zt [zs "self" 1015,zs "left" 1016,zs "right" 1017]
noncomputable def o506:Obj:=⟨zn,none,(F (sm 36 0) "Pair.__init__" 0 [] .none .none .none .none none .none .none 0),#[]⟩
noncomputable def o507:=zc "__init__" "Pair.__init__" 1012 318 3 0 0 3 (.ref 553) (.bool true) (.ref 554) .none (.ref 555) (.ref 556) (.ref 557) 1018
noncomputable def o508:=zf (F (sm 36 0) "Pair.__init__" 3 [] .none .none .none (zs "grammarmill.regex" 882) none (.ref 558) .none 0)
noncomputable def o510:=zt [zs "self" 1024]
noncomputable def o512:Obj:=⟨zn,none,(F (sm 36 1) "Pair.parts" 0 [] .none .none .none .none none .none .none 0),#[]⟩
noncomputable def o513:=zc "parts" "Pair.parts" 1021 322 1 0 0 3 (.ref 560) (.bool true) (.ref 561) .none (.ref 562) (.ref 563) (.ref 564) 1025
noncomputable def o514:=zf (F (sm 36 1) "Pair.parts" 3 [] .none .none .none (zs "grammarmill.regex" 882) none (.ref 565) .none 0)
noncomputable def o516:=zt [zs "self" 1031,zs "row" 1032,zs "text" 1033,zs "part" 1034]
noncomputable def o518:Obj:=⟨zn,none,(F (sm 36 2) "Pair.told" 0 [] .none .none .none .none none .none .none 0),#[]⟩
noncomputable def o519:=zc "told" "Pair.told" 1028 325 1 0 0 3 (.ref 567) (.bool true) (.ref 568) .none (.ref 569) (.ref 570) (.ref 571) 1035
noncomputable def o520:=zf (F (sm 36 2) "Pair.told" 3 [] .none .none .none (zs "grammarmill.regex" 882) none (.ref 572) .none 0)
noncomputable def o521:=zt [zs "left" 1038,zs "right" 1039]
noncomputable def o522 (P:Params):Obj:=⟨zd,none,(.dict #[E P "__module__" 1007 (zs "grammarmill.regex" 882),E P "__firstlineno__" 1011 (.int 316 1010),E P "__init__" 1020 (.ref 559),E P "parts" 1027 (.ref 566),E P "told" 1037 (.ref 573),E P "__static_attributes__" 1040 (.ref 574),E P "__doc__" 1041 .none] 2),#[]⟩
noncomputable def o523:Obj:=⟨(.type "type"),none,(.cls ⟨(S "Pair"),[.ref 491],[.ref 576,.ref 491,.type "object"],575,S "Pair",true,[],[],false,none,false⟩),#[(some (.ref 546)),none,(some (zs "Pair" 1000)),(some (zs "Pair" 1008)),(some (.builtin "object.__new__")),(some (.bool true))]⟩
noncomputable def o524:Obj:=⟨(.type "super"),none,(.fields #[.ref 576,.ref 576,.ref 576]),#[]⟩
noncomputable def o525:Obj:=⟨(.type "builtin_function_or_method"),none,(.fields #[.builtin "object.__init_subclass__",.ref 576]),#[]⟩
noncomputable def o526 (P:Params):Obj:=⟨zd,none,(.dict #[E P "__name__" 165 (zs "grammarmill.regex" 882),E P "__doc__" 166 .none,E P "__package__" 167 .none,E P "__loader__" 168 (.builtin "__main__.__loader__#opaque"),E P "__spec__" 169 .none,E P "__annotations__" 170 (.ref 6),E P "__builtins__" 171 (.ref 4),E P "__file__" 173 (zs "/claim/cut.py" 172),E P "__cached__" 174 .none,E P "_wall" 193 (.ref 21),E P "SMALL" 197 (zs "abcdefghijklmnopqrstuvwxyz" 196),E P "LETTERS" 200 (zs "abcdefghijklmnopqrstuvwxyzABCDEFGHIJKLMNOPQRSTUVWXYZ" 199),E P "FIGURES" 202 (zs "0123456789" 201),E P "NAME_SIGNS" 206 (zs "abcdefghijklmnopqrstuvwxyzABCDEFGHIJKLMNOPQRSTUVWXYZ_0123456789" 205),E P "HEX_SIGNS" 209 (zs "0123456789abcdefABCDEF" 208),E P "OCTAL_SIGNS" 211 (zs "01234567" 210),E P "MOST_FIGURES" 213 (.int 4000 212),E P "PLAIN_ESCAPES" 235 (.ref 22),E P "Position" 275 (.ref 46),E P "position_of" 287 (.ref 57),E P "ToolError" 325 (.ref 82),E P "RegexError" 341 (.ref 95),E P "Cursor" 501 (.ref 222),E P "hex_escape" 509 (.ref 233),E P "escaped_sign" 518 (.ref 240),E P "TOP" 522 (.int 127 521),E P "HEX" 524 (zs "0123456789abcdef" 523),E P "BRACKET_SIGNS" 526 (zs "\\][^-" 525),E P "CLASS_SPANS" 597 (.ref 241),E P "CharSet" 855 (.ref 442),E P "show_code" 863 (.ref 453),E P "told" 873 (.ref 460),E P "named_class" 881 (.ref 467),E P "MOST_REPEAT" 885 (.int 40 884),E P "MOST_NESTED" 887 (.int 20 886),E P "BLANKS" 889 (zs " \t\n" 888),E P "STRAY_SIGNS" 891 (zs "*+?]}^$/ \t\n" 890),E P "NEWLINE" 893 (zs "\n" 892),E P "Node" 929 (.ref 491),E P "Empty" 947 (.ref 505),E P "Never" 965 (.ref 517),E P "Chars" 999 (.ref 543),E P "Pair" 1043 (.ref 576),E P "Cat" 1061 (.ref 588),E P "Alt" 1079 (.ref 600),E P "Loop" 1118 (.ref 633)] 46),#[]⟩
noncomputable def o527:Obj:=⟨zn,none,(.fields #[zi 1,zi 0,.ref 20,zi 13,zi 0,.ref 28,zi 22,zi 0,.ref 56,zi 31,zi 0,.ref 63,zi 42,zi 0,.ref 91,zi 44,zi 0,.ref 103,zi 141,zi 0,.ref 232,zi 144,zi 0,.ref 239,zi 160,zi 0,.ref 282,zi 267,zi 0,.ref 452,zi 274,zi 0,.ref 459,zi 285,zi 0,.ref 466,zi 296,zi 0,.ref 473,zi 304,zi 0,.ref 501,zi 306,zi 0,.ref 513,zi 308,zi 0,.ref 525,zi 316,zi 0,.ref 551,zi 331,zi 0,.ref 584,zi 333,zi 0,.ref 596,zi 335,zi 0,.ref 608]),#[]⟩
noncomputable def o528:Obj:=⟨(.type "type"),none,(.cls ⟨(S "Node"),[.type "object"],[.ref 491,.type "object"],490,S "Node",true,[],[.ref 505,.ref 517,.ref 543,.ref 576,.ref 633],false,none,false⟩),#[none,none,(some (zs "Node" 894)),(some (zs "Node" 902)),(some (.builtin "object.__new__")),(some (.bool true))]⟩
noncomputable def o529:Obj:=⟨(.type "type"),none,(.cls ⟨(S "Pair"),[.ref 491],[.ref 576,.ref 491,.type "object"],575,S "Pair",true,[],[.ref 588,.ref 600],false,none,false⟩),#[(some (.ref 546)),none,(some (zs "Pair" 1000)),(some (zs "Pair" 1008)),(some (.builtin "object.__new__")),(some (.bool true))]⟩
noncomputable def o530:=zt [.ref 576]
noncomputable def o532 (P:Params):Obj:=⟨zd,none,(.dict #[E P "__module__" 1051 (zs "grammarmill.regex" 882),E P "__qualname__" 1053 (zs "Cat" 1052),E P "__firstlineno__" 1055 (.int 331 1054),E P "name" 1057 (zs "cat" 1056),E P "__static_attributes__" 1058 (.ref 586)] 5),#[]⟩
noncomputable def o534:=zc "Cat" "Cat" 1046 331 0 0 0 0 (.ref 582) (.bool false) (.ref 583) .none .none .none .none 1049
noncomputable def o535:Obj:=⟨(.type "frame"),none,.plain,#[(some (.ref 584)),(some (.ref 3)),(some (.ref 581)),none,(some (zs "grammarmill.regex" 882)),none,(some (.ref 0))]⟩
noncomputable def o537 (P:Params):Obj:=⟨zd,none,(.dict #[E P "__module__" 1051 (zs "grammarmill.regex" 882),E P "__firstlineno__" 1055 (.int 331 1054),E P "name" 1057 (zs "cat" 1056),E P "__static_attributes__" 1058 (.ref 586),E P "__doc__" 1059 .none] 2),#[]⟩
noncomputable def o538:Obj:=⟨(.type "type"),none,(.cls ⟨(S "Cat"),[.ref 576],[.ref 588,.ref 576,.ref 491,.type "object"],587,S "Cat",true,[],[],false,none,false⟩),#[(some (.ref 579)),none,(some (zs "Cat" 1044)),(some (zs "Cat" 1052)),(some (.builtin "object.__new__")),(some (.bool true))]⟩
noncomputable def o539:Obj:=⟨(.type "super"),none,(.fields #[.ref 588,.ref 588,.ref 588]),#[]⟩
noncomputable def o540:Obj:=⟨(.type "builtin_function_or_method"),none,(.fields #[.builtin "object.__init_subclass__",.ref 588]),#[]⟩
noncomputable def o543 (P:Params):Obj:=⟨zd,none,(.dict #[E P "__module__" 1069 (zs "grammarmill.regex" 882),E P "__qualname__" 1071 (zs "Alt" 1070),E P "__firstlineno__" 1073 (.int 333 1072),E P "name" 1075 (zs "alt" 1074),E P "__static_attributes__" 1076 (.ref 598)] 5),#[]⟩
noncomputable def o545:=zc "Alt" "Alt" 1064 333 0 0 0 0 (.ref 594) (.bool false) (.ref 595) .none .none .none .none 1067
noncomputable def o546:Obj:=⟨(.type "frame"),none,.plain,#[(some (.ref 596)),(some (.ref 3)),(some (.ref 593)),none,(some (zs "grammarmill.regex" 882)),none,(some (.ref 0))]⟩
noncomputable def o548 (P:Params):Obj:=⟨zd,none,(.dict #[E P "__module__" 1069 (zs "grammarmill.regex" 882),E P "__firstlineno__" 1073 (.int 333 1072),E P "name" 1075 (zs "alt" 1074),E P "__static_attributes__" 1076 (.ref 598),E P "__doc__" 1077 .none] 2),#[]⟩
noncomputable def o549:Obj:=⟨(.type "type"),none,(.cls ⟨(S "Alt"),[.ref 576],[.ref 600,.ref 576,.ref 491,.type "object"],599,S "Alt",true,[],[],false,none,false⟩),#[(some (.ref 591)),none,(some (zs "Alt" 1062)),(some (zs "Alt" 1070)),(some (.builtin "object.__new__")),(some (.bool true))]⟩
noncomputable def o550:Obj:=⟨(.type "super"),none,(.fields #[.ref 600,.ref 600,.ref 600]),#[]⟩
noncomputable def o551:Obj:=⟨(.type "builtin_function_or_method"),none,(.fields #[.builtin "object.__init_subclass__",.ref 600]),#[]⟩
noncomputable def o554 (P:Params):Obj:=⟨zd,none,(.dict #[E P "__module__" 1087 (zs "grammarmill.regex" 882),E P "__qualname__" 1089 (zs "Loop" 1088),E P "__firstlineno__" 1091 (.int 335 1090),E P "__init__" 1099 (.ref 616),E P "parts" 1106 (.ref 623),E P "told" 1113 (.ref 630),E P "__static_attributes__" 1115 (.ref 631)] 7),#[]⟩
noncomputable def o556:Obj:=⟨zn,none,(.fields #[zi 337,zi 4,.ref 615,zi 340,zi 4,.ref 622,zi 343,zi 4,.ref 629]),#[]⟩
noncomputable def o557:=zc "Loop" "Loop" 1082 335 0 0 0 0 (.ref 606) (.bool false) (.ref 607) .none .none .none .none 1085
noncomputable def o558:Obj:=⟨(.type "frame"),none,.plain,#[(some (.ref 608)),(some (.ref 3)),(some (.ref 605)),none,(some (zs "grammarmill.regex" 882)),none,(some (.ref 0))]⟩
noncomputable def o560:=zt [zs "self" 1095,zs "body" 1096]
noncomputable def o562:Obj:=⟨zn,none,(F (sm 39 0) "Loop.__init__" 0 [] .none .none .none .none none .none .none 0),#[]⟩
noncomputable def o563:=zc "__init__" "Loop.__init__" 1092 337 2 0 0 3 (.ref 610) (.bool true) (.ref 611) .none (.ref 612) (.ref 613) (.ref 614) 1097
noncomputable def o564:=zf (F (sm 39 0) "Loop.__init__" 3 [] .none .none .none (zs "grammarmill.regex" 882) none (.ref 615) .none 0)
noncomputable def o566:=zt [zs "self" 1103]
noncomputable def o568:Obj:=⟨zn,none,(F (sm 39 1) "Loop.parts" 0 [] .none .none .none .none none .none .none 0),#[]⟩
noncomputable def o569:=zc "parts" "Loop.parts" 1100 340 1 0 0 3 (.ref 617) (.bool true) (.ref 618) .none (.ref 619) (.ref 620) (.ref 621) 1104
noncomputable def o570:=zf (F (sm 39 1) "Loop.parts" 3 [] .none .none .none (zs "grammarmill.regex" 882) none (.ref 622) .none 0)
noncomputable def o572:=zt [zs "self" 1110]
noncomputable def o574:Obj:=⟨zn,none,(F (sm 39 2) "Loop.told" 0 [] .none .none .none .none none .none .none 0),#[]⟩
noncomputable def o575:=zc "told" "Loop.told" 1107 343 1 0 0 3 (.ref 624) (.bool true) (.ref 625) .none (.ref 626) (.ref 627) (.ref 628) 1111
noncomputable def o576:=zf (F (sm 39 2) "Loop.told" 3 [] .none .none .none (zs "grammarmill.regex" 882) none (.ref 629) .none 0)
noncomputable def o577:=zt [zs "body" 1114]
noncomputable def o578 (P:Params):Obj:=⟨zd,none,(.dict #[E P "__module__" 1087 (zs "grammarmill.regex" 882),E P "__firstlineno__" 1091 (.int 335 1090),E P "__init__" 1099 (.ref 616),E P "parts" 1106 (.ref 623),E P "told" 1113 (.ref 630),E P "__static_attributes__" 1115 (.ref 631),E P "__doc__" 1116 .none] 2),#[]⟩
noncomputable def o579:Obj:=⟨(.type "type"),none,(.cls ⟨(S "Loop"),[.ref 491],[.ref 633,.ref 491,.type "object"],632,S "Loop",true,[],[],false,none,false⟩),#[(some (.ref 603)),none,(some (zs "Loop" 1080)),(some (zs "Loop" 1088)),(some (.builtin "object.__new__")),(some (.bool true))]⟩
noncomputable def o580:Obj:=⟨(.type "super"),none,(.fields #[.ref 633,.ref 633,.ref 633]),#[]⟩
noncomputable def o581:Obj:=⟨(.type "builtin_function_or_method"),none,(.fields #[.builtin "object.__init_subclass__",.ref 633]),#[]⟩
noncomputable def o582 (P:Params):Obj:=⟨zd,none,(.dict #[E P "__name__" 165 (zs "grammarmill.regex" 882),E P "__doc__" 166 .none,E P "__package__" 167 .none,E P "__loader__" 168 (.builtin "__main__.__loader__#opaque"),E P "__spec__" 169 .none,E P "__annotations__" 170 (.ref 6),E P "__builtins__" 171 (.ref 4),E P "__file__" 173 (zs "/claim/cut.py" 172),E P "__cached__" 174 .none,E P "_wall" 193 (.ref 21),E P "SMALL" 197 (zs "abcdefghijklmnopqrstuvwxyz" 196),E P "LETTERS" 200 (zs "abcdefghijklmnopqrstuvwxyzABCDEFGHIJKLMNOPQRSTUVWXYZ" 199),E P "FIGURES" 202 (zs "0123456789" 201),E P "NAME_SIGNS" 206 (zs "abcdefghijklmnopqrstuvwxyzABCDEFGHIJKLMNOPQRSTUVWXYZ_0123456789" 205),E P "HEX_SIGNS" 209 (zs "0123456789abcdefABCDEF" 208),E P "OCTAL_SIGNS" 211 (zs "01234567" 210),E P "MOST_FIGURES" 213 (.int 4000 212),E P "PLAIN_ESCAPES" 235 (.ref 22),E P "Position" 275 (.ref 46),E P "position_of" 287 (.ref 57),E P "ToolError" 325 (.ref 82),E P "RegexError" 341 (.ref 95),E P "Cursor" 501 (.ref 222),E P "hex_escape" 509 (.ref 233),E P "escaped_sign" 518 (.ref 240),E P "TOP" 522 (.int 127 521),E P "HEX" 524 (zs "0123456789abcdef" 523),E P "BRACKET_SIGNS" 526 (zs "\\][^-" 525),E P "CLASS_SPANS" 597 (.ref 241),E P "CharSet" 855 (.ref 442),E P "show_code" 863 (.ref 453),E P "told" 873 (.ref 460),E P "named_class" 881 (.ref 467),E P "MOST_REPEAT" 885 (.int 40 884),E P "MOST_NESTED" 887 (.int 20 886),E P "BLANKS" 889 (zs " \t\n" 888),E P "STRAY_SIGNS" 891 (zs "*+?]}^$/ \t\n" 890),E P "NEWLINE" 893 (zs "\n" 892),E P "Node" 929 (.ref 491),E P "Empty" 947 (.ref 505),E P "Never" 965 (.ref 517),E P "Chars" 999 (.ref 543),E P "Pair" 1043 (.ref 576),E P "Cat" 1061 (.ref 588),E P "Alt" 1079 (.ref 600),E P "Loop" 1118 (.ref 633),E P "Star" 1136 (.ref 645),E P "Plus" 1154 (.ref 657),E P "Opt" 1172 (.ref 669)] 49),#[]⟩
noncomputable def o583:Obj:=⟨zn,none,(.fields #[zi 1,zi 0,.ref 20,zi 13,zi 0,.ref 28,zi 22,zi 0,.ref 56,zi 31,zi 0,.ref 63,zi 42,zi 0,.ref 91,zi 44,zi 0,.ref 103,zi 141,zi 0,.ref 232,zi 144,zi 0,.ref 239,zi 160,zi 0,.ref 282,zi 267,zi 0,.ref 452,zi 274,zi 0,.ref 459,zi 285,zi 0,.ref 466,zi 296,zi 0,.ref 473,zi 304,zi 0,.ref 501,zi 306,zi 0,.ref 513,zi 308,zi 0,.ref 525,zi 316,zi 0,.ref 551,zi 331,zi 0,.ref 584,zi 333,zi 0,.ref 596,zi 335,zi 0,.ref 608,zi 345,zi 0,.ref 641,zi 347,zi 0,.ref 653,zi 349,zi 0,.ref 665]),#[]⟩
noncomputable def o584:Obj:=⟨(.type "type"),none,(.cls ⟨(S "Loop"),[.ref 491],[.ref 633,.ref 491,.type "object"],632,S "Loop",true,[],[.ref 645,.ref 657,.ref 669],false,none,false⟩),#[(some (.ref 603)),none,(some (zs "Loop" 1080)),(some (zs "Loop" 1088)),(some (.builtin "object.__new__")),(some (.bool true))]⟩
noncomputable def o585:=zt [.ref 633]
noncomputable def o587 (P:Params):Obj:=⟨zd,none,(.dict #[E P "__module__" 1126 (zs "grammarmill.regex" 882),E P "__qualname__" 1128 (zs "Star" 1127),E P "__firstlineno__" 1130 (.int 345 1129),E P "name" 1132 (zs "star" 1131),E P "__static_attributes__" 1133 (.ref 643)] 5),#[]⟩
noncomputable def o589:=zc "Star" "Star" 1121 345 0 0 0 0 (.ref 639) (.bool false) (.ref 640) .none .none .none .none 1124
noncomputable def o590:Obj:=⟨(.type "frame"),none,.plain,#[(some (.ref 641)),(some (.ref 3)),(some (.ref 638)),none,(some (zs "grammarmill.regex" 882)),none,(some (.ref 0))]⟩
noncomputable def o592 (P:Params):Obj:=⟨zd,none,(.dict #[E P "__module__" 1126 (zs "grammarmill.regex" 882),E P "__firstlineno__" 1130 (.int 345 1129),E P "name" 1132 (zs "star" 1131),E P "__static_attributes__" 1133 (.ref 643),E P "__doc__" 1134 .none] 2),#[]⟩
noncomputable def o593:Obj:=⟨(.type "type"),none,(.cls ⟨(S "Star"),[.ref 633],[.ref 645,.ref 633,.ref 491,.type "object"],644,S "Star",true,[],[],false,none,false⟩),#[(some (.ref 636)),none,(some (zs "Star" 1119)),(some (zs "Star" 1127)),(some (.builtin "object.__new__")),(some (.bool true))]⟩
noncomputable def o594:Obj:=⟨(.type "super"),none,(.fields #[.ref 645,.ref 645,.ref 645]),#[]⟩
noncomputable def o595:Obj:=⟨(.type "builtin_function_or_method"),none,(.fields #[.builtin "object.__init_subclass__",.ref 645]),#[]⟩
noncomputable def o598 (P:Params):Obj:=⟨zd,none,(.dict #[E P "__module__" 1144 (zs "grammarmill.regex" 882),E P "__qualname__" 1146 (zs "Plus" 1145),E P "__firstlineno__" 1148 (.int 347 1147),E P "name" 1150 (zs "plus" 1149),E P "__static_attributes__" 1151 (.ref 655)] 5),#[]⟩
noncomputable def o600:=zc "Plus" "Plus" 1139 347 0 0 0 0 (.ref 651) (.bool false) (.ref 652) .none .none .none .none 1142
noncomputable def o601:Obj:=⟨(.type "frame"),none,.plain,#[(some (.ref 653)),(some (.ref 3)),(some (.ref 650)),none,(some (zs "grammarmill.regex" 882)),none,(some (.ref 0))]⟩
noncomputable def o603 (P:Params):Obj:=⟨zd,none,(.dict #[E P "__module__" 1144 (zs "grammarmill.regex" 882),E P "__firstlineno__" 1148 (.int 347 1147),E P "name" 1150 (zs "plus" 1149),E P "__static_attributes__" 1151 (.ref 655),E P "__doc__" 1152 .none] 2),#[]⟩
noncomputable def o604:Obj:=⟨(.type "type"),none,(.cls ⟨(S "Plus"),[.ref 633],[.ref 657,.ref 633,.ref 491,.type "object"],656,S "Plus",true,[],[],false,none,false⟩),#[(some (.ref 648)),none,(some (zs "Plus" 1137)),(some (zs "Plus" 1145)),(some (.builtin "object.__new__")),(some (.bool true))]⟩
noncomputable def o605:Obj:=⟨(.type "super"),none,(.fields #[.ref 657,.ref 657,.ref 657]),#[]⟩
noncomputable def o606:Obj:=⟨(.type "builtin_function_or_method"),none,(.fields #[.builtin "object.__init_subclass__",.ref 657]),#[]⟩
noncomputable def o609 (P:Params):Obj:=⟨zd,none,(.dict #[E P "__module__" 1162 (zs "grammarmill.regex" 882),E P "__qualname__" 1164 (zs "Opt" 1163),E P "__firstlineno__" 1166 (.int 349 1165),E P "name" 1168 (zs "opt" 1167),E P "__static_attributes__" 1169 (.ref 667)] 5),#[]⟩
noncomputable def o611:=zc "Opt" "Opt" 1157 349 0 0 0 0 (.ref 663) (.bool false) (.ref 664) .none .none .none .none 1160
noncomputable def o612:Obj:=⟨(.type "frame"),none,.plain,#[(some (.ref 665)),(some (.ref 3)),(some (.ref 662)),none,(some (zs "grammarmill.regex" 882)),none,(some (.ref 0))]⟩
noncomputable def o614 (P:Params):Obj:=⟨zd,none,(.dict #[E P "__module__" 1162 (zs "grammarmill.regex" 882),E P "__firstlineno__" 1166 (.int 349 1165),E P "name" 1168 (zs "opt" 1167),E P "__static_attributes__" 1169 (.ref 667),E P "__doc__" 1170 .none] 2),#[]⟩
noncomputable def o615:Obj:=⟨(.type "type"),none,(.cls ⟨(S "Opt"),[.ref 633],[.ref 669,.ref 633,.ref 491,.type "object"],668,S "Opt",true,[],[],false,none,false⟩),#[(some (.ref 660)),none,(some (zs "Opt" 1155)),(some (zs "Opt" 1163)),(some (.builtin "object.__new__")),(some (.bool true))]⟩
noncomputable def o616:Obj:=⟨(.type "super"),none,(.fields #[.ref 669,.ref 669,.ref 669]),#[]⟩
noncomputable def o617:Obj:=⟨(.type "builtin_function_or_method"),none,(.fields #[.builtin "object.__init_subclass__",.ref 669]),#[]⟩
noncomputable def o618 (P:Params):Obj:=⟨zd,none,(.dict #[E P "__name__" 165 (zs "grammarmill.regex" 882),E P "__doc__" 166 .none,E P "__package__" 167 .none,E P "__loader__" 168 (.builtin "__main__.__loader__#opaque"),E P "__spec__" 169 .none,E P "__annotations__" 170 (.ref 6),E P "__builtins__" 171 (.ref 4),E P "__file__" 173 (zs "/claim/cut.py" 172),E P "__cached__" 174 .none,E P "_wall" 193 (.ref 21),E P "SMALL" 197 (zs "abcdefghijklmnopqrstuvwxyz" 196),E P "LETTERS" 200 (zs "abcdefghijklmnopqrstuvwxyzABCDEFGHIJKLMNOPQRSTUVWXYZ" 199),E P "FIGURES" 202 (zs "0123456789" 201),E P "NAME_SIGNS" 206 (zs "abcdefghijklmnopqrstuvwxyzABCDEFGHIJKLMNOPQRSTUVWXYZ_0123456789" 205),E P "HEX_SIGNS" 209 (zs "0123456789abcdefABCDEF" 208),E P "OCTAL_SIGNS" 211 (zs "01234567" 210),E P "MOST_FIGURES" 213 (.int 4000 212),E P "PLAIN_ESCAPES" 235 (.ref 22),E P "Position" 275 (.ref 46),E P "position_of" 287 (.ref 57),E P "ToolError" 325 (.ref 82),E P "RegexError" 341 (.ref 95),E P "Cursor" 501 (.ref 222),E P "hex_escape" 509 (.ref 233),E P "escaped_sign" 518 (.ref 240),E P "TOP" 522 (.int 127 521),E P "HEX" 524 (zs "0123456789abcdef" 523),E P "BRACKET_SIGNS" 526 (zs "\\][^-" 525),E P "CLASS_SPANS" 597 (.ref 241),E P "CharSet" 855 (.ref 442),E P "show_code" 863 (.ref 453),E P "told" 873 (.ref 460),E P "named_class" 881 (.ref 467),E P "MOST_REPEAT" 885 (.int 40 884),E P "MOST_NESTED" 887 (.int 20 886),E P "BLANKS" 889 (zs " \t\n" 888),E P "STRAY_SIGNS" 891 (zs "*+?]}^$/ \t\n" 890),E P "NEWLINE" 893 (zs "\n" 892),E P "Node" 929 (.ref 491),E P "Empty" 947 (.ref 505),E P "Never" 965 (.ref 517),E P "Chars" 999 (.ref 543),E P "Pair" 1043 (.ref 576),E P "Cat" 1061 (.ref 588),E P "Alt" 1079 (.ref 600),E P "Loop" 1118 (.ref 633),E P "Star" 1136 (.ref 645),E P "Plus" 1154 (.ref 657),E P "Opt" 1172 (.ref 669),E P "Repeat" 1209 (.ref 695),E P "spine" 1218 (.ref 704),E P "cat_all" 1227 (.ref 711),E P "chars_node" 1234 (.ref 718),E P "Pattern" 1289 (.ref 756),E P "line_end" 1295 (.ref 767),E P "is_figure" 1302 (.ref 774)] 56),#[]⟩
noncomputable def o619:Obj:=⟨zn,none,(.fields #[zi 1,zi 0,.ref 20,zi 13,zi 0,.ref 28,zi 22,zi 0,.ref 56,zi 31,zi 0,.ref 63,zi 42,zi 0,.ref 91,zi 44,zi 0,.ref 103,zi 141,zi 0,.ref 232,zi 144,zi 0,.ref 239,zi 160,zi 0,.ref 282,zi 267,zi 0,.ref 452,zi 274,zi 0,.ref 459,zi 285,zi 0,.ref 466,zi 296,zi 0,.ref 473,zi 304,zi 0,.ref 501,zi 306,zi 0,.ref 513,zi 308,zi 0,.ref 525,zi 316,zi 0,.ref 551,zi 331,zi 0,.ref 584,zi 333,zi 0,.ref 596,zi 335,zi 0,.ref 608,zi 345,zi 0,.ref 641,zi 347,zi 0,.ref 653,zi 349,zi 0,.ref 665,zi 351,zi 0,.ref 677,zi 365,zi 0,.ref 703,zi 374,zi 0,.ref 710,zi 381,zi 0,.ref 717,zi 385,zi 0,.ref 724,zi 405,zi 0,.ref 766,zi 407,zi 0,.ref 773]),#[]⟩
noncomputable def o620:Obj:=⟨(.type "type"),none,(.cls ⟨(S "Loop"),[.ref 491],[.ref 633,.ref 491,.type "object"],632,S "Loop",true,[],[.ref 645,.ref 657,.ref 669,.ref 695],false,none,false⟩),#[(some (.ref 603)),none,(some (zs "Loop" 1080)),(some (zs "Loop" 1088)),(some (.builtin "object.__new__")),(some (.bool true))]⟩
noncomputable def o623 (P:Params):Obj:=⟨zd,none,(.dict #[E P "__module__" 1180 (zs "grammarmill.regex" 882),E P "__qualname__" 1182 (zs "Repeat" 1181),E P "__firstlineno__" 1184 (.int 351 1183),E P "name" 1186 (zs "repeat" 1185),E P "__init__" 1196 (.ref 685),E P "told" 1203 (.ref 692),E P "__static_attributes__" 1206 (.ref 693)] 7),#[]⟩
noncomputable def o625:Obj:=⟨zn,none,(.fields #[zi 354,zi 4,.ref 684,zi 363,zi 4,.ref 691]),#[]⟩
noncomputable def o626:=zc "Repeat" "Repeat" 1175 351 0 0 0 0 (.ref 675) (.bool false) (.ref 676) .none .none .none .none 1178
noncomputable def o627:Obj:=⟨(.type "frame"),none,.plain,#[(some (.ref 677)),(some (.ref 3)),(some (.ref 674)),none,(some (zs "grammarmill.regex" 882)),none,(some (.ref 0))]⟩
noncomputable def o629:=zt [zs "self" 1190,zs "body" 1191,zs "low" 1192,zs "high" 1193]
noncomputable def o631:Obj:=⟨zn,none,(F (sm 43 1) "Repeat.__init__" 0 [] .none .none .none .none none .none .none 0),#[]⟩
noncomputable def o632:=zc "__init__" "Repeat.__init__" 1187 354 4 0 0 3 (.ref 679) (.bool true) (.ref 680) .none (.ref 681) (.ref 682) (.ref 683) 1194
noncomputable def o633:=zf (F (sm 43 1) "Repeat.__init__" 3 [] .none .none .none (zs "grammarmill.regex" 882) none (.ref 684) .none 0)
noncomputable def o635:=zt [zs "self" 1200]
noncomputable def o637:Obj:=⟨zn,none,(F (sm 43 2) "Repeat.told" 0 [] .none .none .none .none none .none .none 0),#[]⟩
noncomputable def o638:=zc "told" "Repeat.told" 1197 363 1 0 0 3 (.ref 686) (.bool true) (.ref 687) .none (.ref 688) (.ref 689) (.ref 690) 1201
noncomputable def o639:=zf (F (sm 43 2) "Repeat.told" 3 [] .none .none .none (zs "grammarmill.regex" 882) none (.ref 691) .none 0)
noncomputable def o640:=zt [zs "high" 1204,zs "low" 1205]
noncomputable def o641 (P:Params):Obj:=⟨zd,none,(.dict #[E P "__module__" 1180 (zs "grammarmill.regex" 882),E P "__firstlineno__" 1184 (.int 351 1183),E P "name" 1186 (zs "repeat" 1185),E P "__init__" 1196 (.ref 685),E P "told" 1203 (.ref 692),E P "__static_attributes__" 1206 (.ref 693),E P "__doc__" 1207 .none] 2),#[]⟩
noncomputable def o642:Obj:=⟨(.type "type"),none,(.cls ⟨(S "Repeat"),[.ref 633],[.ref 695,.ref 633,.ref 491,.type "object"],694,S "Repeat",true,[],[],false,none,false⟩),#[(some (.ref 672)),none,(some (zs "Repeat" 1173)),(some (zs "Repeat" 1181)),(some (.builtin "object.__new__")),(some (.bool true))]⟩
noncomputable def o643:Obj:=⟨(.type "super"),none,(.fields #[.ref 695,.ref 695,.ref 695]),#[]⟩
noncomputable def o644:Obj:=⟨(.type "builtin_function_or_method"),none,(.fields #[.builtin "object.__init_subclass__",.ref 695]),#[]⟩
noncomputable def o646:=zt [zs "node" 1213,zs "parts" 1214,zs "here" 1215]
noncomputable def o648:Obj:=⟨zn,none,(F (st 44) "spine" 0 [] .none .none .none .none none .none .none 0),#[]⟩
noncomputable def o649:=zc "spine" "spine" 1210 365 1 0 0 3 (.ref 698) (.bool true) (.ref 699) .none (.ref 700) (.ref 701) (.ref 702) 1216
noncomputable def o650:=zf (F (st 44) "spine" 3 [] .none .none .none (zs "grammarmill.regex" 882) none (.ref 703) .none 0)
noncomputable def o652:=zt [zs "nodes" 1222,zs "node" 1223,zs "part" 1224]
noncomputable def o654:Obj:=⟨zn,none,(F (st 45) "cat_all" 0 [] .none .none .none .none none .none .none 0),#[]⟩
noncomputable def o655:=zc "cat_all" "cat_all" 1219 374 1 0 0 3 (.ref 705) (.bool true) (.ref 706) .none (.ref 707) (.ref 708) (.ref 709) 1225
noncomputable def o656:=zf (F (st 45) "cat_all" 3 [] .none .none .none (zs "grammarmill.regex" 882) none (.ref 710) .none 0)
noncomputable def o658:=zt [zs "charset" 1231]
noncomputable def o660:Obj:=⟨zn,none,(F (st 46) "chars_node" 0 [] .none .none .none .none none .none .none 0),#[]⟩
noncomputable def o661:=zc "chars_node" "chars_node" 1228 381 1 0 0 3 (.ref 712) (.bool true) (.ref 713) .none (.ref 714) (.ref 715) (.ref 716) 1232
noncomputable def o662:=zf (F (st 46) "chars_node" 3 [] .none .none .none (zs "grammarmill.regex" 882) none (.ref 717) .none 0)
noncomputable def o665 (P:Params):Obj:=⟨zd,none,(.dict #[E P "__module__" 1242 (zs "grammarmill.regex" 882),E P "__qualname__" 1244 (zs "Pattern" 1243),E P "__firstlineno__" 1246 (.int 385 1245),E P "__init__" 1256 (.ref 732),E P "whole" 1263 (.ref 739),E P "is_line_end" 1270 (.ref 746),E P "told" 1278 (.ref 753),E P "__static_attributes__" 1282 (.ref 754)] 8),#[]⟩
noncomputable def o667:Obj:=⟨zn,none,(.fields #[zi 387,zi 4,.ref 731,zi 392,zi 4,.ref 738,zi 397,zi 4,.ref 745,zi 400,zi 4,.ref 752]),#[]⟩
noncomputable def o668:=zc "Pattern" "Pattern" 1237 385 0 0 0 0 (.ref 722) (.bool false) (.ref 723) .none .none .none .none 1240
noncomputable def o669:Obj:=⟨(.type "frame"),none,.plain,#[(some (.ref 724)),(some (.ref 3)),(some (.ref 721)),none,(some (zs "grammarmill.regex" 882)),none,(some (.ref 0))]⟩
noncomputable def o671:=zt [zs "self" 1250,zs "body" 1251,zs "begins" 1252,zs "trail" 1253]
noncomputable def o673:Obj:=⟨zn,none,(F (sm 47 0) "Pattern.__init__" 0 [] .none .none .none .none none .none .none 0),#[]⟩
noncomputable def o674:=zc "__init__" "Pattern.__init__" 1247 387 4 0 0 3 (.ref 726) (.bool true) (.ref 727) .none (.ref 728) (.ref 729) (.ref 730) 1254
noncomputable def o675:=zf (F (sm 47 0) "Pattern.__init__" 3 [] .none .none .none (zs "grammarmill.regex" 882) none (.ref 731) .none 0)
noncomputable def o677:=zt [zs "self" 1260]
noncomputable def o679:Obj:=⟨zn,none,(F (sm 47 1) "Pattern.whole" 0 [] .none .none .none .none none .none .none 0),#[]⟩
noncomputable def o680:=zc "whole" "Pattern.whole" 1257 392 1 0 0 3 (.ref 733) (.bool true) (.ref 734) .none (.ref 735) (.ref 736) (.ref 737) 1261
noncomputable def o681:=zf (F (sm 47 1) "Pattern.whole" 3 [] .none .none .none (zs "grammarmill.regex" 882) none (.ref 738) .none 0)
noncomputable def o683:=zt [zs "self" 1267]
noncomputable def o685:Obj:=⟨zn,none,(F (sm 47 2) "Pattern.is_line_end" 0 [] .none .none .none .none none .none .none 0),#[]⟩
noncomputable def o686:=zc "is_line_end" "Pattern.is_line_end" 1264 397 1 0 0 3 (.ref 740) (.bool true) (.ref 741) .none (.ref 742) (.ref 743) (.ref 744) 1268
noncomputable def o687:=zf (F (sm 47 2) "Pattern.is_line_end" 3 [] .none .none .none (zs "grammarmill.regex" 882) none (.ref 745) .none 0)
noncomputable def o689:=zt [zs "self" 1274,zs "trail" 1275]
noncomputable def o691:Obj:=⟨zn,none,(F (sm 47 3) "Pattern.told" 0 [] .none .none .none .none none .none .none 0),#[]⟩
noncomputable def o692:=zc "told" "Pattern.told" 1271 400 1 0 0 3 (.ref 747) (.bool true) (.ref 748) .none (.ref 749) (.ref 750) (.ref 751) 1276
noncomputable def o693:=zf (F (sm 47 3) "Pattern.told" 3 [] .none .none .none (zs "grammarmill.regex" 882) none (.ref 752) .none 0)
noncomputable def o694:=zt [zs "begins" 1279,zs "body" 1280,zs "trail" 1281]
noncomputable def o695 (P:Params):Obj:=⟨zd,none,(.dict #[E P "__module__" 1242 (zs "grammarmill.regex" 882),E P "__firstlineno__" 1246 (.int 385 1245),E P "__init__" 1256 (.ref 732),E P "whole" 1263 (.ref 739),E P "is_line_end" 1270 (.ref 746),E P "told" 1278 (.ref 753),E P "__static_attributes__" 1282 (.ref 754),E P "__dict__" 1284 (.ref 757),E P "__weakref__" 1286 (.ref 758),E P "__doc__" 1287 .none] 4),#[]⟩
noncomputable def o696:Obj:=⟨(.type "type"),none,(.cls ⟨(S "Pattern"),[.type "object"],[.ref 756,.type "object"],755,S "Pattern",true,[],[],false,none,false⟩),#[none,none,(some (zs "Pattern" 1235)),(some (zs "Pattern" 1243)),(some (.builtin "object.__new__")),(some (.bool true))]⟩
noncomputable def o697:Obj:=⟨(.type "getset_descriptor"),none,(.fields #[zs "__dict__" 1283,.ref 756,.builtin "function.__dict__",.builtin "function.__dict__#set"]),#[]⟩
noncomputable def o698:Obj:=⟨(.type "getset_descriptor"),none,(.fields #[zs "__weakref__" 1285,.ref 756,.builtin "ExceptionGroup.__weakref__",.none]),#[]⟩
noncomputable def o699:Obj:=⟨(.type "super"),none,(.fields #[.ref 756,.ref 756,.ref 756]),#[]⟩
noncomputable def o700:Obj:=⟨(.type "builtin_function_or_method"),none,(.fields #[.builtin "object.__init_subclass__",.ref 756]),#[]⟩
noncomputable def o704:Obj:=⟨zn,none,(F (st 48) "line_end" 0 [] .none .none .none .none none .none .none 0),#[]⟩
noncomputable def o705:=zc "line_end" "line_end" 1290 405 0 0 0 3 (.ref 761) (.bool true) (.ref 762) .none (.ref 763) (.ref 764) (.ref 765) 1293
noncomputable def o706:=zf (F (st 48) "line_end" 3 [] .none .none .none (zs "grammarmill.regex" 882) none (.ref 766) .none 0)
noncomputable def o708:=zt [zs "sign" 1299]
noncomputable def o710:Obj:=⟨zn,none,(F (st 49) "is_figure" 0 [] .none .none .none .none none .none .none 0),#[]⟩
noncomputable def o711:=zc "is_figure" "is_figure" 1296 407 1 0 0 3 (.ref 768) (.bool true) (.ref 769) .none (.ref 770) (.ref 771) (.ref 772) 1300
noncomputable def o712:=zf (F (st 49) "is_figure" 3 [] .none .none .none (zs "grammarmill.regex" 882) none (.ref 773) .none 0)
noncomputable def o713 (P:Params):Obj:=⟨zd,none,(.dict #[E P "__name__" 165 (zs "grammarmill.regtools" 1516),E P "__doc__" 166 .none,E P "__package__" 167 .none,E P "__loader__" 168 (.builtin "__main__.__loader__#opaque"),E P "__spec__" 169 .none,E P "__annotations__" 170 (.ref 6),E P "__builtins__" 171 (.ref 4),E P "__file__" 173 (zs "/claim/cut.py" 172),E P "__cached__" 174 .none,E P "_wall" 193 (.ref 21),E P "SMALL" 197 (zs "abcdefghijklmnopqrstuvwxyz" 196),E P "LETTERS" 200 (zs "abcdefghijklmnopqrstuvwxyzABCDEFGHIJKLMNOPQRSTUVWXYZ" 199),E P "FIGURES" 202 (zs "0123456789" 201),E P "NAME_SIGNS" 206 (zs "abcdefghijklmnopqrstuvwxyzABCDEFGHIJKLMNOPQRSTUVWXYZ_0123456789" 205),E P "HEX_SIGNS" 209 (zs "0123456789abcdefABCDEF" 208),E P "OCTAL_SIGNS" 211 (zs "01234567" 210),E P "MOST_FIGURES" 213 (.int 4000 212),E P "PLAIN_ESCAPES" 235 (.ref 22),E P "Position" 275 (.ref 46),E P "position_of" 287 (.ref 57),E P "ToolError" 325 (.ref 82),E P "RegexError" 341 (.ref 95),E P "Cursor" 501 (.ref 222),E P "hex_escape" 509 (.ref 233),E P "escaped_sign" 518 (.ref 240),E P "TOP" 522 (.int 127 521),E P "HEX" 524 (zs "0123456789abcdef" 523),E P "BRACKET_SIGNS" 526 (zs "\\][^-" 525),E P "CLASS_SPANS" 597 (.ref 241),E P "CharSet" 855 (.ref 442),E P "show_code" 863 (.ref 453),E P "told" 873 (.ref 460),E P "named_class" 881 (.ref 467),E P "MOST_REPEAT" 885 (.int 40 884),E P "MOST_NESTED" 887 (.int 20 886),E P "BLANKS" 889 (zs " \t\n" 888),E P "STRAY_SIGNS" 891 (zs "*+?]}^$/ \t\n" 890),E P "NEWLINE" 893 (zs "\n" 892),E P "Node" 929 (.ref 491),E P "Empty" 947 (.ref 505),E P "Never" 965 (.ref 517),E P "Chars" 999 (.ref 543),E P "Pair" 1043 (.ref 576),E P "Cat" 1061 (.ref 588),E P "Alt" 1079 (.ref 600),E P "Loop" 1118 (.ref 633),E P "Star" 1136 (.ref 645),E P "Plus" 1154 (.ref 657),E P "Opt" 1172 (.ref 669),E P "Repeat" 1209 (.ref 695),E P "spine" 1218 (.ref 704),E P "cat_all" 1227 (.ref 711),E P "chars_node" 1234 (.ref 718),E P "Pattern" 1289 (.ref 756),E P "line_end" 1295 (.ref 767),E P "is_figure" 1302 (.ref 774),E P "RegexReader" 1488 (.ref 901),E P "read_regex" 1498 (.ref 913),E P "read_pattern" 1515 (.ref 921)] 59),#[]⟩
noncomputable def o714:Obj:=⟨zn,none,(.fields #[zi 1,zi 0,.ref 20,zi 13,zi 0,.ref 28,zi 22,zi 0,.ref 56,zi 31,zi 0,.ref 63,zi 42,zi 0,.ref 91,zi 44,zi 0,.ref 103,zi 141,zi 0,.ref 232,zi 144,zi 0,.ref 239,zi 160,zi 0,.ref 282,zi 267,zi 0,.ref 452,zi 274,zi 0,.ref 459,zi 285,zi 0,.ref 466,zi 296,zi 0,.ref 473,zi 304,zi 0,.ref 501,zi 306,zi 0,.ref 513,zi 308,zi 0,.ref 525,zi 316,zi 0,.ref 551,zi 331,zi 0,.ref 584,zi 333,zi 0,.ref 596,zi 335,zi 0,.ref 608,zi 345,zi 0,.ref 641,zi 347,zi 0,.ref 653,zi 349,zi 0,.ref 665,zi 351,zi 0,.ref 677,zi 365,zi 0,.ref 703,zi 374,zi 0,.ref 710,zi 381,zi 0,.ref 717,zi 385,zi 0,.ref 724,zi 405,zi 0,.ref 766,zi 407,zi 0,.ref 773,zi 409,zi 0,.ref 780,zi 590,zi 0,.ref 912,zi 596,zi 0,.ref 920]),#[]⟩
noncomputable def o717 (P:Params):Obj:=⟨zd,none,(.dict #[E P "__module__" 1310 (zs "grammarmill.regex" 882),E P "__qualname__" 1312 (zs "RegexReader" 1311),E P "__firstlineno__" 1314 (.int 409 1313),E P "__init__" 1325 (.ref 788),E P "failed" 1334 (.ref 795),E P "is_over" 1342 (.ref 802),E P "is_stop" 1350 (.ref 809),E P "choice" 1358 (.ref 816),E P "branch" 1366 (.ref 823),E P "looped" 1377 (.ref 830),E P "counted" 1388 (.ref 837),E P "count" 1398 (.ref 844),E P "single" 1409 (.ref 851),E P "code_of" 1420 (.ref 858),E P "quoted" 1426 (.ref 863),E P "defined" 1435 (.ref 870),E P "sign_class" 1448 (.ref 877),E P "named" 1457 (.ref 884),E P "span" 1467 (.ref 891),E P "member" 1476 (.ref 898),E P "__static_attributes__" 1481 (.ref 899)] 21),#[]⟩
noncomputable def o719:Obj:=⟨zn,none,(.fields #[zi 411,zi 4,.ref 787,zi 417,zi 4,.ref 794,zi 420,zi 4,.ref 801,zi 424,zi 4,.ref 808,zi 434,zi 4,.ref 815,zi 440,zi 4,.ref 822,zi 446,zi 4,.ref 829,zi 462,zi 4,.ref 836,zi 479,zi 4,.ref 843,zi 488,zi 4,.ref 850,zi 513,zi 4,.ref 857,zi 526,zi 4,.ref 862,zi 538,zi 4,.ref 869,zi 544,zi 4,.ref 876,zi 563,zi 4,.ref 883,zi 571,zi 4,.ref 890,zi 584,zi 4,.ref 897]),#[]⟩
noncomputable def o720:=zc "RegexReader" "RegexReader" 1305 409 0 0 0 0 (.ref 778) (.bool false) (.ref 779) .none .none .none .none 1308
noncomputable def o721:Obj:=⟨(.type "frame"),none,.plain,#[(some (.ref 780)),(some (.ref 3)),(some (.ref 777)),none,(some (zs "grammarmill.regex" 882)),none,(some (.ref 0))]⟩
noncomputable def o723:=zt [zs "self" 1318,zs "text" 1319,zs "at" 1320,zs "definitions" 1321,zs "is_pattern" 1322]
noncomputable def o725:Obj:=⟨zn,none,(F (sm 50 0) "RegexReader.__init__" 0 [] .none .none .none .none none .none .none 0),#[]⟩
noncomputable def o726:=zc "__init__" "RegexReader.__init__" 1315 411 5 0 0 3 (.ref 782) (.bool true) (.ref 783) .none (.ref 784) (.ref 785) (.ref 786) 1323
noncomputable def o727:=zf (F (sm 50 0) "RegexReader.__init__" 3 [] .none .none .none (zs "grammarmill.regex" 882) none (.ref 787) .none 0)
noncomputable def o729:=zt [zs "self" 1329,zs "what" 1330,zs "at" 1331]
noncomputable def o731:Obj:=⟨zn,none,(F (sm 50 1) "RegexReader.failed" 0 [] .none .none .none .none none .none .none 0),#[]⟩
noncomputable def o732:=zc "failed" "RegexReader.failed" 1326 417 3 0 0 3 (.ref 789) (.bool true) (.ref 790) .none (.ref 791) (.ref 792) (.ref 793) 1332
noncomputable def o733:=zf (F (sm 50 1) "RegexReader.failed" 3 [] .none .none .none (zs "grammarmill.regex" 882) none (.ref 794) .none 0)
noncomputable def o735:=zt [zs "self" 1338,zs "sign" 1339]
noncomputable def o737:Obj:=⟨zn,none,(F (sm 50 2) "RegexReader.is_over" 0 [] .none .none .none .none none .none .none 0),#[]⟩
noncomputable def o738:=zc "is_over" "RegexReader.is_over" 1335 420 1 0 0 3 (.ref 796) (.bool true) (.ref 797) .none (.ref 798) (.ref 799) (.ref 800) 1340
noncomputable def o739:=zf (F (sm 50 2) "RegexReader.is_over" 3 [] .none .none .none (zs "grammarmill.regex" 882) none (.ref 801) .none 0)
noncomputable def o741:=zt [zs "self" 1346,zs "sign" 1347]
noncomputable def o743:Obj:=⟨zn,none,(F (sm 50 3) "RegexReader.is_stop" 0 [] .none .none .none .none none .none .none 0),#[]⟩
noncomputable def o744:=zc "is_stop" "RegexReader.is_stop" 1343 424 1 0 0 3 (.ref 803) (.bool true) (.ref 804) .none (.ref 805) (.ref 806) (.ref 807) 1348
noncomputable def o745:=zf (F (sm 50 3) "RegexReader.is_stop" 3 [] .none .none .none (zs "grammarmill.regex" 882) none (.ref 808) .none 0)
noncomputable def o747:=zt [zs "self" 1354,zs "node" 1355]
noncomputable def o749:Obj:=⟨zn,none,(F (sm 50 4) "RegexReader.choice" 0 [] .none .none .none .none none .none .none 0),#[]⟩
noncomputable def o750:=zc "choice" "RegexReader.choice" 1351 434 1 0 0 3 (.ref 810) (.bool true) (.ref 811) .none (.ref 812) (.ref 813) (.ref 814) 1356
noncomputable def o751:=zf (F (sm 50 4) "RegexReader.choice" 3 [] .none .none .none (zs "grammarmill.regex" 882) none (.ref 815) .none 0)
noncomputable def o753:=zt [zs "self" 1362,zs "row" 1363]
noncomputable def o755:Obj:=⟨zn,none,(F (sm 50 5) "RegexReader.branch" 0 [] .none .none .none .none none .none .none 0),#[]⟩
noncomputable def o756:=zc "branch" "RegexReader.branch" 1359 440 1 0 0 3 (.ref 817) (.bool true) (.ref 818) .none (.ref 819) (.ref 820) (.ref 821) 1364
noncomputable def o757:=zf (F (sm 50 5) "RegexReader.branch" 3 [] .none .none .none (zs "grammarmill.regex" 882) none (.ref 822) .none 0)
noncomputable def o759:=zt [zs "self" 1370,zs "part" 1371,zs "node" 1372,zs "turn" 1373,zs "begun" 1374]
noncomputable def o761:Obj:=⟨zn,none,(F (sm 50 6) "RegexReader.looped" 0 [] .none .none .none .none none .none .none 0),#[]⟩
noncomputable def o762:=zc "looped" "RegexReader.looped" 1367 446 2 0 0 3 (.ref 824) (.bool true) (.ref 825) .none (.ref 826) (.ref 827) (.ref 828) 1375
noncomputable def o763:=zf (F (sm 50 6) "RegexReader.looped" 3 [] .none .none .none (zs "grammarmill.regex" 882) none (.ref 829) .none 0)
noncomputable def o765:=zt [zs "self" 1381,zs "body" 1382,zs "opening" 1383,zs "low" 1384,zs "high" 1385]
noncomputable def o767:Obj:=⟨zn,none,(F (sm 50 7) "RegexReader.counted" 0 [] .none .none .none .none none .none .none 0),#[]⟩
noncomputable def o768:=zc "counted" "RegexReader.counted" 1378 462 2 0 0 3 (.ref 831) (.bool true) (.ref 832) .none (.ref 833) (.ref 834) (.ref 835) 1386
noncomputable def o769:=zf (F (sm 50 7) "RegexReader.counted" 3 [] .none .none .none (zs "grammarmill.regex" 882) none (.ref 836) .none 0)
noncomputable def o771:=zt [zs "self" 1392,zs "begun" 1393,zs "number" 1394,zs "figure" 1395]
noncomputable def o773:Obj:=⟨zn,none,(F (sm 50 8) "RegexReader.count" 0 [] .none .none .none .none none .none .none 0),#[]⟩
noncomputable def o774:=zc "count" "RegexReader.count" 1389 479 1 0 0 3 (.ref 838) (.bool true) (.ref 839) .none (.ref 840) (.ref 841) (.ref 842) 1396
noncomputable def o775:=zf (F (sm 50 8) "RegexReader.count" 3 [] .none .none .none (zs "grammarmill.regex" 882) none (.ref 843) .none 0)
noncomputable def o777:=zt [zs "self" 1402,zs "begun" 1403,zs "sign" 1404,zs "node" 1405,zs "code" 1406]
noncomputable def o779:Obj:=⟨zn,none,(F (sm 50 9) "RegexReader.single" 0 [] .none .none .none .none none .none .none 0),#[]⟩
noncomputable def o780:=zc "single" "RegexReader.single" 1399 488 1 0 0 3 (.ref 845) (.bool true) (.ref 846) .none (.ref 847) (.ref 848) (.ref 849) 1407
noncomputable def o781:=zf (F (sm 50 9) "RegexReader.single" 3 [] .none .none .none (zs "grammarmill.regex" 882) none (.ref 850) .none 0)
noncomputable def o783:=zt [zs "self" 1413,zs "sign" 1414,zs "begun" 1415,zs "told" 1416,zs "code" 1417]
noncomputable def o785:Obj:=⟨zn,none,(F (sm 50 10) "RegexReader.code_of" 0 [] .none .none .none .none none .none .none 0),#[]⟩
noncomputable def o786:=zc "code_of" "RegexReader.code_of" 1410 513 3 0 0 3 (.ref 852) (.bool true) (.ref 853) .none (.ref 854) (.ref 855) (.ref 856) 1418
noncomputable def o787:=zf (F (sm 50 10) "RegexReader.code_of" 3 [] .none .none .none (zs "grammarmill.regex" 882) none (.ref 857) .none 0)
noncomputable def o789:Obj:=⟨zn,none,(F (sm 50 11) "RegexReader.quoted" 0 [] .none .none .none .none none .none .none 0),#[]⟩
noncomputable def o790:=zc "quoted" "RegexReader.quoted" 1421 526 2 0 0 3 (.ref 859) (.bool true) (.ref 860) .none .none .none (.ref 861) 1424
noncomputable def o791:=zf (F (sm 50 11) "RegexReader.quoted" 3 [] .none .none .none (zs "grammarmill.regex" 882) none (.ref 862) .none 0)
noncomputable def o793:=zt [zs "self" 1430,zs "begun" 1431,zs "word" 1432]
noncomputable def o795:Obj:=⟨zn,none,(F (sm 50 12) "RegexReader.defined" 0 [] .none .none .none .none none .none .none 0),#[]⟩
noncomputable def o796:=zc "defined" "RegexReader.defined" 1427 538 2 0 0 3 (.ref 864) (.bool true) (.ref 865) .none (.ref 866) (.ref 867) (.ref 868) 1433
noncomputable def o797:=zf (F (sm 50 12) "RegexReader.defined" 3 [] .none .none .none (zs "grammarmill.regex" 882) none (.ref 869) .none 0)
noncomputable def o799:=zt [zs "self" 1439,zs "begun" 1440,zs "is_turned" 1441,zs "pairs" 1442,zs "is_first" 1443,zs "pair" 1444,zs "charset" 1445]
noncomputable def o801:Obj:=⟨zn,none,(F (sm 50 13) "RegexReader.sign_class" 0 [] .none .none .none .none none .none .none 0),#[]⟩
noncomputable def o802:=zc "sign_class" "RegexReader.sign_class" 1436 544 2 0 0 3 (.ref 871) (.bool true) (.ref 872) .none (.ref 873) (.ref 874) (.ref 875) 1446
noncomputable def o803:=zf (F (sm 50 13) "RegexReader.sign_class" 3 [] .none .none .none (zs "grammarmill.regex" 882) none (.ref 876) .none 0)
noncomputable def o805:=zt [zs "self" 1452,zs "begun" 1453,zs "charset" 1454]
noncomputable def o807:Obj:=⟨zn,none,(F (sm 50 14) "RegexReader.named" 0 [] .none .none .none .none none .none .none 0),#[]⟩
noncomputable def o808:=zc "named" "RegexReader.named" 1449 563 1 0 0 3 (.ref 878) (.bool true) (.ref 879) .none (.ref 880) (.ref 881) (.ref 882) 1455
noncomputable def o809:=zf (F (sm 50 14) "RegexReader.named" 3 [] .none .none .none (zs "grammarmill.regex" 882) none (.ref 883) .none 0)
noncomputable def o811:=zt [zs "self" 1461,zs "begun" 1462,zs "low" 1463,zs "high" 1464]
noncomputable def o813:Obj:=⟨zn,none,(F (sm 50 15) "RegexReader.span" 0 [] .none .none .none .none none .none .none 0),#[]⟩
noncomputable def o814:=zc "span" "RegexReader.span" 1458 571 1 0 0 3 (.ref 885) (.bool true) (.ref 886) .none (.ref 887) (.ref 888) (.ref 889) 1465
noncomputable def o815:=zf (F (sm 50 15) "RegexReader.span" 3 [] .none .none .none (zs "grammarmill.regex" 882) none (.ref 890) .none 0)
noncomputable def o817:=zt [zs "self" 1471,zs "begun" 1472,zs "sign" 1473]
noncomputable def o819:Obj:=⟨zn,none,(F (sm 50 16) "RegexReader.member" 0 [] .none .none .none .none none .none .none 0),#[]⟩
noncomputable def o820:=zc "member" "RegexReader.member" 1468 584 1 0 0 3 (.ref 892) (.bool true) (.ref 893) .none (.ref 894) (.ref 895) (.ref 896) 1474
noncomputable def o821:=zf (F (sm 50 16) "RegexReader.member" 3 [] .none .none .none (zs "grammarmill.regex" 882) none (.ref 897) .none 0)
noncomputable def o822:=zt [zs "cursor" 1477,zs "definitions" 1478,zs "depth" 1479,zs "is_pattern" 1480]
noncomputable def o823 (P:Params):Obj:=⟨zd,none,(.dict #[E P "__module__" 1310 (zs "grammarmill.regex" 882),E P "__firstlineno__" 1314 (.int 409 1313),E P "__init__" 1325 (.ref 788),E P "failed" 1334 (.ref 795),E P "is_over" 1342 (.ref 802),E P "is_stop" 1350 (.ref 809),E P "choice" 1358 (.ref 816),E P "branch" 1366 (.ref 823),E P "looped" 1377 (.ref 830),E P "counted" 1388 (.ref 837),E P "count" 1398 (.ref 844),E P "single" 1409 (.ref 851),E P "code_of" 1420 (.ref 858),E P "quoted" 1426 (.ref 863),E P "defined" 1435 (.ref 870),E P "sign_class" 1448 (.ref 877),E P "named" 1457 (.ref 884),E P "span" 1467 (.ref 891),E P "member" 1476 (.ref 898),E P "__static_attributes__" 1481 (.ref 899),E P "__dict__" 1483 (.ref 902),E P "__weakref__" 1485 (.ref 903),E P "__doc__" 1486 .none] 4),#[]⟩
noncomputable def o824:Obj:=⟨(.type "type"),none,(.cls ⟨(S "RegexReader"),[.type "object"],[.ref 901,.type "object"],900,S "RegexReader",true,[],[],false,none,false⟩),#[none,none,(some (zs "RegexReader" 1303)),(some (zs "RegexReader" 1311)),(some (.builtin "object.__new__")),(some (.bool true))]⟩
noncomputable def o825:Obj:=⟨(.type "getset_descriptor"),none,(.fields #[zs "__dict__" 1482,.ref 901,.builtin "function.__dict__",.builtin "function.__dict__#set"]),#[]⟩
noncomputable def o826:Obj:=⟨(.type "getset_descriptor"),none,(.fields #[zs "__weakref__" 1484,.ref 901,.builtin "ExceptionGroup.__weakref__",.none]),#[]⟩
noncomputable def o827:Obj:=⟨(.type "super"),none,(.fields #[.ref 901,.ref 901,.ref 901]),#[]⟩
noncomputable def o828:Obj:=⟨(.type "builtin_function_or_method"),none,(.fields #[.builtin "object.__init_subclass__",.ref 901]),#[]⟩
noncomputable def o831:=zt [zs "text" 1492,zs "definitions" 1493,zs "reader" 1494,zs "node" 1495]
noncomputable def o833:Obj:=⟨zn,none,(F (st 51) "read_regex" 0 [] .none .none .none .none none .none .none 0),#[]⟩
noncomputable def o834:=zc "read_regex" "read_regex" 1489 590 2 0 0 3 (.ref 907) (.bool true) (.ref 908) .none (.ref 909) (.ref 910) (.ref 911) 1496
noncomputable def o835:=zf (F (st 51) "read_regex" 3 [] (.ref 906) .none .none (zs "grammarmill.regex" 882) none (.ref 912) .none 0)
noncomputable def o838:=zt [zs "text" 1502,zs "at" 1503,zs "definitions" 1504,zs "reader" 1505,zs "cursor" 1506,zs "begins" 1507,zs "begun" 1508,zs "body" 1509,zs "trail" 1510,zs "slash" 1511,zs "dollar" 1512]
noncomputable def o840:Obj:=⟨zn,none,(F (st 52) "read_pattern" 0 [] .none .none .none .none none .none .none 0),#[]⟩
noncomputable def o841:=zc "read_pattern" "read_pattern" 1499 596 3 0 0 3 (.ref 915) (.bool true) (.ref 916) .none (.ref 917) (.ref 918) (.ref 919) 1513
noncomputable def o842:=zf (F (st 52) "read_pattern" 3 [] (.ref 914) .none .none (zs "grammarmill.regex" 882) none (.ref 920) .none 0)
noncomputable def o843 (P:Params):Obj:=⟨zd,none,(.dict #[E P "__name__" 165 (zs "law_nn0413_01" 1569),E P "__doc__" 166 .none,E P "__package__" 167 .none,E P "__loader__" 168 (.builtin "__main__.__loader__#opaque"),E P "__spec__" 169 .none,E P "__annotations__" 170 (.ref 6),E P "__builtins__" 171 (.ref 4),E P "__file__" 173 (zs "/claim/cut.py" 172),E P "__cached__" 174 .none,E P "_wall" 193 (.ref 21),E P "SMALL" 197 (zs "abcdefghijklmnopqrstuvwxyz" 196),E P "LETTERS" 200 (zs "abcdefghijklmnopqrstuvwxyzABCDEFGHIJKLMNOPQRSTUVWXYZ" 199),E P "FIGURES" 202 (zs "0123456789" 201),E P "NAME_SIGNS" 206 (zs "abcdefghijklmnopqrstuvwxyzABCDEFGHIJKLMNOPQRSTUVWXYZ_0123456789" 205),E P "HEX_SIGNS" 209 (zs "0123456789abcdefABCDEF" 208),E P "OCTAL_SIGNS" 211 (zs "01234567" 210),E P "MOST_FIGURES" 213 (.int 4000 212),E P "PLAIN_ESCAPES" 235 (.ref 22),E P "Position" 275 (.ref 46),E P "position_of" 287 (.ref 57),E P "ToolError" 325 (.ref 82),E P "RegexError" 341 (.ref 95),E P "Cursor" 501 (.ref 222),E P "hex_escape" 509 (.ref 233),E P "escaped_sign" 518 (.ref 240),E P "TOP" 522 (.int 127 521),E P "HEX" 524 (zs "0123456789abcdef" 523),E P "BRACKET_SIGNS" 526 (zs "\\][^-" 525),E P "CLASS_SPANS" 597 (.ref 241),E P "CharSet" 855 (.ref 442),E P "show_code" 863 (.ref 453),E P "told" 873 (.ref 460),E P "named_class" 881 (.ref 467),E P "MOST_REPEAT" 885 (.int 40 884),E P "MOST_NESTED" 887 (.int 20 886),E P "BLANKS" 889 (zs " \t\n" 888),E P "STRAY_SIGNS" 891 (zs "*+?]}^$/ \t\n" 890),E P "NEWLINE" 893 (zs "\n" 892),E P "Node" 929 (.ref 491),E P "Empty" 947 (.ref 505),E P "Never" 965 (.ref 517),E P "Chars" 999 (.ref 543),E P "Pair" 1043 (.ref 576),E P "Cat" 1061 (.ref 588),E P "Alt" 1079 (.ref 600),E P "Loop" 1118 (.ref 633),E P "Star" 1136 (.ref 645),E P "Plus" 1154 (.ref 657),E P "Opt" 1172 (.ref 669),E P "Repeat" 1209 (.ref 695),E P "spine" 1218 (.ref 704),E P "cat_all" 1227 (.ref 711),E P "chars_node" 1234 (.ref 718),E P "Pattern" 1289 (.ref 756),E P "line_end" 1295 (.ref 767),E P "is_figure" 1302 (.ref 774),E P "RegexReader" 1488 (.ref 901),E P "read_regex" 1498 (.ref 913),E P "read_pattern" 1515 (.ref 921),E P "MARKS" 1519 (zs "\"[](){}.*+?|^$/<%" 1518),E P "LOOSE" 1521 (.int 0 1520),E P "ROW" 1523 (.int 1 1522),E P "TIGHT" 1525 (.int 2 1524),E P "show_sign" 1532 (.ref 928),E P "show_chars" 1539 (.ref 935),E P "show_count" 1547 (.ref 942),E P "show_at" 1553 (.ref 947),E P "show_regex" 1560 (.ref 954),E P "show_pattern" 1568 (.ref 961),E P "_law_pen" 1576 (.ref 966),E P "_law_draw" 1589 (.ref 973),E P "_law_leaf" 1595 (.ref 978),E P "_law_loop" 1605 (.ref 985),E P "_law_tree" 1617 (.ref 992),E P "_law_node" 1625 (.ref 999),E P "_law_pairs" 1637 (.ref 1006),E P "_law_heard" 1646 (.ref 1013),E P "_law_sign" 1654 (.ref 1020),E P "_law_few_told" 1667 (.ref 1027),E P "_law_pattern_told" 1681 (.ref 1034),E P "law" 1698 (.ref 1041)] 81),#[]⟩
noncomputable def o844:Obj:=⟨zn,none,(.fields #[zi 1,zi 0,.ref 20,zi 13,zi 0,.ref 28,zi 22,zi 0,.ref 56,zi 31,zi 0,.ref 63,zi 42,zi 0,.ref 91,zi 44,zi 0,.ref 103,zi 141,zi 0,.ref 232,zi 144,zi 0,.ref 239,zi 160,zi 0,.ref 282,zi 267,zi 0,.ref 452,zi 274,zi 0,.ref 459,zi 285,zi 0,.ref 466,zi 296,zi 0,.ref 473,zi 304,zi 0,.ref 501,zi 306,zi 0,.ref 513,zi 308,zi 0,.ref 525,zi 316,zi 0,.ref 551,zi 331,zi 0,.ref 584,zi 333,zi 0,.ref 596,zi 335,zi 0,.ref 608,zi 345,zi 0,.ref 641,zi 347,zi 0,.ref 653,zi 349,zi 0,.ref 665,zi 351,zi 0,.ref 677,zi 365,zi 0,.ref 703,zi 374,zi 0,.ref 710,zi 381,zi 0,.ref 717,zi 385,zi 0,.ref 724,zi 405,zi 0,.ref 766,zi 407,zi 0,.ref 773,zi 409,zi 0,.ref 780,zi 590,zi 0,.ref 912,zi 596,zi 0,.ref 920,zi 625,zi 0,.ref 927,zi 629,zi 0,.ref 934,zi 635,zi 0,.ref 941,zi 641,zi 0,.ref 946,zi 666,zi 0,.ref 953,zi 668,zi 0,.ref 960,zi 678,zi 0,.ref 965,zi 680,zi 0,.ref 972,zi 697,zi 0,.ref 977,zi 721,zi 0,.ref 984,zi 728,zi 0,.ref 991,zi 743,zi 0,.ref 998,zi 762,zi 0,.ref 1005,zi 783,zi 0,.ref 1012,zi 790,zi 0,.ref 1019,zi 797,zi 0,.ref 1026,zi 807,zi 0,.ref 1033,zi 814,zi 0,.ref 1040]),#[]⟩
noncomputable def o846:=zt [zs "sign" 1529]
noncomputable def o848:Obj:=⟨zn,none,(F (st 58) "show_sign" 0 [] .none .none .none .none none .none .none 0),#[]⟩
noncomputable def o849:=zc "show_sign" "show_sign" 1526 625 1 0 0 3 (.ref 922) (.bool true) (.ref 923) .none (.ref 924) (.ref 925) (.ref 926) 1530
noncomputable def o850:=zf (F (st 58) "show_sign" 3 [] .none .none .none (zs "grammarmill.regtools" 1516) none (.ref 927) .none 0)
noncomputable def o852:=zt [zs "charset" 1536]
noncomputable def o854:Obj:=⟨zn,none,(F (st 59) "show_chars" 0 [] .none .none .none .none none .none .none 0),#[]⟩
noncomputable def o855:=zc "show_chars" "show_chars" 1533 629 1 0 0 3 (.ref 929) (.bool true) (.ref 930) .none (.ref 931) (.ref 932) (.ref 933) 1537
noncomputable def o856:=zf (F (st 59) "show_chars" 3 [] .none .none .none (zs "grammarmill.regtools" 1516) none (.ref 934) .none 0)
noncomputable def o858:=zt [zs "low" 1543,zs "high" 1544]
noncomputable def o860:Obj:=⟨zn,none,(F (st 60) "show_count" 0 [] .none .none .none .none none .none .none 0),#[]⟩
noncomputable def o861:=zc "show_count" "show_count" 1540 635 2 0 0 3 (.ref 936) (.bool true) (.ref 937) .none (.ref 938) (.ref 939) (.ref 940) 1545
noncomputable def o862:=zf (F (st 60) "show_count" 3 [] .none .none .none (zs "grammarmill.regtools" 1516) none (.ref 941) .none 0)
noncomputable def o864:Obj:=⟨zn,none,(F (st 61) "show_at" 0 [] .none .none .none .none none .none .none 0),#[]⟩
noncomputable def o865:=zc "show_at" "show_at" 1548 641 2 0 0 3 (.ref 943) (.bool true) (.ref 944) .none .none .none (.ref 945) 1551
noncomputable def o866:=zf (F (st 61) "show_at" 3 [] .none .none .none (zs "grammarmill.regtools" 1516) none (.ref 946) .none 0)
noncomputable def o868:=zt [zs "node" 1557]
noncomputable def o870:Obj:=⟨zn,none,(F (st 62) "show_regex" 0 [] .none .none .none .none none .none .none 0),#[]⟩
noncomputable def o871:=zc "show_regex" "show_regex" 1554 666 1 0 0 3 (.ref 948) (.bool true) (.ref 949) .none (.ref 950) (.ref 951) (.ref 952) 1558
noncomputable def o872:=zf (F (st 62) "show_regex" 3 [] .none .none .none (zs "grammarmill.regtools" 1516) none (.ref 953) .none 0)
noncomputable def o874:=zt [zs "pattern" 1564,zs "text" 1565]
noncomputable def o876:Obj:=⟨zn,none,(F (st 63) "show_pattern" 0 [] .none .none .none .none none .none .none 0),#[]⟩
noncomputable def o877:=zc "show_pattern" "show_pattern" 1561 668 1 0 0 3 (.ref 955) (.bool true) (.ref 956) .none (.ref 957) (.ref 958) (.ref 959) 1566
noncomputable def o878:=zf (F (st 63) "show_pattern" 3 [] .none .none .none (zs "grammarmill.regtools" 1516) none (.ref 960) .none 0)
noncomputable def o880:Obj:=⟨zn,none,(F (st 65) "_law_pen" 0 [] .none .none .none .none none .none .none 0),#[]⟩
noncomputable def o881:=zc "_law_pen" "_law_pen" 1571 678 1 0 0 3 (.ref 962) (.bool true) (.ref 963) .none .none .none (.ref 964) 1574
noncomputable def o882:=zf (F (st 65) "_law_pen" 3 [] .none .none .none (zs "law_nn0413_01" 1569) none (.ref 965) .none 0)
noncomputable def o884:=zt [zs "pen" 1580,zs "many" 1581,zs "digit" 1582,zs "spot" 1583,zs "cell" 1584,zs "great" 1585,zs "mixed" 1586]
noncomputable def o886:Obj:=⟨zn,none,(F (st 66) "_law_draw" 0 [] .none .none .none .none none .none .none 0),#[]⟩
noncomputable def o887:=zc "_law_draw" "_law_draw" 1577 680 2 0 0 3 (.ref 967) (.bool true) (.ref 968) .none (.ref 969) (.ref 970) (.ref 971) 1587
noncomputable def o888:=zf (F (st 66) "_law_draw" 3 [] .none .none .none (zs "law_nn0413_01" 1569) none (.ref 972) .none 0)
noncomputable def o890:Obj:=⟨zn,none,(F (st 67) "_law_leaf" 0 [] .none .none .none .none none .none .none 0),#[]⟩
noncomputable def o891:=zc "_law_leaf" "_law_leaf" 1590 697 1 0 0 3 (.ref 974) (.bool true) (.ref 975) .none .none .none (.ref 976) 1593
noncomputable def o892:=zf (F (st 67) "_law_leaf" 3 [] .none .none .none (zs "law_nn0413_01" 1569) none (.ref 977) .none 0)
noncomputable def o894:=zt [zs "pen" 1599,zs "way" 1600,zs "body" 1601,zs "low" 1602]
noncomputable def o896:Obj:=⟨zn,none,(F (st 68) "_law_loop" 0 [] .none .none .none .none none .none .none 0),#[]⟩
noncomputable def o897:=zc "_law_loop" "_law_loop" 1596 721 3 0 0 3 (.ref 979) (.bool true) (.ref 980) .none (.ref 981) (.ref 982) (.ref 983) 1603
noncomputable def o898:=zf (F (st 68) "_law_loop" 3 [] .none .none .none (zs "law_nn0413_01" 1569) none (.ref 984) .none 0)
noncomputable def o900:=zt [zs "pen" 1609,zs "turns" 1610,zs "pile" 1611,zs "turn" 1612,zs "way" 1613,zs "right" 1614]
noncomputable def o902:Obj:=⟨zn,none,(F (st 69) "_law_tree" 0 [] .none .none .none .none none .none .none 0),#[]⟩
noncomputable def o903:=zc "_law_tree" "_law_tree" 1606 728 2 0 0 3 (.ref 986) (.bool true) (.ref 987) .none (.ref 988) (.ref 989) (.ref 990) 1615
noncomputable def o904:=zf (F (st 69) "_law_tree" 3 [] .none .none .none (zs "law_nn0413_01" 1569) none (.ref 991) .none 0)
noncomputable def o906:=zt [zs "tree" 1621,zs "name" 1622]
noncomputable def o908:Obj:=⟨zn,none,(F (st 70) "_law_node" 0 [] .none .none .none .none none .none .none 0),#[]⟩
noncomputable def o909:=zc "_law_node" "_law_node" 1618 743 1 0 0 3 (.ref 993) (.bool true) (.ref 994) .none (.ref 995) (.ref 996) (.ref 997) 1623
noncomputable def o910:=zf (F (st 70) "_law_node" 3 [] .none .none .none (zs "law_nn0413_01" 1569) none (.ref 998) .none 0)
noncomputable def o912:=zt [zs "text" 1629,zs "found" 1630,zs "opened" 1631,zs "is_class" 1632,zs "spot" 1633,zs "sign" 1634]
noncomputable def o914:Obj:=⟨zn,none,(F (st 71) "_law_pairs" 0 [] .none .none .none .none none .none .none 0),#[]⟩
noncomputable def o915:=zc "_law_pairs" "_law_pairs" 1626 762 1 0 0 3 (.ref 1000) (.bool true) (.ref 1001) .none (.ref 1002) (.ref 1003) (.ref 1004) 1635
noncomputable def o916:=zf (F (st 71) "_law_pairs" 3 [] .none .none .none (zs "law_nn0413_01" 1569) none (.ref 1005) .none 0)
noncomputable def o918:=zt [zs "text" 1641,zs "known" 1642,zs "found" 1643]
noncomputable def o920:Obj:=⟨zn,none,(F (st 72) "_law_heard" 0 [] .none .none .none .none none .none .none 0),#[]⟩
noncomputable def o921:=zc "_law_heard" "_law_heard" 1638 783 2 0 0 3 (.ref 1007) (.bool true) (.ref 1008) .none (.ref 1009) (.ref 1010) (.ref 1011) 1644
noncomputable def o922:=zf (F (st 72) "_law_heard" 3 [] .none .none .none (zs "law_nn0413_01" 1569) none (.ref 1012) .none 0)
noncomputable def o924:=zt [zs "code" 1650,zs "sign" 1651]
noncomputable def o926:Obj:=⟨zn,none,(F (st 73) "_law_sign" 0 [] .none .none .none .none none .none .none 0),#[]⟩
noncomputable def o927:=zc "_law_sign" "_law_sign" 1647 790 1 0 0 3 (.ref 1014) (.bool true) (.ref 1015) .none (.ref 1016) (.ref 1017) (.ref 1018) 1652
noncomputable def o928:=zf (F (st 73) "_law_sign" 3 [] .none .none .none (zs "law_nn0413_01" 1569) none (.ref 1019) .none 0)
noncomputable def o930:=zt [zs "pen" 1658,zs "code" 1659,zs "due" 1660,zs "node" 1661,zs "low" 1662,zs "high" 1663,zs "many" 1664]
noncomputable def o932:Obj:=⟨zn,none,(F (st 74) "_law_few_told" 0 [] .none .none .none .none none .none .none 0),#[]⟩
noncomputable def o933:=zc "_law_few_told" "_law_few_told" 1655 797 1 0 0 3 (.ref 1021) (.bool true) (.ref 1022) .none (.ref 1023) (.ref 1024) (.ref 1025) 1665
noncomputable def o934:=zf (F (st 74) "_law_few_told" 3 [] .none .none .none (zs "law_nn0413_01" 1569) none (.ref 1026) .none 0)
noncomputable def o936:=zt [zs "pen" 1671,zs "tree" 1672,zs "trail" 1673,zs "begins" 1674,zs "shown" 1675,zs "lead" 1676,zs "pattern" 1677,zs "end" 1678]
noncomputable def o938:Obj:=⟨zn,none,(F (st 75) "_law_pattern_told" 0 [] .none .none .none .none none .none .none 0),#[]⟩
noncomputable def o939:=zc "_law_pattern_told" "_law_pattern_told" 1668 807 2 0 0 3 (.ref 1028) (.bool true) (.ref 1029) .none (.ref 1030) (.ref 1031) (.ref 1032) 1679
noncomputable def o940:=zf (F (st 75) "_law_pattern_told" 3 [] .none .none .none (zs "law_nn0413_01" 1569) none (.ref 1033) .none 0)
noncomputable def o942:=zt [zs "script" 1685,zs "pen" 1686,zs "tree" 1687,zs "node" 1688,zs "text" 1689,zs "pairs" 1690,zs "begun" 1691,zs "end" 1692,zs "known" 1693,zs "longer" 1694,zs "around" 1695]
noncomputable def o944:Obj:=⟨zn,none,(F (st 76) "law" 0 [] .none .none .none .none none .none .none 0),#[]⟩
noncomputable def o945:=zc "law" "law" 1682 814 1 0 0 3 (.ref 1035) (.bool true) (.ref 1036) .none (.ref 1037) (.ref 1038) (.ref 1039) 1696
noncomputable def o946:=zf (F (st 76) "law" 3 [] .none .none .none (zs "law_nn0413_01" 1569) none (.ref 1040) .none 0)
noncomputable def t0 (P:Params):BT:=zp .nil 0 [yb0 P,yb1 P,yb2 P,yb3 P,yb4 P,yb5 P,yb6 P,yb7 P,yb8 P,yb9 P,yb10 P,o0,dz,o1,o2]
noncomputable def s0 (w:World)(os:OsState):SharedT:=⟨t0 w.params,15,{},⟨[]⟩,{},187,os⟩
noncomputable def t1 (P:Params):BT:=zp (zq (t0 P) [(3,(o3 P)),(12,o4)]) 15 [o0,dz,o6,o0,o8,o9,o10]
noncomputable def s1 (w:World)(os:OsState):SharedT:=⟨t1 w.params,22,{},⟨[]⟩,{},214,os⟩
noncomputable def t2 (P:Params):BT:=zp (zq (t1 P) [(3,(o11 P))]) 22 [o12 P]
noncomputable def s2 (w:World)(os:OsState):SharedT:=⟨t2 w.params,23,{},⟨[]⟩,{},236,os⟩
noncomputable def t3 (P:Params):BT:=zp (zq (t2 P) [(2,(o13 P)),(3,(o14 P)),(12,o15)]) 23 [o0,o17,o18 P,o0,o20,o21,o22,o0,dz,o24,o0,o26,o27,o28,o0,dz,o30,o0,o32,o33,o34,o35,o36 P,o37,o38,o39,o40,o41,o0,dz,o43,o0,o45,o46,o47,o48,o17,o50 P,o0,o52,o53,o54,o55,o0,dz,o57,o0,o59,o60,o61,o0,dz,o63,o0,o65,o66,o67,o68,o69 P,o70,o71,o72,o73,o74,o17,o76 P,o0,dz,o78,o79,o0,o81 P,o82,o83,o84]
noncomputable def s3 (w:World)(os:OsState):SharedT:=⟨t3 w.params,98,{},⟨[]⟩,{},342,os⟩
noncomputable def t4 (P:Params):BT:=zp (zq (t3 P) [(3,(o85 P)),(12,o86)]) 98 [o0,o17,o89 P,o0,o91,o92,o93,o94,o0,dz,o96,o0,o98,o99,o100,o0,dz,o102,o0,o104,o105,o106,o107,o0,dz,o109,o0,o111,o112,o113,o0,dz,o115,o0,o117,o118,o119,o0,dz,o121,o0,o123,o124,o125,o0,dz,o127,o0,o129,o130,o131,o0,dz,o133,o0,o135,o136,o137,o0,dz,o139,o0,o141,o142,o143,o144,o0,dz,o146,o0,o148,o149,o150,o0,dz,o152,o0,o154,o155,o156,o0,dz,o158,o0,o160,o161,o162,o0,dz,o164,o0,o166,o167,o168,o0,dz,o170,o0,o172,o173,o174,o0,dz,o176,o0,o178,o179,o180,o0,dz,o182,o0,o184,o185,o186,o0,dz,o188,o0,o190,o191,o192,o193,o194 P,o195,o196,o197,o198,o199,o0,dz,o201,o0,o203,o204,o205,o0,dz,o207,o0,o209,o210,o211]
noncomputable def s4 (w:World)(os:OsState):SharedT:=⟨t4 w.params,241,{},⟨[]⟩,{},527,os⟩
noncomputable def t5 (P:Params):BT:=zp (zq (t4 P) [(3,(o212 P))]) 241 [o213 P,o214,o215,o216,o217,o218,o219,o220,o221,o222,o223,o224,o225,o226,o227,o228,o229,o230,o231,o232,o233,o234,o235,o236,o237,o238,o239,o240,o241,o242,o243,o244,o245,o246,o247,o248]
noncomputable def s5 (w:World)(os:OsState):SharedT:=⟨t5 w.params,277,{},⟨[]⟩,{},598,os⟩
noncomputable def t6 (P:Params):BT:=zp (zq (t5 P) [(3,(o249 P)),(12,o250)]) 277 [o0,o17,o253 P,o0,o255,o256,o257,o0,dz,o259,o0,o261,o262,o263,o0,dz,o0,o0,o267,o268,o269,o270 P,o271,o272,o0,dz,o0,o0,o276,o277,o278,o279 P,o280,o272,o0,dz,o0,o0,o285,o286,o287,o288 P,o289,o272,o0,dz,o292,o293,o294,o295 P,o296,o272,o0,dz,o299,o0,o301,o302,o303,o304 P,o305,o272,o0,dz,o308,o0,o310,o311,o312,o313 P,o314,o272,o0,dz,o317,o0,o319,o320,o321,o0,dz,o323,o0,o325,o326,o327,o0,dz,o329,o0,o331,o332,o333,o0,dz,o335,o0,o337,o338,o339,o0,dz,o341,o0,o343,o344,o345,o0,dz,o347,o0,o349,o350,o351,o0,dz,o353,o0,o355,o356,o357,o0,dz,o359,o0,o361,o362,o363,o0,dz,o365,o0,o367,o368,o369,o0,dz,o371,o0,o373,o374,o375,o0,dz,o377,o0,o379,o380,o381,o0,dz,o383,o0,o385,o386,o387,o0,dz,o389,o0,o391,o392,o393,o394,o395 P,o396,o397,o398,o399,o400]
noncomputable def s6 (w:World)(os:OsState):SharedT:=⟨t6 w.params,447,{},⟨[]⟩,{},856,os⟩
noncomputable def t7 (P:Params):BT:=zp (zq (t6 P) [(3,(o401 P)),(12,o402)]) 447 [o0,dz,o404,o0,o406,o407,o408,o0,dz,o410,o0,o412,o413,o414,o0,dz,o416,o0,o418,o419,o420,o0,o17,o423 P,o0,o425,o426,o427,o0,dz,o429,o0,o431,o432,o433,o0,dz,o435,o0,o437,o438,o439,o0,o441 P,o442,o443,o444,o445,o446,o447,o17,o449 P,o0,dz,o451,o452,o0,o454 P,o455,o456,o457]
noncomputable def s7 (w:World)(os:OsState):SharedT:=⟨t7 w.params,508,{},⟨[]⟩,{},948,os⟩
noncomputable def t8 (P:Params):BT:=zp (zq (t7 P) [(3,(o458 P)),(12,o459),(491,o460)]) 508 [o447,o17,o463 P,o0,dz,o465,o466,o0,o468 P,o469,o470,o471,o447,o17,o474 P,o0,o476,o477,o478,o0,dz,o480,o0,o482,o483,o484,o0,dz,o486,o0,o488,o489,o490,o491,o492 P,o493,o494,o495,o447,o17,o498 P,o0,o500,o501,o502,o0,dz,o504,o0,o506,o507,o508,o0,dz,o510,o0,o512,o513,o514,o0,dz,o516,o0,o518,o519,o520,o521,o522 P,o523,o524,o525]
noncomputable def s8 (w:World)(os:OsState):SharedT:=⟨t8 w.params,579,{},⟨[]⟩,{},1044,os⟩
noncomputable def t9 (P:Params):BT:=zp (zq (t8 P) [(3,(o526 P)),(12,o527),(491,o528),(576,o529)]) 579 [o530,o17,o532 P,o0,dz,o534,o535,o0,o537 P,o538,o539,o540,o530,o17,o543 P,o0,dz,o545,o546,o0,o548 P,o549,o550,o551,o447,o17,o554 P,o0,o556,o557,o558,o0,dz,o560,o0,o562,o563,o564,o0,dz,o566,o0,o568,o569,o570,o0,dz,o572,o0,o574,o575,o576,o577,o578 P,o579,o580,o581]
noncomputable def s9 (w:World)(os:OsState):SharedT:=⟨t9 w.params,636,{},⟨[]⟩,{},1119,os⟩
noncomputable def t10 (P:Params):BT:=zp (zq (t9 P) [(3,(o582 P)),(12,o583),(633,o584)]) 636 [o585,o17,o587 P,o0,dz,o589,o590,o0,o592 P,o593,o594,o595,o585,o17,o598 P,o0,dz,o600,o601,o0,o603 P,o604,o605,o606,o585,o17,o609 P,o0,dz,o611,o612,o0,o614 P,o615,o616,o617]
noncomputable def s10 (w:World)(os:OsState):SharedT:=⟨t10 w.params,672,{},⟨[]⟩,{},1173,os⟩
noncomputable def t11 (P:Params):BT:=zp (zq (t10 P) [(3,(o618 P)),(12,o619),(633,o620)]) 672 [o585,o17,o623 P,o0,o625,o626,o627,o0,dz,o629,o0,o631,o632,o633,o0,dz,o635,o0,o637,o638,o639,o640,o641 P,o642,o643,o644,o0,dz,o646,o0,o648,o649,o650,o0,dz,o652,o0,o654,o655,o656,o0,dz,o658,o0,o660,o661,o662,o0,o17,o665 P,o0,o667,o668,o669,o0,dz,o671,o0,o673,o674,o675,o0,dz,o677,o0,o679,o680,o681,o0,dz,o683,o0,o685,o686,o687,o0,dz,o689,o0,o691,o692,o693,o694,o695 P,o696,o697,o698,o699,o700,o0,dz,o0,o0,o704,o705,o706,o0,dz,o708,o0,o710,o711,o712]
noncomputable def s11 (w:World)(os:OsState):SharedT:=⟨t11 w.params,775,{},⟨[]⟩,{},1303,os⟩
noncomputable def t12 (P:Params):BT:=zp (zq (t11 P) [(3,(o713 P)),(12,o714)]) 775 [o0,o17,o717 P,o0,o719,o720,o721,o0,dz,o723,o0,o725,o726,o727,o0,dz,o729,o0,o731,o732,o733,o0,dz,o735,o0,o737,o738,o739,o0,dz,o741,o0,o743,o744,o745,o0,dz,o747,o0,o749,o750,o751,o0,dz,o753,o0,o755,o756,o757,o0,dz,o759,o0,o761,o762,o763,o0,dz,o765,o0,o767,o768,o769,o0,dz,o771,o0,o773,o774,o775,o0,dz,o777,o0,o779,o780,o781,o0,dz,o783,o0,o785,o786,o787,o0,dz,o789,o790,o791,o0,dz,o793,o0,o795,o796,o797,o0,dz,o799,o0,o801,o802,o803,o0,dz,o805,o0,o807,o808,o809,o0,dz,o811,o0,o813,o814,o815,o0,dz,o817,o0,o819,o820,o821,o822,o823 P,o824,o825,o826,o827,o828,o55,o0,dz,o831,o0,o833,o834,o835,o55,o0,dz,o838,o0,o840,o841,o842]
noncomputable def s12 (w:World)(os:OsState):SharedT:=⟨t12 w.params,922,{},⟨[]⟩,{},1518,os⟩
noncomputable def t13 (P:Params):BT:=zp (zq (t12 P) [(3,(o843 P)),(12,o844)]) 922 [o0,dz,o846,o0,o848,o849,o850,o0,dz,o852,o0,o854,o855,o856,o0,dz,o858,o0,o860,o861,o862,o0,dz,o864,o865,o866,o0,dz,o868,o0,o870,o871,o872,o0,dz,o874,o0,o876,o877,o878,o0,dz,o880,o881,o882,o0,dz,o884,o0,o886,o887,o888,o0,dz,o890,o891,o892,o0,dz,o894,o0,o896,o897,o898,o0,dz,o900,o0,o902,o903,o904,o0,dz,o906,o0,o908,o909,o910,o0,dz,o912,o0,o914,o915,o916,o0,dz,o918,o0,o920,o921,o922,o0,dz,o924,o0,o926,o927,o928,o0,dz,o930,o0,o932,o933,o934,o0,dz,o936,o0,o938,o939,o940,o0,dz,o942,o0,o944,o945,o946]
noncomputable def s13 (w:World)(os:OsState):SharedT:=⟨t13 w.params,1042,{},⟨[]⟩,{},1699,os⟩
noncomputable def hF (P:Params):Heap:=⟨⟨[yb0 P,yb1 P,o13 P,o843 P,yb4 P,yb5 P,yb6 P,yb7 P,yb8 P,yb9 P,yb10 P,o0,o844,o1,o2,o0,dz,o6,o0,o8,o9,o10,o12 P,o0,o17,o18 P,o0,o20,o21,o22,o0,dz,o24,o0,o26,o27,o28,o0,dz,o30,o0,o32,o33,o34,o35,o36 P,o37,o38,o39,o40,o41,o0,dz,o43,o0,o45,o46,o47,o48,o17,o50 P,o0,o52,o53,o54,o55,o0,dz,o57,o0,o59,o60,o61,o0,dz,o63,o0,o65,o66,o67,o68,o69 P,o70,o71,o72,o73,o74,o17,o76 P,o0,dz,o78,o79,o0,o81 P,o82,o83,o84,o0,o17,o89 P,o0,o91,o92,o93,o94,o0,dz,o96,o0,o98,o99,o100,o0,dz,o102,o0,o104,o105,o106,o107,o0,dz,o109,o0,o111,o112,o113,o0,dz,o115,o0,o117,o118,o119,o0,dz,o121,o0,o123,o124,o125,o0,dz,o127,o0,o129,o130,o131,o0,dz,o133,o0,o135,o136,o137,o0,dz,o139,o0,o141,o142,o143,o144,o0,dz,o146,o0,o148,o149,o150,o0,dz,o152,o0,o154,o155,o156,o0,dz,o158,o0,o160,o161,o162,o0,dz,o164,o0,o166,o167,o168,o0,dz,o170,o0,o172,o173,o174,o0,dz,o176,o0,o178,o179,o180,o0,dz,o182,o0,o184,o185,o186,o0,dz,o188,o0,o190,o191,o192,o193,o194 P,o195,o196,o197,o198,o199,o0,dz,o201,o0,o203,o204,o205,o0,dz,o207,o0,o209,o210,o211,o213 P,o214,o215,o216,o217,o218,o219,o220,o221,o222,o223,o224,o225,o226,o227,o228,o229,o230,o231,o232,o233,o234,o235,o236,o237,o238,o239,o240,o241,o242,o243,o244,o245,o246,o247,o248,o0,o17,o253 P,o0,o255,o256,o257,o0,dz,o259,o0,o261,o262,o263,o0,dz,o0,o0,o267,o268,o269,o270 P,o271,o272,o0,dz,o0,o0,o276,o277,o278,o279 P,o280,o272,o0,dz,o0,o0,o285,o286,o287,o288 P,o289,o272,o0,dz,o292,o293,o294,o295 P,o296,o272,o0,dz,o299,o0,o301,o302,o303,o304 P,o305,o272,o0,dz,o308,o0,o310,o311,o312,o313 P,o314,o272,o0,dz,o317,o0,o319,o320,o321,o0,dz,o323,o0,o325,o326,o327,o0,dz,o329,o0,o331,o332,o333,o0,dz,o335,o0,o337,o338,o339,o0,dz,o341,o0,o343,o344,o345,o0,dz,o347,o0,o349,o350,o351,o0,dz,o353,o0,o355,o356,o357,o0,dz,o359,o0,o361,o362,o363,o0,dz,o365,o0,o367,o368,o369,o0,dz,o371,o0,o373,o374,o375,o0,dz,o377,o0,o379,o380,o381,o0,dz,o383,o0,o385,o386,o387,o0,dz,o389,o0,o391,o392,o393,o394,o395 P,o396,o397,o398,o399,o400,o0,dz,o404,o0,o406,o407,o408,o0,dz,o410,o0,o412,o413,o414,o0,dz,o416,o0,o418,o419,o420,o0,o17,o423 P,o0,o425,o426,o427,o0,dz,o429,o0,o431,o432,o433,o0,dz,o435,o0,o437,o438,o439,o0,o441 P,o528,o443,o444,o445,o446,o447,o17,o449 P,o0,dz,o451,o452,o0,o454 P,o455,o456,o457,o447,o17,o463 P,o0,dz,o465,o466,o0,o468 P,o469,o470,o471,o447,o17,o474 P,o0,o476,o477,o478,o0,dz,o480,o0,o482,o483,o484,o0,dz,o486,o0,o488,o489,o490,o491,o492 P,o493,o494,o495,o447,o17,o498 P,o0,o500,o501,o502,o0,dz,o504,o0,o506,o507,o508,o0,dz,o510,o0,o512,o513,o514,o0,dz,o516,o0,o518,o519,o520,o521,o522 P,o529,o524,o525,o530,o17,o532 P,o0,dz,o534,o535,o0,o537 P,o538,o539,o540,o530,o17,o543 P,o0,dz,o545,o546,o0,o548 P,o549,o550,o551,o447,o17,o554 P,o0,o556,o557,o558,o0,dz,o560,o0,o562,o563,o564,o0,dz,o566,o0,o568,o569,o570,o0,dz,o572,o0,o574,o575,o576,o577,o578 P,o620,o580,o581,o585,o17,o587 P,o0,dz,o589,o590,o0,o592 P,o593,o594,o595,o585,o17,o598 P,o0,dz,o600,o601,o0,o603 P,o604,o605,o606,o585,o17,o609 P,o0,dz,o611,o612,o0,o614 P,o615,o616,o617,o585,o17,o623 P,o0,o625,o626,o627,o0,dz,o629,o0,o631,o632,o633,o0,dz,o635,o0,o637,o638,o639,o640,o641 P,o642,o643,o644,o0,dz,o646,o0,o648,o649,o650,o0,dz,o652,o0,o654,o655,o656,o0,dz,o658,o0,o660,o661,o662,o0,o17,o665 P,o0,o667,o668,o669,o0,dz,o671,o0,o673,o674,o675,o0,dz,o677,o0,o679,o680,o681,o0,dz,o683,o0,o685,o686,o687,o0,dz,o689,o0,o691,o692,o693,o694,o695 P,o696,o697,o698,o699,o700,o0,dz,o0,o0,o704,o705,o706,o0,dz,o708,o0,o710,o711,o712,o0,o17,o717 P,o0,o719,o720,o721,o0,dz,o723,o0,o725,o726,o727,o0,dz,o729,o0,o731,o732,o733,o0,dz,o735,o0,o737,o738,o739,o0,dz,o741,o0,o743,o744,o745,o0,dz,o747,o0,o749,o750,o751,o0,dz,o753,o0,o755,o756,o757,o0,dz,o759,o0,o761,o762,o763,o0,dz,o765,o0,o767,o768,o769,o0,dz,o771,o0,o773,o774,o775,o0,dz,o777,o0,o779,o780,o781,o0,dz,o783,o0,o785,o786,o787,o0,dz,o789,o790,o791,o0,dz,o793,o0,o795,o796,o797,o0,dz,o799,o0,o801,o802,o803,o0,dz,o805,o0,o807,o808,o809,o0,dz,o811,o0,o813,o814,o815,o0,dz,o817,o0,o819,o820,o821,o822,o823 P,o824,o825,o826,o827,o828,o55,o0,dz,o831,o0,o833,o834,o835,o55,o0,dz,o838,o0,o840,o841,o842,o0,dz,o846,o0,o848,o849,o850,o0,dz,o852,o0,o854,o855,o856,o0,dz,o858,o0,o860,o861,o862,o0,dz,o864,o865,o866,o0,dz,o868,o0,o870,o871,o872,o0,dz,o874,o0,o876,o877,o878,o0,dz,o880,o881,o882,o0,dz,o884,o0,o886,o887,o888,o0,dz,o890,o891,o892,o0,dz,o894,o0,o896,o897,o898,o0,dz,o900,o0,o902,o903,o904,o0,dz,o906,o0,o908,o909,o910,o0,dz,o912,o0,o914,o915,o916,o0,dz,o918,o0,o920,o921,o922,o0,dz,o924,o0,o926,o927,o928,o0,dz,o930,o0,o932,o933,o934,o0,dz,o936,o0,o938,o939,o940,o0,dz,o942,o0,o944,o945,o946]⟩,{}⟩
end Hd
end
section
open PySem PySem.W PyProof.Rows
namespace Hd
theorem k0 (w:World)(os:OsState):PySem.W.Fast.tw10110043849684766642 PySem.W.Fast.tw14364793385576792824 pw (w) 11 an 1 134 (s0 (w) os) (piecesOf (ct 0 9) en cE ⟨0,0,0,0⟩ [topFrame q_])=some (.next,s1 (w) os,cE,⟨11,0,11,12⟩):=by kernel_rfl
theorem k1f (w:World)(os:OsState):PySem.W.Fast.tw10110043849684766642 PySem.W.Fast.tw14364793385576792824 pw (w.withFollow "special-get-raises" false) 11 an 1 116 (s1 (w.withFollow "special-get-raises" false) os) (piecesOf (ct 9 1) en cE ⟨11,0,11,12⟩ [topFrame q_])=some (.next,s2 (w.withFollow "special-get-raises" false) os,cE,⟨12,0,12,13⟩):=by kernel_rfl
theorem k1t (w:World)(os:OsState):PySem.W.Fast.tw10110043849684766642 PySem.W.Fast.tw14364793385576792824 pw (w.withFollow "special-get-raises" true) 11 an 1 116 (s1 (w.withFollow "special-get-raises" true) os) (piecesOf (ct 9 1) en cE ⟨11,0,11,12⟩ [topFrame q_])=some (.next,s2 (w.withFollow "special-get-raises" true) os,cE,⟨12,0,12,13⟩):=by kernel_rfl
theorem k1 (w:World):∀ os:OsState,PySem.W.Fast.tw10110043849684766642 PySem.W.Fast.tw14364793385576792824 pw (w) 11 an 1 116 (s1 (w) os) (piecesOf (ct 9 1) en cE ⟨11,0,11,12⟩ [topFrame q_])=some (.next,s2 (w) os,cE,⟨12,0,12,13⟩):=@byRow2 "special-get-raises" (fun w=>∀ os:OsState,PySem.W.Fast.tw10110043849684766642 PySem.W.Fast.tw14364793385576792824 pw (w) 11 an 1 116 (s1 (w) os) (piecesOf (ct 9 1) en cE ⟨11,0,11,12⟩ [topFrame q_])=some (.next,s2 (w) os,cE,⟨12,0,12,13⟩)) k1f k1t w
theorem k2 (w:World)(os:OsState):PySem.W.Fast.tw10110043849684766642 PySem.W.Fast.tw14364793385576792824 pw (w) 11 an 1 767 (s2 (w) os) (piecesOf (ct 10 4) en cE ⟨12,0,12,13⟩ [topFrame q_])=some (.next,s3 (w) os,cE,⟨42,0,43,8⟩):=by kernel_rfl
theorem k3 (w:World)(os:OsState):PySem.W.Fast.tw10110043849684766642 PySem.W.Fast.tw14364793385576792824 pw (w) 11 an 1 814 (s3 (w) os) (piecesOf (ct 14 7) en cE ⟨42,0,43,8⟩ [topFrame q_])=some (.next,s4 (w) os,cE,⟨158,0,158,13⟩):=by kernel_rfl
theorem k4f (w:World)(os:OsState):PySem.W.Fast.tw10110043849684766642 PySem.W.Fast.tw14364793385576792824 pw (w.withFollow "special-get-raises" false) 11 an 1 295 (s4 (w.withFollow "special-get-raises" false) os) (piecesOf (ct 21 1) en cE ⟨158,0,158,13⟩ [topFrame q_])=some (.next,s5 (w.withFollow "special-get-raises" false) os,cE,⟨159,0,159,11⟩):=by kernel_rfl
theorem k4t (w:World)(os:OsState):PySem.W.Fast.tw10110043849684766642 PySem.W.Fast.tw14364793385576792824 pw (w.withFollow "special-get-raises" true) 11 an 1 295 (s4 (w.withFollow "special-get-raises" true) os) (piecesOf (ct 21 1) en cE ⟨158,0,158,13⟩ [topFrame q_])=some (.next,s5 (w.withFollow "special-get-raises" true) os,cE,⟨159,0,159,11⟩):=by kernel_rfl
theorem k4 (w:World):∀ os:OsState,PySem.W.Fast.tw10110043849684766642 PySem.W.Fast.tw14364793385576792824 pw (w) 11 an 1 295 (s4 (w) os) (piecesOf (ct 21 1) en cE ⟨158,0,158,13⟩ [topFrame q_])=some (.next,s5 (w) os,cE,⟨159,0,159,11⟩):=@byRow2 "special-get-raises" (fun w=>∀ os:OsState,PySem.W.Fast.tw10110043849684766642 PySem.W.Fast.tw14364793385576792824 pw (w) 11 an 1 295 (s4 (w) os) (piecesOf (ct 21 1) en cE ⟨158,0,158,13⟩ [topFrame q_])=some (.next,s5 (w) os,cE,⟨159,0,159,11⟩)) k4f k4t w
theorem k5 (w:World)(os:OsState):PySem.W.Fast.tw10110043849684766642 PySem.W.Fast.tw14364793385576792824 pw (w) 11 an 1 1626 (s5 (w) os) (piecesOf (ct 22 1) en cE ⟨159,0,159,11⟩ [topFrame q_])=some (.next,s6 (w) os,cE,⟨160,0,266,25⟩):=by kernel_rfl
theorem k6 (w:World)(os:OsState):PySem.W.Fast.tw10110043849684766642 PySem.W.Fast.tw14364793385576792824 pw (w) 11 an 1 630 (s6 (w) os) (piecesOf (ct 23 11) en cE ⟨160,0,266,25⟩ [topFrame q_])=some (.next,s7 (w) os,cE,⟨304,0,305,18⟩):=by kernel_rfl
theorem k7 (w:World)(os:OsState):PySem.W.Fast.tw10110043849684766642 PySem.W.Fast.tw14364793385576792824 pw (w) 11 an 1 821 (s7 (w) os) (piecesOf (ct 34 3) en cE ⟨304,0,305,18⟩ [topFrame q_])=some (.next,s8 (w) os,cE,⟨316,0,330,19⟩):=by kernel_rfl
theorem k8 (w:World)(os:OsState):PySem.W.Fast.tw10110043849684766642 PySem.W.Fast.tw14364793385576792824 pw (w) 11 an 1 780 (s8 (w) os) (piecesOf (ct 37 3) en cE ⟨316,0,330,19⟩ [topFrame q_])=some (.next,s9 (w) os,cE,⟨335,0,344,44⟩):=by kernel_rfl
theorem k9 (w:World)(os:OsState):PySem.W.Fast.tw10110043849684766642 PySem.W.Fast.tw14364793385576792824 pw (w) 11 an 1 709 (s9 (w) os) (piecesOf (ct 40 3) en cE ⟨335,0,344,44⟩ [topFrame q_])=some (.next,s10 (w) os,cE,⟨349,0,350,16⟩):=by kernel_rfl
theorem k10 (w:World)(os:OsState):PySem.W.Fast.tw10110043849684766642 PySem.W.Fast.tw14364793385576792824 pw (w) 11 an 1 772 (s10 (w) os) (piecesOf (ct 43 7) en cE ⟨349,0,350,16⟩ [topFrame q_])=some (.next,s11 (w) os,cE,⟨407,0,408,41⟩):=by kernel_rfl
theorem k11 (w:World)(os:OsState):PySem.W.Fast.tw10110043849684766642 PySem.W.Fast.tw14364793385576792824 pw (w) 11 an 1 844 (s11 (w) os) (piecesOf (ct 50 4) en cE ⟨407,0,408,41⟩ [topFrame q_])=some (.next,s12 (w) os,cE,⟨620,0,620,8⟩):=by kernel_rfl
theorem k12 (w:World)(os:OsState):PySem.W.Fast.tw10110043849684766642 PySem.W.Fast.tw14364793385576792824 pw (w) 11 an 1 607 (s12 (w) os) (piecesOf (ct 54 23) en cE ⟨620,0,620,8⟩ [topFrame q_])=some (.next,s13 (w) os,cE,⟨814,0,830,105⟩):=by kernel_rfl
end Hd
end
section
open PySem PySem.W PyProof.Rows
namespace Hd
noncomputable def fr (P:Params):Frag:=[(2,(o13 P)),(3,(o843 P)),(15,o0),(17,o6),(18,o0),(20,o9),(21,o10),(22,(o12 P)),(30,o0),(32,o24),(33,o0),(35,o27),(36,o28),(37,o0),(39,o30),(40,o0),(42,o33),(43,o34),(44,o35),(45,(o36 P)),(46,o37),(47,o38),(48,o39),(51,o0),(53,o43),(54,o0),(56,o46),(57,o47),(58,o48),(65,o55),(66,o0),(68,o57),(69,o0),(71,o60),(72,o61),(73,o0),(75,o63),(76,o0),(78,o66),(79,o67),(80,o68),(81,(o69 P)),(82,o70),(83,o71),(86,o74),(93,o0),(94,(o81 P)),(95,o82),(105,o94),(106,o0),(108,o96),(109,o0),(111,o99),(112,o100),(113,o0),(115,o102),(116,o0),(118,o105),(119,o106),(120,o107),(121,o0),(123,o109),(124,o0),(126,o112),(127,o113),(128,o0),(130,o115),(131,o0),(133,o118),(134,o119),(135,o0),(137,o121),(138,o0),(140,o124),(141,o125),(142,o0),(144,o127),(145,o0),(147,o130),(148,o131),(149,o0),(151,o133),(152,o0),(154,o136),(155,o137),(156,o0),(158,o139),(159,o0),(161,o142),(162,o143),(163,o144),(164,o0),(166,o146),(167,o0),(169,o149),(170,o150),(171,o0),(173,o152),(174,o0),(176,o155),(177,o156),(178,o0),(180,o158),(181,o0),(183,o161),(184,o162),(185,o0),(187,o164),(188,o0),(190,o167),(191,o168),(192,o0),(194,o170),(195,o0),(197,o173),(198,o174),(199,o0),(201,o176),(202,o0),(204,o179),(205,o180),(206,o0),(208,o182),(209,o0),(211,o185),(212,o186),(213,o0),(215,o188),(216,o0),(218,o191),(219,o192),(220,o193),(221,(o194 P)),(222,o195),(223,o196),(224,o197),(227,o0),(229,o201),(230,o0),(232,o204),(233,o205),(234,o0),(236,o207),(237,o0),(239,o210),(240,o211),(241,(o213 P)),(242,o214),(243,o215),(244,o216),(245,o217),(246,o218),(247,o219),(248,o220),(249,o221),(250,o222),(251,o223),(252,o224),(253,o225),(254,o226),(255,o227),(256,o228),(257,o229),(258,o230),(259,o231),(260,o232),(261,o233),(262,o234),(263,o235),(264,o236),(265,o237),(266,o238),(267,o239),(268,o240),(269,o241),(270,o242),(271,o243),(272,o244),(273,o245),(274,o246),(275,o247),(276,o248),(284,o0),(286,o259),(287,o0),(289,o262),(290,o263),(291,o0),(293,o0),(294,o0),(296,o268),(297,o269),(298,(o270 P)),(299,o271),(300,o272),(301,o0),(303,o0),(304,o0),(306,o277),(307,o278),(308,(o279 P)),(309,o280),(310,o272),(311,o0),(313,o0),(314,o0),(316,o286),(317,o287),(318,(o288 P)),(319,o289),(320,o272),(321,o0),(324,o293),(325,o294),(326,(o295 P)),(327,o296),(328,o272),(329,o0),(331,o299),(332,o0),(334,o302),(335,o303),(336,(o304 P)),(337,o305),(338,o272),(339,o0),(341,o308),(342,o0),(344,o311),(345,o312),(346,(o313 P)),(347,o314),(348,o272),(349,o0),(351,o317),(352,o0),(354,o320),(355,o321),(356,o0),(358,o323),(359,o0),(361,o326),(362,o327),(363,o0),(365,o329),(366,o0),(368,o332),(369,o333),(370,o0),(372,o335),(373,o0),(375,o338),(376,o339),(377,o0),(379,o341),(380,o0),(382,o344),(383,o345),(384,o0),(386,o347),(387,o0),(389,o350),(390,o351),(391,o0),(393,o353),(394,o0),(396,o356),(397,o357),(398,o0),(400,o359),(401,o0),(403,o362),(404,o363),(405,o0),(407,o365),(408,o0),(410,o368),(411,o369),(412,o0),(414,o371),(415,o0),(417,o374),(418,o375),(419,o0),(421,o377),(422,o0),(424,o380),(425,o381),(426,o0),(428,o383),(429,o0),(431,o386),(432,o387),(433,o0),(435,o389),(436,o0),(438,o392),(439,o393),(440,o394),(441,(o395 P)),(442,o396),(443,o397),(444,o398),(447,o0),(449,o404),(450,o0),(452,o407),(453,o408),(454,o0),(456,o410),(457,o0),(459,o413),(460,o414),(461,o0),(463,o416),(464,o0),(466,o419),(467,o420),(475,o0),(477,o429),(478,o0),(480,o432),(481,o433),(482,o0),(484,o435),(485,o0),(487,o438),(488,o439),(489,o0),(490,(o441 P)),(491,o528),(492,o443),(493,o444),(496,o447),(503,o0),(504,(o454 P)),(505,o455),(508,o447),(515,o0),(516,(o468 P)),(517,o469),(520,o447),(527,o0),(529,o480),(530,o0),(532,o483),(533,o484),(534,o0),(536,o486),(537,o0),(539,o489),(540,o490),(541,o491),(542,(o492 P)),(543,o493),(546,o447),(553,o0),(555,o504),(556,o0),(558,o507),(559,o508),(560,o0),(562,o510),(563,o0),(565,o513),(566,o514),(567,o0),(569,o516),(570,o0),(572,o519),(573,o520),(574,o521),(575,(o522 P)),(576,o529),(579,o530),(586,o0),(587,(o537 P)),(588,o538),(591,o530),(598,o0),(599,(o548 P)),(600,o549),(603,o447),(610,o0),(612,o560),(613,o0),(615,o563),(616,o564),(617,o0),(619,o566),(620,o0),(622,o569),(623,o570),(624,o0),(626,o572),(627,o0),(629,o575),(630,o576),(631,o577),(632,(o578 P)),(633,o620),(636,o585),(643,o0),(644,(o592 P)),(645,o593),(648,o585),(655,o0),(656,(o603 P)),(657,o604),(660,o585),(667,o0),(668,(o614 P)),(669,o615),(672,o585),(679,o0),(681,o629),(682,o0),(684,o632),(685,o633),(686,o0),(688,o635),(689,o0),(691,o638),(692,o639),(693,o640),(694,(o641 P)),(695,o642),(698,o0),(700,o646),(701,o0),(703,o649),(704,o650),(705,o0),(707,o652),(708,o0),(710,o655),(711,o656),(712,o0),(714,o658),(715,o0),(717,o661),(718,o662),(726,o0),(728,o671),(729,o0),(731,o674),(732,o675),(733,o0),(735,o677),(736,o0),(738,o680),(739,o681),(740,o0),(742,o683),(743,o0),(745,o686),(746,o687),(747,o0),(749,o689),(750,o0),(752,o692),(753,o693),(754,o694),(755,(o695 P)),(756,o696),(757,o697),(758,o698),(761,o0),(763,o0),(764,o0),(766,o705),(767,o706),(768,o0),(770,o708),(771,o0),(773,o711),(774,o712),(782,o0),(784,o723),(785,o0),(787,o726),(788,o727),(789,o0),(791,o729),(792,o0),(794,o732),(795,o733),(796,o0),(798,o735),(799,o0),(801,o738),(802,o739),(803,o0),(805,o741),(806,o0),(808,o744),(809,o745),(810,o0),(812,o747),(813,o0),(815,o750),(816,o751),(817,o0),(819,o753),(820,o0),(822,o756),(823,o757),(824,o0),(826,o759),(827,o0),(829,o762),(830,o763),(831,o0),(833,o765),(834,o0),(836,o768),(837,o769),(838,o0),(840,o771),(841,o0),(843,o774),(844,o775),(845,o0),(847,o777),(848,o0),(850,o780),(851,o781),(852,o0),(854,o783),(855,o0),(857,o786),(858,o787),(859,o0),(862,o790),(863,o791),(864,o0),(866,o793),(867,o0),(869,o796),(870,o797),(871,o0),(873,o799),(874,o0),(876,o802),(877,o803),(878,o0),(880,o805),(881,o0),(883,o808),(884,o809),(885,o0),(887,o811),(888,o0),(890,o814),(891,o815),(892,o0),(894,o817),(895,o0),(897,o820),(898,o821),(899,o822),(900,(o823 P)),(901,o824),(902,o825),(903,o826),(906,o55),(907,o0),(909,o831),(910,o0),(912,o834),(913,o835),(914,o55),(915,o0),(917,o838),(918,o0),(920,o841),(921,o842),(922,o0),(924,o846),(925,o0),(927,o849),(928,o850),(929,o0),(931,o852),(932,o0),(934,o855),(935,o856),(936,o0),(938,o858),(939,o0),(941,o861),(942,o862),(943,o0),(946,o865),(947,o866),(948,o0),(950,o868),(951,o0),(953,o871),(954,o872),(955,o0),(957,o874),(958,o0),(960,o877),(961,o878),(962,o0),(965,o881),(966,o882),(967,o0),(969,o884),(970,o0),(972,o887),(973,o888),(974,o0),(977,o891),(978,o892),(979,o0),(981,o894),(982,o0),(984,o897),(985,o898),(986,o0),(988,o900),(989,o0),(991,o903),(992,o904),(993,o0),(995,o906),(996,o0),(998,o909),(999,o910),(1000,o0),(1002,o912),(1003,o0),(1005,o915),(1006,o916),(1007,o0),(1009,o918),(1010,o0),(1012,o921),(1013,o922),(1014,o0),(1016,o924),(1017,o0),(1019,o927),(1020,o928),(1021,o0),(1023,o930),(1024,o0),(1026,o933),(1027,o934),(1028,o0),(1030,o936),(1031,o0),(1033,o939),(1034,o940),(1035,o0),(1037,o942),(1038,o0),(1040,o945),(1041,o946)]
noncomputable def as_:List Addr:=[2,3,15,17,18,20,21,22,30,32,33,35,36,37,39,40,42,43,44,45,46,47,48,51,53,54,56,57,58,65,66,68,69,71,72,73,75,76,78,79,80,81,82,83,86,93,94,95,105,106,108,109,111,112,113,115,116,118,119,120,121,123,124,126,127,128,130,131,133,134,135,137,138,140,141,142,144,145,147,148,149,151,152,154,155,156,158,159,161,162,163,164,166,167,169,170,171,173,174,176,177,178,180,181,183,184,185,187,188,190,191,192,194,195,197,198,199,201,202,204,205,206,208,209,211,212,213,215,216,218,219,220,221,222,223,224,227,229,230,232,233,234,236,237,239,240,241,242,243,244,245,246,247,248,249,250,251,252,253,254,255,256,257,258,259,260,261,262,263,264,265,266,267,268,269,270,271,272,273,274,275,276,284,286,287,289,290,291,293,294,296,297,298,299,300,301,303,304,306,307,308,309,310,311,313,314,316,317,318,319,320,321,324,325,326,327,328,329,331,332,334,335,336,337,338,339,341,342,344,345,346,347,348,349,351,352,354,355,356,358,359,361,362,363,365,366,368,369,370,372,373,375,376,377,379,380,382,383,384,386,387,389,390,391,393,394,396,397,398,400,401,403,404,405,407,408,410,411,412,414,415,417,418,419,421,422,424,425,426,428,429,431,432,433,435,436,438,439,440,441,442,443,444,447,449,450,452,453,454,456,457,459,460,461,463,464,466,467,475,477,478,480,481,482,484,485,487,488,489,490,491,492,493,496,503,504,505,508,515,516,517,520,527,529,530,532,533,534,536,537,539,540,541,542,543,546,553,555,556,558,559,560,562,563,565,566,567,569,570,572,573,574,575,576,579,586,587,588,591,598,599,600,603,610,612,613,615,616,617,619,620,622,623,624,626,627,629,630,631,632,633,636,643,644,645,648,655,656,657,660,667,668,669,672,679,681,682,684,685,686,688,689,691,692,693,694,695,698,700,701,703,704,705,707,708,710,711,712,714,715,717,718,726,728,729,731,732,733,735,736,738,739,740,742,743,745,746,747,749,750,752,753,754,755,756,757,758,761,763,764,766,767,768,770,771,773,774,782,784,785,787,788,789,791,792,794,795,796,798,799,801,802,803,805,806,808,809,810,812,813,815,816,817,819,820,822,823,824,826,827,829,830,831,833,834,836,837,838,840,841,843,844,845,847,848,850,851,852,854,855,857,858,859,862,863,864,866,867,869,870,871,873,874,876,877,878,880,881,883,884,885,887,888,890,891,892,894,895,897,898,899,900,901,902,903,906,907,909,910,912,913,914,915,917,918,920,921,922,924,925,927,928,929,931,932,934,935,936,938,939,941,942,943,946,947,948,950,951,953,954,955,957,958,960,961,962,965,966,967,969,970,972,973,974,977,978,979,981,982,984,985,986,988,989,991,992,993,995,996,998,999,1000,1002,1003,1005,1006,1007,1009,1010,1012,1013,1014,1016,1017,1019,1020,1021,1023,1024,1026,1027,1028,1030,1031,1033,1034,1035,1037,1038,1040,1041]
noncomputable def lo:List PySem.Str:=[S "_wall",S "SMALL",S "LETTERS",S "FIGURES",S "NAME_SIGNS",S "HEX_SIGNS",S "OCTAL_SIGNS",S "MOST_FIGURES",S "PLAIN_ESCAPES",S "Position",S "position_of",S "ToolError",S "RegexError",S "Cursor",S "hex_escape",S "escaped_sign",S "TOP",S "HEX",S "BRACKET_SIGNS",S "CLASS_SPANS",S "CharSet",S "show_code",S "told",S "named_class",S "MOST_REPEAT",S "MOST_NESTED",S "BLANKS",S "STRAY_SIGNS",S "NEWLINE",S "Node",S "Empty",S "Never",S "Chars",S "Pair",S "Cat",S "Alt",S "Loop",S "Star",S "Plus",S "Opt",S "Repeat",S "spine",S "cat_all",S "chars_node",S "Pattern",S "line_end",S "is_figure",S "RegexReader",S "read_regex",S "read_pattern",S "MARKS",S "LOOSE",S "ROW",S "TIGHT",S "show_sign",S "show_chars",S "show_count",S "show_at",S "show_regex",S "show_pattern",S "_law_pen",S "_law_draw",S "_law_leaf",S "_law_loop",S "_law_tree",S "_law_node",S "_law_pairs",S "_law_heard",S "_law_sign",S "_law_few_told",S "_law_pattern_told"]
theorem tw_ {n:Nat}{s:SharedT}{t:Thread}{w:World}{r:Option (Flow×SharedT×Code×Pos)}
  (h:PySem.W.Fast.tw10110043849684766642 PySem.W.Fast.tw14364793385576792824 pw w 11 an 1 n s t=r):segRunT treeTable pw w 11 an 1 n s t=r:=by
 rewrite [PySem.W.Fast.te10110043849684766642,PySem.W.Fast.te14364793385576792824]
 exact h
theorem rest_ {tb p w n a N s env c pos B r}{l l':List PySem.Stmt}(e:l=l')(h:topRun tb p w n a N s (restOf l' env c pos B)=r):topRun tb p w n a N s (restOf l env c pos B)=r:=e▸h
noncomputable abbrev th:Thread:=⟨denote treeTable cE,cE,q_,[topFrame q_]⟩
theorem pre0 (w:World)(os:OsState):PySem.W.Fast.tw15667345088766844465 PySem.W.Fast.tw14364793385576792824 pw w 11 an 12 ⟨boot_heap w.params,⟨[]⟩,boot_drawn,boot_toks,os⟩ (topStub pw)=some ((s0 w os).abs,⟨PySem.W.Fast.tw11892475500146522536 PySem.W.Fast.tw14364793385576792824 cE,cE,q_,[topFrame q_]⟩):=by kernel_rfl
theorem pre (w:World)(os:OsState):topGo treeTable pw w 11 an 12 ⟨boot_heap w.params,⟨[]⟩,boot_drawn,boot_toks,os⟩ (topStub pw)=some ((s0 w os).abs,th):=by
 unfold th
 rewrite [PySem.W.Fast.te15667345088766844465,PySem.W.Fast.te14364793385576792824,PySem.W.Fast.te11892475500146522536]
 exact pre0 w os
theorem blk (w:World)(os:OsState):PySem.W.Fast.tw10110043849684766642 PySem.W.Fast.tw14364793385576792824 pw w 11 an 1 1 (s0 w os) (blockOf bd en cE q_ [topFrame q_])=some (.next,s0 w os,cE,q_):=by kernel_rfl
noncomputable abbrev fs (w:World)(os:OsState):Shared:=⟨hF w.params,⟨[]⟩,{},1699,os⟩
theorem fin0 (w:World)(os:OsState):PySem.W.Fast.tw14082659384304107361 PySem.W.Fast.tw14364793385576792824 pw w 11 an 2 (s13 w os).abs ⟨doneF .next,cE,⟨814,0,830,105⟩,[topFrame q_]⟩=some (fs w os):=by kernel_rfl
theorem fin (w:World)(os:OsState):topRun treeTable pw w 11 an 2 (s13 w os).abs ⟨doneF .next,cE,⟨814,0,830,105⟩,[topFrame q_]⟩=some (fs w os):=by
 rewrite [PySem.W.Fast.te14082659384304107361,PySem.W.Fast.te14364793385576792824]
 exact fin0 w os
theorem bd_eq:bd=(ct 0 9++(ct 9 1++(ct 10 4++(ct 14 7++(ct 21 1++(ct 22 1++(ct 23 11++(ct 34 3++(ct 37 3++(ct 40 3++(ct 43 7++(ct 50 4++(ct 54 23++[]))))))))))))):=by kernel_rfl
theorem c13 (w:World)(os:OsState):topRun treeTable pw w 11 an 2 (s13 w os).abs (restOf [] en cE ⟨814,0,830,105⟩ [topFrame q_])=some (fs w os):=piece_nil (fin w os)
theorem c12 (w:World)(os:OsState):topRun treeTable pw w 11 an (607+2) (s12 w os).abs (restOf (ct 54 23++[]) en cE ⟨620,0,620,8⟩ [topFrame q_])=some (fs w os):=piece_app (segRun_of (tw_ (k12 w os))) (c13 w os)
theorem c11 (w:World)(os:OsState):topRun treeTable pw w 11 an (844+(607+2)) (s11 w os).abs (restOf (ct 50 4++(ct 54 23++[])) en cE ⟨407,0,408,41⟩ [topFrame q_])=some (fs w os):=piece_app (segRun_of (tw_ (k11 w os))) (c12 w os)
theorem c10 (w:World)(os:OsState):topRun treeTable pw w 11 an (772+(844+(607+2))) (s10 w os).abs (restOf (ct 43 7++(ct 50 4++(ct 54 23++[]))) en cE ⟨349,0,350,16⟩ [topFrame q_])=some (fs w os):=piece_app (segRun_of (tw_ (k10 w os))) (c11 w os)
theorem c9 (w:World)(os:OsState):topRun treeTable pw w 11 an (709+(772+(844+(607+2)))) (s9 w os).abs (restOf (ct 40 3++(ct 43 7++(ct 50 4++(ct 54 23++[])))) en cE ⟨335,0,344,44⟩ [topFrame q_])=some (fs w os):=piece_app (segRun_of (tw_ (k9 w os))) (c10 w os)
theorem c8 (w:World)(os:OsState):topRun treeTable pw w 11 an (780+(709+(772+(844+(607+2))))) (s8 w os).abs (restOf (ct 37 3++(ct 40 3++(ct 43 7++(ct 50 4++(ct 54 23++[]))))) en cE ⟨316,0,330,19⟩ [topFrame q_])=some (fs w os):=piece_app (segRun_of (tw_ (k8 w os))) (c9 w os)
theorem c7 (w:World)(os:OsState):topRun treeTable pw w 11 an (821+(780+(709+(772+(844+(607+2)))))) (s7 w os).abs (restOf (ct 34 3++(ct 37 3++(ct 40 3++(ct 43 7++(ct 50 4++(ct 54 23++[])))))) en cE ⟨304,0,305,18⟩ [topFrame q_])=some (fs w os):=piece_app (segRun_of (tw_ (k7 w os))) (c8 w os)
theorem c6 (w:World)(os:OsState):topRun treeTable pw w 11 an (630+(821+(780+(709+(772+(844+(607+2))))))) (s6 w os).abs (restOf (ct 23 11++(ct 34 3++(ct 37 3++(ct 40 3++(ct 43 7++(ct 50 4++(ct 54 23++[]))))))) en cE ⟨160,0,266,25⟩ [topFrame q_])=some (fs w os):=piece_app (segRun_of (tw_ (k6 w os))) (c7 w os)
theorem c5 (w:World)(os:OsState):topRun treeTable pw w 11 an (1626+(630+(821+(780+(709+(772+(844+(607+2)))))))) (s5 w os).abs (restOf (ct 22 1++(ct 23 11++(ct 34 3++(ct 37 3++(ct 40 3++(ct 43 7++(ct 50 4++(ct 54 23++[])))))))) en cE ⟨159,0,159,11⟩ [topFrame q_])=some (fs w os):=piece_app (segRun_of (tw_ (k5 w os))) (c6 w os)
theorem c4 (w:World)(os:OsState):topRun treeTable pw w 11 an (295+(1626+(630+(821+(780+(709+(772+(844+(607+2))))))))) (s4 w os).abs (restOf (ct 21 1++(ct 22 1++(ct 23 11++(ct 34 3++(ct 37 3++(ct 40 3++(ct 43 7++(ct 50 4++(ct 54 23++[]))))))))) en cE ⟨158,0,158,13⟩ [topFrame q_])=some (fs w os):=piece_app (segRun_of (tw_ (k4 w os))) (c5 w os)
theorem c3 (w:World)(os:OsState):topRun treeTable pw w 11 an (814+(295+(1626+(630+(821+(780+(709+(772+(844+(607+2)))))))))) (s3 w os).abs (restOf (ct 14 7++(ct 21 1++(ct 22 1++(ct 23 11++(ct 34 3++(ct 37 3++(ct 40 3++(ct 43 7++(ct 50 4++(ct 54 23++[])))))))))) en cE ⟨42,0,43,8⟩ [topFrame q_])=some (fs w os):=piece_app (segRun_of (tw_ (k3 w os))) (c4 w os)
theorem c2 (w:World)(os:OsState):topRun treeTable pw w 11 an (767+(814+(295+(1626+(630+(821+(780+(709+(772+(844+(607+2))))))))))) (s2 w os).abs (restOf (ct 10 4++(ct 14 7++(ct 21 1++(ct 22 1++(ct 23 11++(ct 34 3++(ct 37 3++(ct 40 3++(ct 43 7++(ct 50 4++(ct 54 23++[]))))))))))) en cE ⟨12,0,12,13⟩ [topFrame q_])=some (fs w os):=piece_app (segRun_of (tw_ (k2 w os))) (c3 w os)
theorem c1 (w:World)(os:OsState):topRun treeTable pw w 11 an (116+(767+(814+(295+(1626+(630+(821+(780+(709+(772+(844+(607+2)))))))))))) (s1 w os).abs (restOf (ct 9 1++(ct 10 4++(ct 14 7++(ct 21 1++(ct 22 1++(ct 23 11++(ct 34 3++(ct 37 3++(ct 40 3++(ct 43 7++(ct 50 4++(ct 54 23++[])))))))))))) en cE ⟨11,0,11,12⟩ [topFrame q_])=some (fs w os):=piece_app (segRun_of (tw_ (k1 w os))) (c2 w os)
theorem c0 (w:World)(os:OsState):topRun treeTable pw w 11 an (134+(116+(767+(814+(295+(1626+(630+(821+(780+(709+(772+(844+(607+2))))))))))))) (s0 w os).abs (restOf (ct 0 9++(ct 9 1++(ct 10 4++(ct 14 7++(ct 21 1++(ct 22 1++(ct 23 11++(ct 34 3++(ct 37 3++(ct 40 3++(ct 43 7++(ct 50 4++(ct 54 23++[]))))))))))))) en cE ⟨0,0,0,0⟩ [topFrame q_])=some (fs w os):=piece_app (segRun_of (tw_ (k0 w os))) (c1 w os)
theorem run (w:World)(os:OsState):topRun treeTable pw w 11 an (12+(1+(134+(116+(767+(814+(295+(1626+(630+(821+(780+(709+(772+(844+(607+2))))))))))))))) ⟨boot_heap w.params,⟨[]⟩,boot_drawn,boot_toks,os⟩ (topStub pw)=some (fs w os) :=
 go_top (pre w os) (piece_block (segRun_of (tw_ (blk w os))) (rest_ bd_eq (c0 w os)))
theorem open0:opening pw=plainProg pw.main.scope.names:=by kernel_rfl
theorem open1 (s:Shared):fenceModules? pw s=some s:=by kernel_rfl
theorem size (w:World):((boot_heap w.params).isNs mainGlobals && (⟨[]⟩:Array GenState).size == 0,(boot_heap w.params).objs.size,(boot_heap w.params).nsMap mainGlobals "__annotations__")=(true,11,an):=by kernel_rfl
end Hd
end
section
open PySem PySem.W PyProof.Rows
namespace Hd
abbrev rw_:OpenLaw:=PySem.Challenge.rw_nn0413_01
noncomputable def vw:Program:={pw with main:={pw.main with body:=[st 76]}}
theorem as_eq (P:Params):as_=(fr P).map (·.1):=by kernel_rfl
noncomputable abbrev Xt (s:Shared):Bool:=xlAt vw [] s && recOk (RowW.records (OpenRow.toRowW rw_.row)) s
theorem look1a (w:World):staticsOk (importedModules pw.main.body) (boot_heap w.params) (hF w.params)=true:=by kernel_rfl
theorem look1b (w:World):namesBound pw (hF w.params)=true:=by kernel_rfl
theorem look1c (w:World)(os:OsState):gensDone (fs w os)=true:=by kernel_rfl
theorem look1d (w:World):laidKept (boot_heap w.params) (hF w.params)=true:=by kernel_rfl
noncomputable def liv:Option Obj→Option Obj
 |some ⟨_,_,.freed,_⟩=>none
 |o=>o
noncomputable def pk:List Obj→Nat→List Addr→List (Option Obj)
 |_,_,[]=>[]
 |l,b,a::r=>liv (l.drop (a - b)).head?::pk (l.drop (a - b)) a r
noncomputable def asc:Nat→List Addr→Bool
 |_,[]=>true
 |b,a::r=>Nat.ble b a && asc a r
theorem get_liv (h:Heap)(a:Addr):h.get? a=liv h.objs.toList[a]?:=by
 unfold Heap.get? liv
 rw [Array.getElem?_toList]
 rfl
theorem pk_ok (l:List Obj):∀ (as:List Addr) (b:Nat),asc b as=true→pk (l.drop b) b as=as.map fun a=>liv l[a]?
 |[],_,_=>rfl
 |a::r,b,h=>by
  have h:=Bool.and_eq_true_iff.mp h
  have hb:=Nat.le_of_ble_eq_true h.1
  show liv ((l.drop b).drop (a - b)).head?::pk ((l.drop b).drop (a - b)) a r=_
  rw [List.drop_drop,Nat.add_sub_cancel' hb,pk_ok l r a h.2,List.head?_drop]
  rfl
theorem pk_get (h:Heap)(as:List Addr)(ha:asc 0 as=true):as.map h.get?=pk h.objs.toList 0 as :=
 (List.map_congr_left fun a _=>get_liv h a).trans (pk_ok h.objs.toList as 0 ha).symm
theorem look3 (w:World):as_.map (hF w.params).get?=(fr w.params).map fun p=>some p.2:=(pk_get _ _ (by kernel_rfl)).trans (by kernel_rfl)
end Hd
end
section
open PySem PySem.W PyProof.Rows
namespace Hd
theorem look2q (w:World)(os:OsState):PySem.W.Fast.tw4187177175401517315 vw lo (importedModules pw.main.body) Xt true (fs w os)=openGood vw lo:=by kernel_rfl
end Hd
end
section
open PySem PySem.W PyProof.Rows
namespace Hd
noncomputable abbrev H:Hook:=kHook fr as_ as_eq
theorem looks (w:World):(fun os=>((staticsOk (importedModules pw.main.body) (boot_heap w.params) (hF w.params) && namesBound pw (hF w.params) && gensDone ⟨hF w.params,⟨[]⟩,{},1699,os⟩ && laidKept (boot_heap w.params) (hF w.params)),
    openSeen vw lo (importedModules pw.main.body) Xt true ⟨hF w.params,⟨[]⟩,{},1699,os⟩,H.obs ⟨hF w.params,⟨[]⟩,{},1699,os⟩))=fun _=>(true,openGood vw lo,H.val w):=by
 funext os
 refine looks_pair ?_ (looks_pair ?_ (look3 w))
 ·rw [look1a,look1b,look1d]
  exact congrArg (fun b=>true && true && b && true) (look1c w os)
 ·rewrite [PySem.W.Fast.te4187177175401517315]
  exact look2q w os
theorem leN:Nat.ble (12+(1+(134+(116+(767+(814+(295+(1626+(630+(821+(780+(709+(772+(844+(607+2))))))))))))))) 17930=true:=by kernel_rfl
theorem left:LeftO pw vw lo Xt H.obs H.val 17930 :=
 LeftO.of_pieces (boot_open open0 rfl open1) size run leN looks
set_option maxHeartbeats 100000000 in
theorem said:PySem.W.Fast.tw9446332074065402090 rw_=true:=by
 delta PySem.W.Fast.tw9446332074065402090
 with_reducible repeat' refine look_both ?_ ?_
 delta PySem.W.Fast.tw17960256430627541270
 with_reducible repeat' refine look_both ?_ ?_
 delta PySem.W.Fast.tw2436336058641802641
 with_reducible repeat' refine look_both ?_ ?_
 delta PySem.W.Fast.tw12908688711261696721
 with_reducible repeat' refine look_both ?_ ?_
 all_goals as_aux_lemma=>kernel_rfl
end Hd
end
section
open PySem PySem.W PyProof.Rows
namespace Hd
theorem said':rw_.wellSaid=true:=by
 rewrite [PySem.W.Fast.te9446332074065402090]
 exact said
noncomputable def sP:PySem.Stmt→Pos
 |.FunctionDef _ _ _ _ _ _ _ _ _ p=>p
 |_=>⟨0,0,0,0⟩
noncomputable def lawD:DefRec:={name:=S "law",params:=sA (st 76),body:=sub (st 76),scope:=sS (st 76),pos:=sP (st 76)}
theorem okG:(chainsOk vw && opensWell rw_.row.prog && (frees (OpenRow.toRowW rw_.row) && rw_.row.within.isEmpty))=true:=by kernel_rfl
theorem d1:defOf vw rw_.row.name=some (lawD,[]):=by kernel_rfl
theorem d2:rw_.row.prog.theDef rw_.row.name=some (lawD.params,lawD.body,lawD.scope):=by kernel_rfl
theorem d3:kwWritten? lawD.params.kwonlyargs lawD.params.kw_defaults=some []:=by kernel_rfl
theorem tame:rw_.row.prog.tablesWhole=true:=by kernel_rfl
end Hd
end
section
open PySem PySem.W PyProof.Rows
namespace Hd
theorem head (hc:WalkO vw lo (XL vw []) H.says (OpenRow.toRowW rw_.row) lawD [] fun f vs=>PySem.call f vs):rw_.Holds :=
 holds_law said' fun said=>by
  refine holds_open (r:=rw_.row) (q:=vw) (loose:=lo) (Xt:=Xt) (XP:=XL vw []) (Yf:=H.obs) (Ya:=H.val) (YP:=H.says) (N:=17930) left (Hook.of H) (Hook.keeps H) (fun s e=>xl_of s (Bool.and_eq_true_iff.mp e).1) XL.keeps d1 d2 d3 (fun s e=>recFacts_of (Bool.and_eq_true_iff.mp e).2) (by rfl) said okG ⟨rfl,rfl,rfl,rfl,rfl,tame⟩ ?hw hc
  case hw=>w_witness2
end Hd
end
section
namespace NN
theorem fo {P:Prop}(h:∀ G:Prop,(P→G)→G):P:=h P id
theorem xEo {α1:Sort _}{p1:α1→Prop}{G:Prop}(h:∃ a1,p1 a1)(k:∀ a1:α1,(p1 a1)→G):G:=by obtain ⟨a1,h1⟩:=h;exact k a1 h1
theorem xAoo {p1:Prop}{p2:Prop}{G:Prop}(h:(p1)∧(p2))(k:(p1)→(p2)→G):G:=by obtain ⟨h1,h2⟩:=h;exact k h1 h2
theorem xEEo {α1:Sort _}{α2:Sort _}{p1:α1→α2→Prop}{G:Prop}(h:∃ a1,∃ a2,p1 a1 a2)(k:∀ a1:α1,∀ a2:α2,(p1 a1 a2)→G):G:=by obtain ⟨a1,⟨a2,h1⟩⟩:=h;exact k a1 a2 h1
theorem xEAoo {α1:Sort _}{p1:α1→Prop}{p2:α1→Prop}{G:Prop}(h:∃ a1,(p1 a1)∧(p2 a1))(k:∀ a1:α1,(p1 a1)→(p2 a1)→G):G:=by obtain ⟨a1,⟨h1,h2⟩⟩:=h;exact k a1 h1 h2
theorem xEEEo {α1:Sort _}{α2:Sort _}{α3:Sort _}{p1:α1→α2→α3→Prop}{G:Prop}(h:∃ a1,∃ a2,∃ a3,p1 a1 a2 a3)(k:∀ a1:α1,∀ a2:α2,∀ a3:α3,(p1 a1 a2 a3)→G):G:=by obtain ⟨a1,⟨a2,⟨a3,h1⟩⟩⟩:=h;exact k a1 a2 a3 h1
theorem xAAooo {p1:Prop}{p2:Prop}{p3:Prop}{G:Prop}(h:((p1)∧(p2))∧(p3))(k:(p1)→(p2)→(p3)→G):G:=by obtain ⟨⟨h1,h2⟩,h3⟩:=h;exact k h1 h2 h3
theorem xAoAoo {p1:Prop}{p2:Prop}{p3:Prop}{G:Prop}(h:(p1)∧((p2)∧(p3)))(k:(p1)→(p2)→(p3)→G):G:=by obtain ⟨h1,⟨h2,h3⟩⟩:=h;exact k h1 h2 h3
theorem xEEAoo {α1:Sort _}{α2:Sort _}{p1:α1→α2→Prop}{p2:α1→α2→Prop}{G:Prop}(h:∃ a1,∃ a2,(p1 a1 a2)∧(p2 a1 a2))(k:∀ a1:α1,∀ a2:α2,(p1 a1 a2)→(p2 a1 a2)→G):G:=by obtain ⟨a1,⟨a2,⟨h1,h2⟩⟩⟩:=h;exact k a1 a2 h1 h2
theorem xAoEAoo {p1:Prop}{α1:Sort _}{p2:α1→Prop}{p3:α1→Prop}{G:Prop}(h:(p1)∧(∃ a1,(p2 a1)∧(p3 a1)))(k:(p1)→∀ a1:α1,(p2 a1)→(p3 a1)→G):G:=by obtain ⟨h1,⟨a1,⟨h2,h3⟩⟩⟩:=h;exact k h1 a1 h2 h3
theorem xEAoAoo {α1:Sort _}{p1:α1→Prop}{p2:α1→Prop}{p3:α1→Prop}{G:Prop}(h:∃ a1,(p1 a1)∧((p2 a1)∧(p3 a1)))(k:∀ a1:α1,(p1 a1)→(p2 a1)→(p3 a1)→G):G:=by obtain ⟨a1,⟨h1,⟨h2,h3⟩⟩⟩:=h;exact k a1 h1 h2 h3
theorem xEEEAoo {α1:Sort _}{α2:Sort _}{α3:Sort _}{p1:α1→α2→α3→Prop}{p2:α1→α2→α3→Prop}{G:Prop}(h:∃ a1,∃ a2,∃ a3,(p1 a1 a2 a3)∧(p2 a1 a2 a3))(k:∀ a1:α1,∀ a2:α2,∀ a3:α3,(p1 a1 a2 a3)→(p2 a1 a2 a3)→G):G:=by obtain ⟨a1,⟨a2,⟨a3,⟨h1,h2⟩⟩⟩⟩:=h;exact k a1 a2 a3 h1 h2
theorem xAAoAooo {p1:Prop}{p2:Prop}{p3:Prop}{p4:Prop}{G:Prop}(h:((p1)∧((p2)∧(p3)))∧(p4))(k:(p1)→(p2)→(p3)→(p4)→G):G:=by obtain ⟨⟨h1,⟨h2,h3⟩⟩,h4⟩:=h;exact k h1 h2 h3 h4
theorem xAAooAoo {p1:Prop}{p2:Prop}{p3:Prop}{p4:Prop}{G:Prop}(h:((p1)∧(p2))∧((p3)∧(p4)))(k:(p1)→(p2)→(p3)→(p4)→G):G:=by obtain ⟨⟨h1,h2⟩,⟨h3,h4⟩⟩:=h;exact k h1 h2 h3 h4
theorem xAEEAooo {α1:Sort _}{α2:Sort _}{p1:α1→α2→Prop}{p2:α1→α2→Prop}{p3:Prop}{G:Prop}(h:(∃ a1,∃ a2,(p1 a1 a2)∧(p2 a1 a2))∧(p3))(k:∀ a1:α1,∀ a2:α2,(p1 a1 a2)→(p2 a1 a2)→(p3)→G):G:=by obtain ⟨⟨a1,⟨a2,⟨h1,h2⟩⟩⟩,h3⟩:=h;exact k a1 a2 h1 h2 h3
theorem xAoAoAoo {p1:Prop}{p2:Prop}{p3:Prop}{p4:Prop}{G:Prop}(h:(p1)∧((p2)∧((p3)∧(p4))))(k:(p1)→(p2)→(p3)→(p4)→G):G:=by obtain ⟨h1,⟨h2,⟨h3,h4⟩⟩⟩:=h;exact k h1 h2 h3 h4
theorem xAoEEAoo {p1:Prop}{α1:Sort _}{α2:Sort _}{p2:α1→α2→Prop}{p3:α1→α2→Prop}{G:Prop}(h:(p1)∧(∃ a1,∃ a2,(p2 a1 a2)∧(p3 a1 a2)))(k:(p1)→∀ a1:α1,∀ a2:α2,(p2 a1 a2)→(p3 a1 a2)→G):G:=by obtain ⟨h1,⟨a1,⟨a2,⟨h2,h3⟩⟩⟩⟩:=h;exact k h1 a1 a2 h2 h3
theorem xEEAoAoo {α1:Sort _}{α2:Sort _}{p1:α1→α2→Prop}{p2:α1→α2→Prop}{p3:α1→α2→Prop}{G:Prop}(h:∃ a1,∃ a2,(p1 a1 a2)∧((p2 a1 a2)∧(p3 a1 a2)))(k:∀ a1:α1,∀ a2:α2,(p1 a1 a2)→(p2 a1 a2)→(p3 a1 a2)→G):G:=by obtain ⟨a1,⟨a2,⟨h1,⟨h2,h3⟩⟩⟩⟩:=h;exact k a1 a2 h1 h2 h3
theorem xEEEEAoo {α1:Sort _}{α2:Sort _}{α3:Sort _}{α4:Sort _}{p1:α1→α2→α3→α4→Prop}{p2:α1→α2→α3→α4→Prop}{G:Prop}(h:∃ a1,∃ a2,∃ a3,∃ a4,(p1 a1 a2 a3 a4)∧(p2 a1 a2 a3 a4))(k:∀ a1:α1,∀ a2:α2,∀ a3:α3,∀ a4:α4,(p1 a1 a2 a3 a4)→(p2 a1 a2 a3 a4)→G):G:=by obtain ⟨a1,⟨a2,⟨a3,⟨a4,⟨h1,h2⟩⟩⟩⟩⟩:=h;exact k a1 a2 a3 a4 h1 h2
theorem xEAoAoAoo {α1:Sort _}{p1:α1→Prop}{p2:α1→Prop}{p3:α1→Prop}{p4:α1→Prop}{G:Prop}(h:∃ a1,(p1 a1)∧((p2 a1)∧((p3 a1)∧(p4 a1))))(k:∀ a1:α1,(p1 a1)→(p2 a1)→(p3 a1)→(p4 a1)→G):G:=by obtain ⟨a1,⟨h1,⟨h2,⟨h3,h4⟩⟩⟩⟩:=h;exact k a1 h1 h2 h3 h4
theorem xEEAoAEoo {α1:Sort _}{α2:Sort _}{p1:α1→α2→Prop}{α3:Sort _}{p2:α1→α2→α3→Prop}{p3:α1→α2→Prop}{G:Prop}(h:∃ a1,∃ a2,(p1 a1 a2)∧((∃ a3,p2 a1 a2 a3)∧(p3 a1 a2)))(k:∀ a1:α1,∀ a2:α2,(p1 a1 a2)→∀ a3:α3,(p2 a1 a2 a3)→(p3 a1 a2)→G):G:=by obtain ⟨a1,⟨a2,⟨h1,⟨⟨a3,h2⟩,h3⟩⟩⟩⟩:=h;exact k a1 a2 h1 a3 h2 h3
theorem xEEEAoAoo {α1:Sort _}{α2:Sort _}{α3:Sort _}{p1:α1→α2→α3→Prop}{p2:α1→α2→α3→Prop}{p3:α1→α2→α3→Prop}{G:Prop}(h:∃ a1,∃ a2,∃ a3,(p1 a1 a2 a3)∧((p2 a1 a2 a3)∧(p3 a1 a2 a3)))(k:∀ a1:α1,∀ a2:α2,∀ a3:α3,(p1 a1 a2 a3)→(p2 a1 a2 a3)→(p3 a1 a2 a3)→G):G:=by obtain ⟨a1,⟨a2,⟨a3,⟨h1,⟨h2,h3⟩⟩⟩⟩⟩:=h;exact k a1 a2 a3 h1 h2 h3
theorem xAAAAooooo {p1:Prop}{p2:Prop}{p3:Prop}{p4:Prop}{p5:Prop}{G:Prop}(h:((((p1)∧(p2))∧(p3))∧(p4))∧(p5))(k:(p1)→(p2)→(p3)→(p4)→(p5)→G):G:=by obtain ⟨⟨⟨⟨h1,h2⟩,h3⟩,h4⟩,h5⟩:=h;exact k h1 h2 h3 h4 h5
theorem xAAoAoAooo {p1:Prop}{p2:Prop}{p3:Prop}{p4:Prop}{p5:Prop}{G:Prop}(h:((p1)∧((p2)∧((p3)∧(p4))))∧(p5))(k:(p1)→(p2)→(p3)→(p4)→(p5)→G):G:=by obtain ⟨⟨h1,⟨h2,⟨h3,h4⟩⟩⟩,h5⟩:=h;exact k h1 h2 h3 h4 h5
theorem xAoAoAoAoo {p1:Prop}{p2:Prop}{p3:Prop}{p4:Prop}{p5:Prop}{G:Prop}(h:(p1)∧((p2)∧((p3)∧((p4)∧(p5)))))(k:(p1)→(p2)→(p3)→(p4)→(p5)→G):G:=by obtain ⟨h1,⟨h2,⟨h3,⟨h4,h5⟩⟩⟩⟩:=h;exact k h1 h2 h3 h4 h5
theorem xEEAoAoAoo {α1:Sort _}{α2:Sort _}{p1:α1→α2→Prop}{p2:α1→α2→Prop}{p3:α1→α2→Prop}{p4:α1→α2→Prop}{G:Prop}(h:∃ a1,∃ a2,(p1 a1 a2)∧((p2 a1 a2)∧((p3 a1 a2)∧(p4 a1 a2))))(k:∀ a1:α1,∀ a2:α2,(p1 a1 a2)→(p2 a1 a2)→(p3 a1 a2)→(p4 a1 a2)→G):G:=by obtain ⟨a1,⟨a2,⟨h1,⟨h2,⟨h3,h4⟩⟩⟩⟩⟩:=h;exact k a1 a2 h1 h2 h3 h4
theorem xEAEEAoAooo {α1:Sort _}{α2:Sort _}{α3:Sort _}{p1:α1→α2→α3→Prop}{p2:α1→α2→α3→Prop}{p3:α1→α2→α3→Prop}{p4:α1→Prop}{G:Prop}(h:∃ a1,(∃ a2,∃ a3,(p1 a1 a2 a3)∧((p2 a1 a2 a3)∧(p3 a1 a2 a3)))∧(p4 a1))(k:∀ a1:α1,∀ a2:α2,∀ a3:α3,(p1 a1 a2 a3)→(p2 a1 a2 a3)→(p3 a1 a2 a3)→(p4 a1)→G):G:=by obtain ⟨a1,⟨⟨a2,⟨a3,⟨h1,⟨h2,h3⟩⟩⟩⟩,h4⟩⟩:=h;exact k a1 a2 a3 h1 h2 h3 h4
theorem xEAoEAoEAoo {α1:Sort _}{p1:α1→Prop}{α2:Sort _}{p2:α1→α2→Prop}{α3:Sort _}{p3:α1→α2→α3→Prop}{p4:α1→α2→α3→Prop}{G:Prop}(h:∃ a1,(p1 a1)∧(∃ a2,(p2 a1 a2)∧(∃ a3,(p3 a1 a2 a3)∧(p4 a1 a2 a3))))(k:∀ a1:α1,(p1 a1)→∀ a2:α2,(p2 a1 a2)→∀ a3:α3,(p3 a1 a2 a3)→(p4 a1 a2 a3)→G):G:=by obtain ⟨a1,⟨h1,⟨a2,⟨h2,⟨a3,⟨h3,h4⟩⟩⟩⟩⟩⟩:=h;exact k a1 h1 a2 h2 a3 h3 h4
theorem xEEEEEAoAoo {α1:Sort _}{α2:Sort _}{α3:Sort _}{α4:Sort _}{α5:Sort _}{p1:α1→α2→α3→α4→α5→Prop}{p2:α1→α2→α3→α4→α5→Prop}{p3:α1→α2→α3→α4→α5→Prop}{G:Prop}(h:∃ a1,∃ a2,∃ a3,∃ a4,∃ a5,(p1 a1 a2 a3 a4 a5)∧((p2 a1 a2 a3 a4 a5)∧(p3 a1 a2 a3 a4 a5)))(k:∀ a1:α1,∀ a2:α2,∀ a3:α3,∀ a4:α4,∀ a5:α5,(p1 a1 a2 a3 a4 a5)→(p2 a1 a2 a3 a4 a5)→(p3 a1 a2 a3 a4 a5)→G):G:=by obtain ⟨a1,⟨a2,⟨a3,⟨a4,⟨a5,⟨h1,⟨h2,h3⟩⟩⟩⟩⟩⟩⟩:=h;exact k a1 a2 a3 a4 a5 h1 h2 h3
theorem xEEAoAoAoAoo {α1:Sort _}{α2:Sort _}{p1:α1→α2→Prop}{p2:α1→α2→Prop}{p3:α1→α2→Prop}{p4:α1→α2→Prop}{p5:α1→α2→Prop}{G:Prop}(h:∃ a1,∃ a2,(p1 a1 a2)∧((p2 a1 a2)∧((p3 a1 a2)∧((p4 a1 a2)∧(p5 a1 a2)))))(k:∀ a1:α1,∀ a2:α2,(p1 a1 a2)→(p2 a1 a2)→(p3 a1 a2)→(p4 a1 a2)→(p5 a1 a2)→G):G:=by obtain ⟨a1,⟨a2,⟨h1,⟨h2,⟨h3,⟨h4,h5⟩⟩⟩⟩⟩⟩:=h;exact k a1 a2 h1 h2 h3 h4 h5
theorem xEEEAoAoAoAoo {α1:Sort _}{α2:Sort _}{α3:Sort _}{p1:α1→α2→α3→Prop}{p2:α1→α2→α3→Prop}{p3:α1→α2→α3→Prop}{p4:α1→α2→α3→Prop}{p5:α1→α2→α3→Prop}{G:Prop}(h:∃ a1,∃ a2,∃ a3,(p1 a1 a2 a3)∧((p2 a1 a2 a3)∧((p3 a1 a2 a3)∧((p4 a1 a2 a3)∧(p5 a1 a2 a3)))))(k:∀ a1:α1,∀ a2:α2,∀ a3:α3,(p1 a1 a2 a3)→(p2 a1 a2 a3)→(p3 a1 a2 a3)→(p4 a1 a2 a3)→(p5 a1 a2 a3)→G):G:=by obtain ⟨a1,⟨a2,⟨a3,⟨h1,⟨h2,⟨h3,⟨h4,h5⟩⟩⟩⟩⟩⟩⟩:=h;exact k a1 a2 a3 h1 h2 h3 h4 h5
theorem xAoAoAoAoAoAoo {p1:Prop}{p2:Prop}{p3:Prop}{p4:Prop}{p5:Prop}{p6:Prop}{p7:Prop}{G:Prop}(h:(p1)∧((p2)∧((p3)∧((p4)∧((p5)∧((p6)∧(p7)))))))(k:(p1)→(p2)→(p3)→(p4)→(p5)→(p6)→(p7)→G):G:=by obtain ⟨h1,⟨h2,⟨h3,⟨h4,⟨h5,⟨h6,h7⟩⟩⟩⟩⟩⟩:=h;exact k h1 h2 h3 h4 h5 h6 h7
theorem xEEAoAoAoAoAoo {α1:Sort _}{α2:Sort _}{p1:α1→α2→Prop}{p2:α1→α2→Prop}{p3:α1→α2→Prop}{p4:α1→α2→Prop}{p5:α1→α2→Prop}{p6:α1→α2→Prop}{G:Prop}(h:∃ a1,∃ a2,(p1 a1 a2)∧((p2 a1 a2)∧((p3 a1 a2)∧((p4 a1 a2)∧((p5 a1 a2)∧(p6 a1 a2))))))(k:∀ a1:α1,∀ a2:α2,(p1 a1 a2)→(p2 a1 a2)→(p3 a1 a2)→(p4 a1 a2)→(p5 a1 a2)→(p6 a1 a2)→G):G:=by obtain ⟨a1,⟨a2,⟨h1,⟨h2,⟨h3,⟨h4,⟨h5,h6⟩⟩⟩⟩⟩⟩⟩:=h;exact k a1 a2 h1 h2 h3 h4 h5 h6
theorem xEEEEEEEEEEEAoo {α1:Sort _}{α2:Sort _}{α3:Sort _}{α4:Sort _}{α5:Sort _}{α6:Sort _}{α7:Sort _}{α8:Sort _}{α9:Sort _}{α10:Sort _}{α11:Sort _}{p1:α1→α2→α3→α4→α5→α6→α7→α8→α9→α10→α11→Prop}{p2:α1→α2→α3→α4→α5→α6→α7→α8→α9→α10→α11→Prop}{G:Prop}(h:∃ a1,∃ a2,∃ a3,∃ a4,∃ a5,∃ a6,∃ a7,∃ a8,∃ a9,∃ a10,∃ a11,(p1 a1 a2 a3 a4 a5 a6 a7 a8 a9 a10 a11)∧(p2 a1 a2 a3 a4 a5 a6 a7 a8 a9 a10 a11))(k:∀ a1:α1,∀ a2:α2,∀ a3:α3,∀ a4:α4,∀ a5:α5,∀ a6:α6,∀ a7:α7,∀ a8:α8,∀ a9:α9,∀ a10:α10,∀ a11:α11,(p1 a1 a2 a3 a4 a5 a6 a7 a8 a9 a10 a11)→(p2 a1 a2 a3 a4 a5 a6 a7 a8 a9 a10 a11)→G):G:=by obtain ⟨a1,⟨a2,⟨a3,⟨a4,⟨a5,⟨a6,⟨a7,⟨a8,⟨a9,⟨a10,⟨a11,⟨h1,h2⟩⟩⟩⟩⟩⟩⟩⟩⟩⟩⟩⟩:=h;exact k a1 a2 a3 a4 a5 a6 a7 a8 a9 a10 a11 h1 h2
theorem xAAAAAAAAooooooooo {p1:Prop}{p2:Prop}{p3:Prop}{p4:Prop}{p5:Prop}{p6:Prop}{p7:Prop}{p8:Prop}{p9:Prop}{G:Prop}(h:((((((((p1)∧(p2))∧(p3))∧(p4))∧(p5))∧(p6))∧(p7))∧(p8))∧(p9))(k:(p1)→(p2)→(p3)→(p4)→(p5)→(p6)→(p7)→(p8)→(p9)→G):G:=by obtain ⟨⟨⟨⟨⟨⟨⟨⟨h1,h2⟩,h3⟩,h4⟩,h5⟩,h6⟩,h7⟩,h8⟩,h9⟩:=h;exact k h1 h2 h3 h4 h5 h6 h7 h8 h9
theorem xAoAoAoAoAoAoAoAoo {p1:Prop}{p2:Prop}{p3:Prop}{p4:Prop}{p5:Prop}{p6:Prop}{p7:Prop}{p8:Prop}{p9:Prop}{G:Prop}(h:(p1)∧((p2)∧((p3)∧((p4)∧((p5)∧((p6)∧((p7)∧((p8)∧(p9)))))))))(k:(p1)→(p2)→(p3)→(p4)→(p5)→(p6)→(p7)→(p8)→(p9)→G):G:=by obtain ⟨h1,⟨h2,⟨h3,⟨h4,⟨h5,⟨h6,⟨h7,⟨h8,h9⟩⟩⟩⟩⟩⟩⟩⟩:=h;exact k h1 h2 h3 h4 h5 h6 h7 h8 h9
theorem xEEEEEEEEEEEEAoAoo {α1:Sort _}{α2:Sort _}{α3:Sort _}{α4:Sort _}{α5:Sort _}{α6:Sort _}{α7:Sort _}{α8:Sort _}{α9:Sort _}{α10:Sort _}{α11:Sort _}{α12:Sort _}{p1:α1→α2→α3→α4→α5→α6→α7→α8→α9→α10→α11→α12→Prop}{p2:α1→α2→α3→α4→α5→α6→α7→α8→α9→α10→α11→α12→Prop}{p3:α1→α2→α3→α4→α5→α6→α7→α8→α9→α10→α11→α12→Prop}{G:Prop}(h:∃ a1,∃ a2,∃ a3,∃ a4,∃ a5,∃ a6,∃ a7,∃ a8,∃ a9,∃ a10,∃ a11,∃ a12,(p1 a1 a2 a3 a4 a5 a6 a7 a8 a9 a10 a11 a12)∧((p2 a1 a2 a3 a4 a5 a6 a7 a8 a9 a10 a11 a12)∧(p3 a1 a2 a3 a4 a5 a6 a7 a8 a9 a10 a11 a12)))(k:∀ a1:α1,∀ a2:α2,∀ a3:α3,∀ a4:α4,∀ a5:α5,∀ a6:α6,∀ a7:α7,∀ a8:α8,∀ a9:α9,∀ a10:α10,∀ a11:α11,∀ a12:α12,(p1 a1 a2 a3 a4 a5 a6 a7 a8 a9 a10 a11 a12)→(p2 a1 a2 a3 a4 a5 a6 a7 a8 a9 a10 a11 a12)→(p3 a1 a2 a3 a4 a5 a6 a7 a8 a9 a10 a11 a12)→G):G:=by obtain ⟨a1,⟨a2,⟨a3,⟨a4,⟨a5,⟨a6,⟨a7,⟨a8,⟨a9,⟨a10,⟨a11,⟨a12,⟨h1,⟨h2,h3⟩⟩⟩⟩⟩⟩⟩⟩⟩⟩⟩⟩⟩⟩:=h;exact k a1 a2 a3 a4 a5 a6 a7 a8 a9 a10 a11 a12 h1 h2 h3
theorem xEEEEAoAoAoAoAoAoAoo {α1:Sort _}{α2:Sort _}{α3:Sort _}{α4:Sort _}{p1:α1→α2→α3→α4→Prop}{p2:α1→α2→α3→α4→Prop}{p3:α1→α2→α3→α4→Prop}{p4:α1→α2→α3→α4→Prop}{p5:α1→α2→α3→α4→Prop}{p6:α1→α2→α3→α4→Prop}{p7:α1→α2→α3→α4→Prop}{p8:α1→α2→α3→α4→Prop}{G:Prop}(h:∃ a1,∃ a2,∃ a3,∃ a4,(p1 a1 a2 a3 a4)∧((p2 a1 a2 a3 a4)∧((p3 a1 a2 a3 a4)∧((p4 a1 a2 a3 a4)∧((p5 a1 a2 a3 a4)∧((p6 a1 a2 a3 a4)∧((p7 a1 a2 a3 a4)∧(p8 a1 a2 a3 a4))))))))(k:∀ a1:α1,∀ a2:α2,∀ a3:α3,∀ a4:α4,(p1 a1 a2 a3 a4)→(p2 a1 a2 a3 a4)→(p3 a1 a2 a3 a4)→(p4 a1 a2 a3 a4)→(p5 a1 a2 a3 a4)→(p6 a1 a2 a3 a4)→(p7 a1 a2 a3 a4)→(p8 a1 a2 a3 a4)→G):G:=by obtain ⟨a1,⟨a2,⟨a3,⟨a4,⟨h1,⟨h2,⟨h3,⟨h4,⟨h5,⟨h6,⟨h7,h8⟩⟩⟩⟩⟩⟩⟩⟩⟩⟩⟩:=h;exact k a1 a2 a3 a4 h1 h2 h3 h4 h5 h6 h7 h8
theorem zz0 {a b:Nat}(h:a<b:=by assumption):a≤b:=Nat.le_of_lt h
theorem zz3 {a b:Nat}(h:a≤b:=by assumption):a<b+1:=Nat.lt_succ_of_le h
theorem zz4 {a b:Nat}(h:a<b+1:=by assumption):a≤b:=Nat.le_of_lt_succ h
theorem zz5 {a b:Nat}(h:a+1<b:=by assumption):a<b:=Nat.lt_of_succ_lt h
theorem zz6 {a b c:Nat}(h:a≤b:=by assumption)(h':b≤c:=by decide):a≤c:=Nat.le_trans h h'
theorem zz7 {a b c:Nat}(h:a<b:=by assumption)(h':b≤c:=by decide):a<c:=Nat.lt_of_lt_of_le h h'
theorem zz8 {a b c:Nat}(h:a≤b:=by assumption)(h':b<c:=by decide):a<c:=Nat.lt_of_le_of_lt h h'
theorem zz9 {a b c:Nat}(h:a<b:=by assumption)(h':b≤c:=by decide):a≤c:=Nat.le_of_lt (Nat.lt_of_lt_of_le h h')
theorem zza {a b c:Nat}(h:a≤b:=by assumption)(h':b≤c:=by assumption):a≤c:=Nat.le_trans h h'
theorem zzd {a b:Prop}(h:a∧b:=by assumption):a:=h.1
theorem zze {a b:Prop}(h:b∧a:=by assumption):a:=h.2
theorem zzf {a b c:Int}(h:a≤b:=by assumption)(h':b≤c:=by assumption):a≤c:=Int.le_trans h h'
theorem zzg {a b c:Int}(h:a≤b:=by assumption)(h':b≤c:=by decide):a≤c:=Int.le_trans h h'
theorem zzh {a b c:Int}{p:Prop}(h:a≤b∧p:=by assumption)(h':b≤c:=by assumption):a≤c:=Int.le_trans h.1 h'
theorem zzi {a b c d:Int}{p:Prop}(h:a≤b∧p:=by assumption)(h':b≤c:=by assumption)(h2:c≤d:=by assumption):a≤d:=Int.le_trans h.1 (Int.le_trans h' h2)
theorem zzj {a b c:Nat}(h:a+c<b+c:=by assumption):a<b:=Nat.lt_of_add_lt_add_right h
theorem zzk {a b c:Nat}(h:a+b≤c:=by assumption):a≤c:=Nat.le_trans (Nat.le_add_right _ _) h
theorem zzm {a b:Nat}(h:¬ b<a:=by assumption):a≤b:=Nat.not_lt.mp h
theorem zzn {a b:Nat}(h:¬ b≤a:=by assumption):a<b:=Nat.not_le.mp h
@[elab_as_elim] theorem gen {α:Sort _} {P:α→Prop} (a:α) (h:∀ b,a=b→P b):P a:=h a rfl
end NN
end
section
open PySem PySem.W PySem.Calls PyProof.Rows
set_option genSizeOf false
namespace NN
inductive V where
 |none | bool (b:Bool) | int (i:Int) | str (s:PySem.Str)
 |own (a:Addr) | glob (a:Addr) | ty (n:String) | bi (n:String)
 |tup (vs:List V) | lst (vs:List V) | inst (C:Addr) (ns:List PySem.Str) (vs:List V)
 |dct (W:World) (ks:List PySem.Str) (vs:List V) | raw (v:Value) | rng (a b:Int)
noncomputable abbrev Led:=List (Addr×Obj)
noncomputable abbrev tupObj (rs:List Value)(n:Nat):Obj:={cls:=.type "tuple",data:=.seq rs.toArray n}
noncomputable abbrev rngObj (a b:Int)(t u v:Tok):Obj:={cls:=.type "range",dict:=none,data:=.fields #[.int a t,.int b u,.int 1 v],slots:=#[]}
noncomputable abbrev lstObj (rs:List Value)(n:Nat):Obj:={cls:=.type "list",data:=.seq rs.toArray n}
mutual
inductive VR (z:Led):V→Value→Prop
 |none:VR z .none .none
 |bool (b:Bool):VR z (.bool b) (.bool b)
 |int (i:Int) (t:Tok):VR z (.int i) (.int i t)
 |str (s:PySem.Str) (t:Tok):VR z (.str s) (.str s t)
 |own (a:Addr):VR z (.own a) (.ref a)
 |glob (a:Addr):VR z (.glob a) (.ref a)
 |ty (n:String):VR z (.ty n) (.type n)
 |bi (n:String):VR z (.bi n) (.builtin n)
 |raw (v:Value):VR z (.raw v) v
 |rng {a b:Int} {r:Addr} {t u v:Tok}:(r,rngObj a b t u v)∈z→VR z (.rng a b) (.ref r)
 |tup {vs:List V} {rs:List Value} {a:Addr} {n:Nat}:(a,tupObj rs n)∈z→VRs z vs rs→VR z (.tup vs) (.ref a)
 |lst {vs:List V} {rs:List Value} {a:Addr} {n:Nat}:(a,lstObj rs n)∈z→VRs z vs rs→VR z (.lst vs) (.ref a)
 |inst {C:Addr} {ns:List PySem.Str} {vs:List V} {a d:Addr} {es:List DictEntry} {n:Nat} :
   (a,instObj C d)∈z→(d,dictOf es n)∈z→ns.Nodup→ER z ns vs es→VR z (.inst C ns vs) (.ref a)
 |dct {W:World} {ks:List PySem.Str} {vs:List V} {rs:List Value} {a:Addr} {o:Obj} :
   (a,o)∈z→(a == sysModules)=false→o.IsDictOf (PySem.strKind PySem.Challenge.pw_nn0413_01 W) (ks.zip rs)→VRs z vs rs→VR z (.dct W ks vs) (.ref a)
inductive VRs (z:Led):List V→List Value→Prop
 |nil:VRs z [] []
 |cons {v:V} {r:Value} {vs:List V} {rs:List Value}:VR z v r→VRs z vs rs→VRs z (v::vs) (r::rs)
inductive ER (z:Led):List PySem.Str→List V→List DictEntry→Prop
 |nil {ns:List PySem.Str}:ER z ns [] []
 |cons {k:PySem.Str} {ns:List PySem.Str} {v:V} {vs:List V} {e:DictEntry} {es:List DictEntry} {t:Tok} :
   e.key=.str k t→VR z v e.val→ER z ns vs es→ER z (k::ns) (v::vs) (e::es)
end
theorem VR.mono {z z':Led}(h:∀ p∈z,p∈z'){v:V}{r:Value}(H:VR z v r):VR z' v r :=
 VR.rec (motive_1:=fun v r _=>VR z' v r) (motive_2:=fun vs rs _=>VRs z' vs rs) (motive_3:=fun ns vs es _=>ER z' ns vs es) .none .bool .int .str .own .glob .ty .bi .raw (fun hm=>.rng (h _ hm)) (fun hm _ ih=>.tup (h _ hm) ih) (fun hm _ ih=>.lst (h _ hm) ih) (fun h1 h2 h3 _ ih=>.inst (h _ h1) (h _ h2) h3 ih) (fun h1 h2 h3 _ ih=>.dct (h _ h1) h2 h3 ih) .nil (fun _ _ a b=>.cons a b) .nil (fun a _ _ b c=>.cons a b c) H
theorem VRs.ind {z:Led}{P:List V→List Value→Prop}(h0:P [] [])(h1:∀ {v r vs rs},VR z v r→VRs z vs rs→P vs rs→P (v::vs) (r::rs)){vs:List V}{rs:List Value}(H:VRs z vs rs):P vs rs :=
 VRs.rec (motive_1:=fun _ _ _=>True) (motive_2:=fun vs rs _=>P vs rs) (motive_3:=fun _ _ _ _=>True) ⟨⟩ (fun _=>⟨⟩) (fun _ _=>⟨⟩) (fun _ _=>⟨⟩) (fun _=>⟨⟩) (fun _=>⟨⟩) (fun _=>⟨⟩) (fun _=>⟨⟩) (fun _=>⟨⟩) (fun _=>⟨⟩) (fun _ _ _=>⟨⟩) (fun _ _ _=>⟨⟩) (fun _ _ _ _ _=>⟨⟩) (fun _ _ _ _ _=>⟨⟩) h0 (fun a b _ ih=>h1 a b ih) ⟨⟩ (fun _ _ _ _ _=>⟨⟩) H
theorem ER.ind {z:Led}{P:List PySem.Str→List V→List DictEntry→Prop}(h0:∀ {ns},P ns [] [])(h1:∀ {k ns v vs e es t},e.key=.str k t→VR z v e.val→ER z ns vs es→P ns vs es→P (k::ns) (v::vs) (e::es)){ns:List PySem.Str}{vs:List V}{es:List DictEntry}(H:ER z ns vs es):P ns vs es :=
 ER.rec (motive_1:=fun _ _ _=>True) (motive_2:=fun _ _ _=>True) (motive_3:=fun ns vs es _=>P ns vs es) ⟨⟩ (fun _=>⟨⟩) (fun _ _=>⟨⟩) (fun _ _=>⟨⟩) (fun _=>⟨⟩) (fun _=>⟨⟩) (fun _=>⟨⟩) (fun _=>⟨⟩) (fun _=>⟨⟩) (fun _=>⟨⟩) (fun _ _ _=>⟨⟩) (fun _ _ _=>⟨⟩) (fun _ _ _ _ _=>⟨⟩) (fun _ _ _ _ _=>⟨⟩) ⟨⟩ (fun _ _ _ _=>⟨⟩) h0 (fun a b c _ ih=>h1 a b c ih) H
noncomputable def VRv (z:Led)(v:V)(r:Value):Prop:=match v with
 |.none=>r=.none
 |.bool b=>r=.bool b
 |.int i=>∃ t,r=.int i t
 |.str s=>∃ t,r=.str s t
 |.own a=>r=.ref a
 |.glob a=>r=.ref a
 |.ty n=>r=.type n
 |.bi n=>r=.builtin n
 |.raw v=>r=v
 |.rng a b=>∃ x t u w,r=.ref x∧(x,rngObj a b t u w)∈z
 |.tup vs=>∃ rs a n,r=.ref a∧(a,tupObj rs n)∈z∧VRs z vs rs
 |.lst vs=>∃ rs a n,r=.ref a∧(a,lstObj rs n)∈z∧VRs z vs rs
 |.inst C ns vs=>∃ a d es n,r=.ref a∧(a,instObj C d)∈z∧(d,dictOf es n)∈z∧ns.Nodup∧ER z ns vs es
 |.dct W ks vs=>∃ rs a o,r=.ref a∧(a,o)∈z∧(a == sysModules)=false∧o.IsDictOf (PySem.strKind PySem.Challenge.pw_nn0413_01 W) (ks.zip rs)∧VRs z vs rs
theorem VR.inv {z:Led}{v:V}{r:Value}(h:VR z v r):VRv z v r:=by
 cases h with
 |none=>exact rfl
 |bool b=>exact rfl
 |int i t=>exact ⟨t,rfl⟩
 |str s t=>exact ⟨t,rfl⟩
 |own a=>exact rfl
 |glob a=>exact rfl
 |ty n=>exact rfl
 |bi n=>exact rfl
 |raw v=>exact rfl
 |rng h=>exact ⟨_,_,_,_,rfl,h⟩
 |tup h hs=>exact ⟨_,_,_,rfl,h,hs⟩
 |lst h hs=>exact ⟨_,_,_,rfl,h,hs⟩
 |inst a b c d=>exact ⟨_,_,_,_,rfl,a,b,c,d⟩
 |dct a b c d=>exact ⟨_,_,_,rfl,a,b,c,d⟩
section inv
variable {z:Led}{r:Value}{P:Value→Prop}
@[elab_as_elim] theorem VR.i_none (h:VR z .none r) (k:P .none):P r:=h.inv▸k
@[elab_as_elim] theorem VR.i_bool {b:Bool} (h:VR z (.bool b) r) (k:P (.bool b)):P r:=(show r=_ from h.inv)▸k
@[elab_as_elim] theorem VR.i_int {i:Int} (h:VR z (.int i) r) (k:∀ t,P (.int i t)):P r:=xEo h.inv fun t e=>e▸k t
@[elab_as_elim] theorem VR.i_str {i:PySem.Str} (h:VR z (.str i) r) (k:∀ t,P (.str i t)):P r:=xEo h.inv fun t e=>e▸k t
@[elab_as_elim] theorem VR.i_own {a:Addr} (h:VR z (.own a) r) (k:P (.ref a)):P r:=(show r=_ from h.inv)▸k
@[elab_as_elim] theorem VR.i_glob {a:Addr} (h:VR z (.glob a) r) (k:P (.ref a)):P r:=(show r=_ from h.inv)▸k
@[elab_as_elim] theorem VR.i_ty {n:String} (h:VR z (.ty n) r) (k:P (.type n)):P r:=(show r=_ from h.inv)▸k
@[elab_as_elim] theorem VR.i_bi {n:String} (h:VR z (.bi n) r) (k:P (.builtin n)):P r:=(show r=_ from h.inv)▸k
@[elab_as_elim] theorem VR.i_rng {a b:Int} (h:VR z (.rng a b) r) (k:∀ x t u w,(x,rngObj a b t u w)∈z→P (.ref x)):P r:=xEEEEAoo h.inv fun x t u w e h=>e▸k x t u w h
@[elab_as_elim] theorem VR.i_tup {vs:List V} (h:VR z (.tup vs) r) (k:∀ rs a n,(a,tupObj rs n)∈z→VRs z vs rs→P (.ref a)):P r:=xEEEAoAoo h.inv fun rs a n e h hs=>e▸k rs a n h hs
@[elab_as_elim] theorem VR.i_lst {vs:List V} (h:VR z (.lst vs) r) (k:∀ rs a n,(a,lstObj rs n)∈z→VRs z vs rs→P (.ref a)):P r:=xEEEAoAoo h.inv fun rs a n e h hs=>e▸k rs a n h hs
@[elab_as_elim] theorem VR.i_dct {W:World} {ks:List PySem.Str} {vs:List V} (h:VR z (.dct W ks vs) r) (k:∀ rs a o,(a,o)∈z→(a == sysModules)=false→o.IsDictOf (PySem.strKind PySem.Challenge.pw_nn0413_01 W) (ks.zip rs)→VRs z vs rs→P (.ref a)):P r:=xEEEAoAoAoAoo h.inv fun rs a o e h1 h2 h3 h4=>e▸k rs a o h1 h2 h3 h4
@[elab_as_elim] theorem VR.i_inst {C:Addr} {ns:List PySem.Str} {vs:List V} (h:VR z (.inst C ns vs) r) (k:∀ a d es n,(a,instObj C d)∈z→(d,dictOf es n)∈z→ns.Nodup→ER z ns vs es→P (.ref a)):P r:=by
 refine xEEo h.inv fun a d h=>xEEo h fun es n h=>?_
 exact h.1▸k a d es n h.2.1 h.2.2.1 h.2.2.2.1 h.2.2.2.2
variable {rs:List Value}{Ps:List Value→Prop}{u v:V}{vs:List V}
theorem VRs.inv (h:VRs z vs rs):match vs with | []=>rs=[] | v::vs=>∃ r rs',rs=r::rs'∧VR z v r∧VRs z vs rs':=by
 cases h with
 |nil=>exact rfl
 |cons a b=>exact ⟨_,_,rfl,a,b⟩
@[elab_as_elim] theorem VRs.i_nil (h:VRs z [] rs) (k:Ps []):Ps rs:=(show rs=_ from h.inv)▸k
@[elab_as_elim] theorem VRs.i_cons (h:VRs z (v::vs) rs) (k:∀ r rs,VR z v r→VRs z vs rs→Ps (r::rs)):Ps rs:=xEEAoAoo h.inv fun r rs' e a b=>e▸k r rs' a b
@[elab_as_elim] theorem VRs.i1 (h:VRs z [v] rs) (k:∀ r,VR z v r→Ps [r]):Ps rs:=h.i_cons fun r _ a b=>b.i_nil (k r a)
@[elab_as_elim] theorem VRs.i2 (h:VRs z [u,v] rs) (k:∀ r r',VR z u r→VR z v r'→Ps [r,r']):Ps rs:=h.i_cons fun r _ a b=>b.i1 fun r' b=>k r r' a b
end inv
theorem VRs.mono {z z':Led}(h:∀ p∈z,p∈z'){vs:List V}{rs:List Value}(H:VRs z vs rs):VRs z' vs rs:=VRs.ind .nil (fun a _ ih=>.cons (a.mono h) ih) H
theorem ER.mono {z z':Led}(h:∀ p∈z,p∈z'){ns:List PySem.Str}{vs:List V}{es:List DictEntry}(H:ER z ns vs es):ER z' ns vs es:=ER.ind .nil (fun a b _ ih=>.cons a (b.mono h) ih) H
theorem VRs.length {z:Led}{vs:List V}{rs:List Value}(H:VRs z vs rs):vs.length=rs.length:=VRs.ind (P:=fun vs rs=>vs.length=rs.length) rfl (fun _ _ ih=>congrArg (·+1) ih) H
theorem VRs.append {z:Led}{vs ws:List V}{rs ts:List Value}(H:VRs z vs rs)(h:VRs z ws ts):VRs z (vs++ws) (rs++ts):=VRs.ind (P:=fun vs rs=>VRs z (vs++ws) (rs++ts)) h (fun a _ ih=>.cons a ih) H
theorem VRs.get {z:Led}{vs:List V}{rs:List Value}{i:Nat}{v:V}(H:VRs z vs rs):vs[i]?=some v→∃ r,rs[i]?=some r∧VR z v r :=
 VRs.ind (P:=fun vs rs=>∀ i,vs[i]?=some v→∃ r,rs[i]?=some r∧VR z v r) (fun i h=>by simp at h) (fun a _ ih i h=>by
  cases i with
  |zero=>cases h;exact ⟨_,rfl,a⟩
  |succ i=>exact ih i h) H i
theorem VRs.set {z:Led}{vs:List V}{rs:List Value}{i:Nat}{v:V}{r:Value}(H:VRs z vs rs)(h:VR z v r):VRs z (vs.set i v) (rs.set i r) :=
 VRs.ind (P:=fun vs rs=>∀ i,VRs z (vs.set i v) (rs.set i r)) (fun _=>.nil) (fun a b ih i=>by
  cases i with
  |zero=>exact .cons h b
  |succ i=>exact .cons a (ih i)) H i
inductive Cell where
 |lst (vs:List V) | ins (C:Addr) (ns:List PySem.Str) (vs:List V) | cel (v:Option V)
noncomputable abbrev celObj (r:Value):Obj→Prop:=fun o=>o.data=.cell (some r)
noncomputable abbrev St:=List (Addr×Cell)
inductive CR (z:Led):Addr×Cell→Led→Prop
 |lst {a:Addr} {vs:List V} {rs:List Value} {n:Nat}:VRs z vs rs→CR z (a,.lst vs) [(a,lstObj rs n)]
 |ins {C:Addr} {ns:List PySem.Str} {vs:List V} {a d:Addr} {es:List DictEntry} {n:Nat} :
   ns.Nodup→ER z ns vs es→CR z (a,.ins C ns vs) [(a,instObj C d),(d,dictOf es n)]
 |cel0 {a:Addr} {o:Obj}:o.data=.cell .none→CR z (a,.cel .none) [(a,o)]
 |cel {a:Addr} {v:V} {r:Value} {o:Obj}:o.data=.cell (some r)→VR z v r→CR z (a,.cel (some v)) [(a,o)]
noncomputable def CRv (z:Led)(p:Addr×Cell)(os:Led):Prop:=match p.2 with
 |.lst vs=>∃ rs n,os=[(p.1,lstObj rs n)]∧VRs z vs rs
 |.ins C ns vs=>∃ d es n,os=[(p.1,instObj C d),(d,dictOf es n)]∧ns.Nodup∧ER z ns vs es
 |.cel u=>match u with
  |.none=>∃ o,os=[(p.1,o)]∧o.data=.cell .none
  |some v=>∃ r o,os=[(p.1,o)]∧o.data=.cell (some r)∧VR z v r
theorem CR.inv {z:Led}{p:Addr×Cell}{os:Led}(h:CR z p os):CRv z p os:=by
 cases h with
 |lst h=>exact ⟨_,_,rfl,h⟩
 |ins h h'=>exact ⟨_,_,_,rfl,h,h'⟩
 |cel0 h=>exact ⟨_,rfl,h⟩
 |cel h h'=>exact ⟨_,_,rfl,h,h'⟩
@[elab_as_elim] theorem CR.i_lst {z:Led} {a:Addr} {vs:List V} {os:Led} {P:Led→Prop} (h:CR z (a,.lst vs) os) (k:∀ rs n,VRs z vs rs→P [(a,lstObj rs n)]):P os:=xEEAoo h.inv fun rs n e h=>e▸k rs n h
@[elab_as_elim] theorem CR.i_ins {z:Led} {a C:Addr} {ns:List PySem.Str} {vs:List V} {os:Led} {P:Led→Prop} (h:CR z (a,.ins C ns vs) os) (k:∀ d es n,ns.Nodup→ER z ns vs es→P [(a,instObj C d),(d,dictOf es n)]):P os:=xEEEAoAoo h.inv fun d es n e h h'=>e▸k d es n h h'
theorem CR.mono {z z':Led}(h:∀ p∈z,p∈z'){p:Addr×Cell}{os:Led}(c:CR z p os):CR z' p os:=by
 cases c with
 |lst a=>exact .lst (a.mono h)
 |ins a b=>exact .ins a (b.mono h)
 |cel0 a=>exact .cel0 a
 |cel a b=>exact .cel a (b.mono h)
inductive SR (z:Led):St→Led→Prop
 |nil:SR z [] []
 |cons {p:Addr×Cell} {σ:St} {os cl:Led}:CR z p os→SR z σ cl→SR z (p::σ) (os++cl)
@[elab_as_elim] theorem SR.i_cons {z:Led} {p:Addr×Cell} {σ:St} {cl:Led} {P:Led→Prop} (h:SR z (p::σ) cl) (k:∀ os cl,CR z p os→SR z σ cl→P (os++cl)):P cl:=by
 have:∀ {τ:St},SR z τ cl→∀ {p σ},τ=p::σ→(∀ os cl,CR z p os→SR z σ cl→P (os++cl))→P cl:=by
  intro τ h
  cases h with
  |nil=>intro p σ e _;cases e
  |cons a b=>intro p σ e k;exact k _ _ ((List.cons.inj e).1▸a) ((List.cons.inj e).2▸b)
 exact this h rfl k
theorem SR.mono {z z':Led}(h:∀ p∈z,p∈z'){σ:St}{cl:Led}(c:SR z σ cl):SR z' σ cl:=by
 induction c with
 |nil=>exact .nil
 |cons a _ ih=>exact .cons (a.mono h) ih
structure FnS where
 q:PySem.Str
 sc:Scope
 a:Addr
 cd:Value
 comp:Bool:=false
 cl:List (PySem.Str×Addr):=[]
noncomputable abbrev M (w:World):Model:=model PySem.Challenge.pw_nn0413_01 w
structure Fx (w:World)(K:Frag)(fn:FnS)(d:Nat) where
 A:Around
 A₀:Around
 base:Heap
 h₀:Heap
 outer:List Env
 L:Addr
 env:Env
 fenv:Env
 mc:PySem.Str→Option Value
 co:Obj
 p:Program
 loose:List PySem.Str
 mg:PySem.Str→Option Value
 mb:PySem.Str→Option Value
 B:Below A₀ base outer h₀
 T:TopRead p loose mg mb h₀
 X:K.In h₀
 hA:A.frames=some (fenv::outer)
 hfr:fenv.frame=some L
 hfk:fenv.scope.kind=.function
 hk:fn.sc.kind=.function
 hsc:env.scope=fn.sc
 hgl:env.globals=mainGlobals
 hbu:env.builtins=builtinsNs
 hcl:env.cells=fn.cl
 hloc:fn.comp=false→env.locals=L
 ext:Led
 mo:PySem.Str→Option Value
 hce:fn.comp=true→(env.locals,co)∈ext
 hco:∀ h:Heap,h.get? env.locals=some co→h.Ns env.locals mc
 hd:A.depth+d+5≤1000
 hu:A.units+20*d+100≤9900
 hh:A.handled=none
variable {w:World}{K:Frag}{fn:FnS}{d:Nat}
noncomputable def Fx.look (X:Fx w K fn d)(m':PySem.Str→Option Value):PySem.Str→Option Value:=if fn.comp then X.mc else m'
structure Ld (X:Fx w K fn d)(m:PySem.Str→Option Value)(z:Led)(σ:St)(s:Shared):Prop where
 ex:∃ cl,Fr X.h₀ X.L s.heap m∧News X.h₀ X.L s.heap (cl++(z++X.ext))∧((cl++(z++X.ext)).map (·.1)).Nodup∧SR z σ cl
noncomputable abbrev Mp:=List (Option V)
noncomputable abbrev Nms:=List (PySem.Str×NameKind)
inductive MR (z:Led)(m':PySem.Str→Option Value):Nms→Mp→Prop
 |nil:MR z m' [] []
 |no {x:PySem.Str} {k:NameKind} {ns:Nms} {m:Mp}:MR z m' ns m→MR z m' ((x,k)::ns) (none::m)
 |yes {x:PySem.Str} {k:NameKind} {ns:Nms} {m:Mp} {v:V} {r:Value}:m' x=some r→VR z v r→MR z m' ns m→MR z m' ((x,k)::ns) (some v::m)
theorem MR.mono {z z':Led}(h:∀ p∈z,p∈z'){m':PySem.Str→Option Value}{ns:Nms}{m:Mp}(c:MR z m' ns m):MR z' m' ns m:=by
 induction c with
 |nil=>exact .nil
 |no _ ih=>exact .no ih
 |yes a b _ ih=>exact .yes a (b.mono h) ih
structure MX (X:Fx w K fn d)(z:Led)(m':PySem.Str→Option Value)(m:Mp):Prop where
 r:MR z (X.look m') fn.sc.names m
 c:fn.comp=true→m'=X.mo
theorem MX.mono {X:Fx w K fn d}{z z':Led}(h:∀ p∈z,p∈z'){m':PySem.Str→Option Value}{m:Mp}(R:MX X z m' m):MX X z' m' m:=⟨R.r.mono h,R.c⟩
structure Wd (X:Fx w K fn d)(m:Mp)(σ:St)(z:Led)(s:Shared):Prop where
 ex:∃ m',Ld X m' z σ s∧MX X z m' m
structure Sm (s s':Shared):Prop where
 gens:s'.gens=s.gens
 drawn:s'.drawn=s.drawn
 os:s'.os=s.os
theorem Sm.same {s:Shared}:Sm s s:=⟨rfl,rfl,rfl⟩
theorem Sm.trans {a b c:Shared}(x:Sm a b)(y:Sm b c):Sm a c:=⟨y.gens.trans x.gens,y.drawn.trans x.drawn,y.os.trans x.os⟩
noncomputable abbrev Sub (z z':Led):Prop:=∀ p∈z,p∈z'
theorem Sub.same {z:Led}:Sub z z:=fun _ h=>h
theorem Sub.trans {a b c:Led}(x:Sub a b)(y:Sub b c):Sub a c:=fun p h=>y p (x p h)
noncomputable def EV (w:World)(K:Frag)(fn:FnS)(d:Nat)(m:Mp)(e:Expr)(σ:St)(Q:V→St→Prop):Prop :=
 ∀ (X:Fx w K fn d) (z:Led) (s:Shared) (QR:Value→Shared→Prop) (E:Value→Shared→Prop),Wd X m σ z s →
  (∀ r v σ' z' s',Sub z z'→Wd X m σ' z' s'→VR z' v r→Sm s s'→Q v σ'→QR r s')→wpAny (M w) X.A (eval e X.env) QR E s
noncomputable def TS (w:World)(K:Frag)(fn:FnS)(d:Nat)(m:Mp)(e:Expr)(σ:St)(Q:Bool→St→Prop):Prop :=
 ∀ (X:Fx w K fn d) (z:Led) (s:Shared) (QR:Bool→Shared→Prop) (E:Value→Shared→Prop),Wd X m σ z s →
  (∀ b σ' z' s',Sub z z'→Wd X m σ' z' s'→Sm s s'→Q b σ'→QR b s')→wpAny (M w) X.A (isTrue e X.env (eval e X.env)) QR E s
inductive Fl where
 |next | brk | cont | ret (v:V)
inductive FlR (z:Led):Fl→Flow→Prop
 |next:FlR z .next .next
 |brk:FlR z .brk .brk
 |cont:FlR z .cont .cont
 |ret {v:V} {r:Value}:VR z v r→FlR z (.ret v) (.ret r)
noncomputable def EX (w:World)(K:Frag)(fn:FnS)(d:Nat)(b:List Stmt)(m:Mp)(σ:St)(Q:Fl→Mp→St→Prop):Prop :=
 ∀ (X:Fx w K fn d) (z:Led) (s:Shared) (QR:Flow→Shared→Prop) (E:Value→Shared→Prop),Wd X m σ z s →
  (∀ r f m' σ' z' s',Sub z z'→Wd X m' σ' z' s'→FlR z' f r→Sm s s'→Q f m' σ'→QR r s')→wpAny (M w) X.A (execs b X.env) QR E s
noncomputable def E1 (w:World)(K:Frag)(fn:FnS)(d:Nat)(b:Stmt)(m:Mp)(σ:St)(Q:Fl→Mp→St→Prop):Prop :=
 ∀ (X:Fx w K fn d) (z:Led) (s:Shared) (QR:Flow→Shared→Prop) (E:Value→Shared→Prop),Wd X m σ z s →
  (∀ r f m' σ' z' s',Sub z z'→Wd X m' σ' z' s'→FlR z' f r→Sm s s'→Q f m' σ'→QR r s')→wpAny (M w) X.A (exec b X.env) QR E s
noncomputable def EVs (w:World)(K:Frag)(fn:FnS)(d:Nat)(m:Mp)(es:List Expr)(σ:St)(Q:List V→St→Prop):Prop :=
 ∀ (pos:Pos) (X:Fx w K fn d) (z:Led) (s:Shared) (QR:List Value→Shared→Prop) (E:Value→Shared→Prop),Wd X m σ z s →
  (∀ rs vs σ' z' s',Sub z z'→Wd X m σ' z' s'→VRs z' vs rs→Sm s s'→Q vs σ'→QR rs s')→wpAny (M w) X.A (spliced (backTo pos (starEach es X.env))) QR E s
noncomputable def CALL (w:World)(K:Frag)(d:Nat)(f:Value)(args:List V)(σ:St)(Q:V→St→Prop):Prop :=
 ∀ (fn:FnS) (d':Nat) (X:Fx w K fn d') (m:PySem.Str→Option Value) (A:Around) (z:Led) (s:Shared) (rs:List Value) (R:Result→Shared→Prop),
  A.frames=X.A.frames→A.handled=none→A.depth+d+5≤1000→A.units+20*d+100≤9900→Ld X m z σ s→VRs z args rs →
  (∀ r v σ' z' s',Sub z z'→Ld X m z' σ' s'→VR z' v r→Sm s s'→Q v σ'→R (.ok (.ret r)) s')→codeAny (M w) A (.call f ⟨rs,[]⟩) R s
section rules
variable {m:Mp}{σ:St}
theorem EV.mono {e:Expr}{Q Q':V→St→Prop}(h:EV w K fn d m e σ Q)(hq:∀ v σ,Q v σ→Q' v σ):EV w K fn d m e σ Q' :=
 fun X z s QR E W k=>h X z s QR E W fun r v σ' z' s' a b c d e=>k r v σ' z' s' a b c d (hq _ _ e)
theorem EX.mono {b:List Stmt}{Q Q':Fl→Mp→St→Prop}(h:EX w K fn d b m σ Q)(hq:∀ f m σ,Q f m σ→Q' f m σ):EX w K fn d b m σ Q' :=
 fun X z s QR E W k=>h X z s QR E W fun r f m' σ' z' s' a b c d e=>k r f m' σ' z' s' a b c d (hq _ _ _ e)
theorem CALL.mono {f:Value}{args:List V}{Q Q':V→St→Prop}(h:CALL w K d f args σ Q)(hq:∀ v σ,Q v σ→Q' v σ):CALL w K d f args σ Q' :=
 fun fn d' X m A z s rs R a b c d e f k=>h fn d' X m A z s rs R a b c d e f fun r v σ' z' s' a b c d e=>k r v σ' z' s' a b c d (hq _ _ e)
theorem ev_int {i:Int}{k:Nat}{pos:Pos}{Q:V→St→Prop}(h:Q (.int i) σ):EV w K fn d m (.Constant (.int i) k pos) σ Q:=by
 intro X z s QR E W k
 refine wpAny_Constant_int (k _ _ _ _ _ Sub.same ?_ (.int i _) ⟨rfl,rfl,rfl⟩ h)
 obtain ⟨m',⟨cl,a,b,c⟩,f⟩:=W
 exact ⟨m',⟨cl,a,b,c⟩,f⟩
theorem ev_bool {c:Bool}{k:Nat}{pos:Pos}{Q:V→St→Prop}(h:Q (.bool c) σ):EV w K fn d m (.Constant (.bool c) k pos) σ Q :=
 fun _ _ _ _ _ W k=>Constant_bool (k _ _ _ _ _ Sub.same W (.bool c) Sm.same h)
theorem ev_none {k:Nat}{pos:Pos}{Q:V→St→Prop}(h:Q .none σ):EV w K fn d m (.Constant .none k pos) σ Q :=
 fun _ _ _ _ _ W k=>Constant_none (k _ _ _ _ _ Sub.same W .none Sm.same h)
end rules
end NN
end
section
open PySem PySem.W PySem.Calls PyProof.Rows
namespace NN
variable {w:World}{K:Frag}{fn:FnS}{d:Nat}{m:Mp}{σ:St}
theorem Ld.tok {X:Fx w K fn d}{m':PySem.Str→Option Value}{z:Led}{s:Shared}(W:Ld X m' z σ s)(t:Nat):Ld X m' z σ {s with toks:=t} :=
 let ⟨cl,a,b,c,e⟩:=W;⟨cl,a,b,c,e⟩
theorem Wd.tok {X:Fx w K fn d}{z:Led}{s:Shared}(W:Wd X m σ z s)(t:Nat):Wd X m σ z {s with toks:=t} :=
 let ⟨m',a,b⟩:=W;⟨m',a.tok t,b⟩
theorem Sm.tok {s:Shared}{t:Nat}:Sm s {s with toks:=t}:=⟨rfl,rfl,rfl⟩
theorem Ld.fr {X:Fx w K fn d}{m':PySem.Str→Option Value}{z:Led}{s:Shared}(W:Ld X m' z σ s):Fr X.h₀ X.L s.heap m':=let ⟨_,a,_⟩:=W;a
theorem Ld.keep {X:Fx w K fn d}{m':PySem.Str→Option Value}{z:Led}{s:Shared}(W:Ld X m' z σ s):K.In s.heap:=X.X.keeps W.fr.keep
theorem Wd.keep {X:Fx w K fn d}{z:Led}{s:Shared}(W:Wd X m σ z s):K.In s.heap:=let ⟨_,a,_⟩:=W;a.keep
theorem Ld.zget {X:Fx w K fn d}{m':PySem.Str→Option Value}{z:Led}{s:Shared}(W:Ld X m' z σ s){p:Addr×Obj}(h:p∈z):s.heap.get? p.1=some p.2 :=
 let ⟨_,_,b,_⟩:=W;(b p (List.mem_append_right _ (List.mem_append_left _ h))).1
theorem Ld.xget {X:Fx w K fn d}{m':PySem.Str→Option Value}{z:Led}{s:Shared}(W:Ld X m' z σ s){p:Addr×Obj}(h:p∈X.ext):s.heap.get? p.1=some p.2 :=
 let ⟨_,_,b,_⟩:=W;(b p (List.mem_append_right _ (List.mem_append_right _ h))).1
theorem Wd.zget {X:Fx w K fn d}{z:Led}{s:Shared}(W:Wd X m σ z s){p:Addr×Obj}(h:p∈z):s.heap.get? p.1=some p.2:=let ⟨_,a,_⟩:=W;a.zget h
theorem Ld.push {X:Fx w K fn d}{m':PySem.Str→Option Value}{z:Led}{s:Shared}(W:Ld X m' z σ s)(o:Obj)(hf:o.isFreed=false) :
  Ld X m' ((s.heap.objs.size,o)::z) σ {s with heap:=s.heap.push o}:=by
 obtain ⟨cl,F,N,nd,S⟩:=W
 have N':=N.push F o hf
 refine ⟨cl,F.push o,fun p hp=>N' p ?_,?_,S.mono fun p hp=>List.mem_cons_of_mem _ hp⟩
 ·rcases List.mem_append.mp hp with h | h
  ·exact List.mem_cons_of_mem _ (List.mem_append_left _ h)
  ·rcases List.mem_cons.mp h with h | h
   ·rw [h];exact List.mem_cons_self
   ·exact List.mem_cons_of_mem _ (List.mem_append_right _ h)
 ·have perm:(cl++(s.heap.objs.size,o)::(z++X.ext)).Perm ((s.heap.objs.size,o)::(cl++(z++X.ext))):=List.perm_middle
  refine (perm.map (·.1)).nodup_iff.mpr ?_
  rw [List.map_cons]
  refine List.nodup_cons.mpr ⟨fun hm=>?_,nd⟩
  refine xEAoo (List.mem_map.mp hm) fun p hp e=>?_
  exact absurd (Heap.lt_size (N p hp).1) (by rw [e];exact Nat.lt_irrefl _)
theorem Wd.push {X:Fx w K fn d}{z:Led}{s:Shared}(W:Wd X m σ z s)(o:Obj)(hf:o.isFreed=false) :
  Wd X m σ ((s.heap.objs.size,o)::z) {s with heap:=s.heap.push o} :=
 let ⟨m',a,b⟩:=W;⟨m',a.push o hf,b.mono fun _ h=>List.mem_cons_of_mem _ h⟩
theorem nodup_cons_key {cl z:Led}{h:Heap}{h₀:Heap}{L:Addr}{o:Obj}{a:Addr}(N:News h₀ L h (cl++z))(nd:((cl++z).map (·.1)).Nodup)(lt:h.objs.size≤a) :
  (((a,o)::(cl++z)).map (·.1)).Nodup:=by
 rw [List.map_cons]
 refine List.nodup_cons.mpr ⟨fun hm=>?_,nd⟩
 refine xEAoo (List.mem_map.mp hm) fun p hp e=>?_
 have:=Heap.lt_size (N p hp).1
 rw [e] at this
 exact absurd this (Nat.not_lt.mpr lt)
theorem Ld.alloc {X:Fx w K fn d}{m':PySem.Str→Option Value}{z:Led}{s:Shared}(W:Ld X m' z σ s){o:Obj}(hf:o.isFreed=false){c:Cell}
  (hc:CR z (s.heap.objs.size,c) [(s.heap.objs.size,o)]):Ld X m' z ((s.heap.objs.size,c)::σ) {s with heap:=s.heap.push o}:=by
 obtain ⟨cl,F,N,nd,S⟩:=W
 exact ⟨[(s.heap.objs.size,o)]++cl,F.push o,N.push F o hf,nodup_cons_key N nd (Nat.le_refl _),.cons hc S⟩
theorem Wd.alloc {X:Fx w K fn d}{z:Led}{s:Shared}(W:Wd X m σ z s){o:Obj}(hf:o.isFreed=false){c:Cell}
  (hc:CR z (s.heap.objs.size,c) [(s.heap.objs.size,o)]):Wd X m ((s.heap.objs.size,c)::σ) z {s with heap:=s.heap.push o} :=
 let ⟨m',a,b⟩:=W;⟨m',a.alloc hf hc,b⟩
theorem lookup_of_mem {β:Type}:∀ {l:List (PySem.Str×β)} {x:PySem.Str} {v:β},(l.map (·.1)).Nodup→(x,v)∈l→l.lookup x=some v
 |(y,u)::l,x,v,nd,h=>by
  rw [List.map_cons,List.nodup_cons] at nd
  rcases List.mem_cons.mp h with e | h
  ·cases e;simp [List.lookup_cons]
  ·have ne:x≠y:=fun q=>nd.1 (q▸List.mem_map.mpr ⟨_,h,rfl⟩)
   rw [List.lookup_cons,beq_eq_false_iff_ne.mpr ne]
   exact lookup_of_mem nd.2 h
inductive Has:Nms→Mp→PySem.Str→V→Prop
 |head {x:PySem.Str} {ns:Nms} {v:V} {m:Mp}:Has ((x,.local)::ns) (some v::m) x v
 |tail {y:PySem.Str×NameKind} {ns:Nms} {o:Option V} {m:Mp} {x:PySem.Str} {v:V}:Has ns m x v→Has (y::ns) (o::m) x v
theorem Has.mem {ns:Nms}{m:Mp}{x:PySem.Str}{v:V}(h:Has ns m x v):(x,NameKind.local)∈ns:=by
 induction h with
 |head=>exact .head _
 |tail _ ih=>exact .tail _ ih
theorem Has.get {z:Led}{m':PySem.Str→Option Value}{ns:Nms}{m:Mp}{x:PySem.Str}{v:V}(h:Has ns m x v)(R:MR z m' ns m):∃ r,m' x=some r∧VR z v r:=by
 induction h with
 |head=>cases R with | yes a b _=>exact ⟨_,a,b⟩
 |tail _ ih=>cases R with
  |no c=>exact ih c
  |yes _ _ c=>exact ih c
inductive Put:Nms→Mp→PySem.Str→V→Mp→Prop
 |head {x:PySem.Str} {ns:Nms} {o:Option V} {v:V} {m:Mp}:Put ((x,.local)::ns) (o::m) x v (some v::m)
 |tail {y:PySem.Str×NameKind} {ns:Nms} {o:Option V} {m:Mp} {x:PySem.Str} {v:V} {m₁:Mp}:Put ns m x v m₁→Put (y::ns) (o::m) x v (o::m₁)
theorem Put.mem {ns:Nms}{m m₁:Mp}{x:PySem.Str}{v:V}(h:Put ns m x v m₁):(x,NameKind.local)∈ns:=by
 induction h with
 |head=>exact .head _
 |tail _ ih=>exact .tail _ ih
theorem MR.other {z:Led}{m':PySem.Str→Option Value}{x:PySem.Str}{r:Value}{ns:Nms}{m:Mp}(R:MR z m' ns m)(hx:x∉ns.map (·.1)):MR z (fun y=>if y=x then some r else m' y) ns m:=by
 induction R with
 |nil=>exact .nil
 |no _ ih=>exact .no (ih fun h=>hx (by rw [List.map_cons];exact .tail _ h))
 |yes a b _ ih =>
  refine .yes ?_ b (ih fun h=>hx (by rw [List.map_cons];exact .tail _ h))
  rw [if_neg]
  ·exact a
  ·rintro rfl;exact hx (by rw [List.map_cons];exact .head _)
theorem Put.put {z:Led}{m':PySem.Str→Option Value}{r:Value}{ns:Nms}{m m₁:Mp}{x:PySem.Str}{v:V}(h:Put ns m x v m₁)(nd:(ns.map (·.1)).Nodup)(R:MR z m' ns m)(hv:VR z v r) :
  MR z (fun y=>if y=x then some r else m' y) ns m₁:=by
 induction h with
 |head =>
  rw [List.map_cons,List.nodup_cons] at nd
  cases R with
  |no c=>exact .yes (if_pos rfl) hv (c.other nd.1)
  |yes _ _ c=>exact .yes (if_pos rfl) hv (c.other nd.1)
 |tail hp ih =>
  rw [List.map_cons,List.nodup_cons] at nd
  cases R with
  |no c=>exact .no (ih nd.2 c hv)
  |yes a b c =>
   refine .yes ?_ b (ih nd.2 c hv)
   rw [if_neg]
   ·exact a
   ·rintro rfl;exact nd.1 (List.mem_map.mpr ⟨_,hp.mem,rfl⟩)
theorem kind_of {fn:FnS}{X:Fx w K fn d}{x:PySem.Str}{k:NameKind}(nd:(fn.sc.names.map (·.1)).Nodup)(h:(x,k)∈fn.sc.names) :
  X.env.kindOf x=some k:=by
 unfold Env.kindOf;rw [X.hsc];exact lookup_of_mem nd h
theorem Fx.hek (X:Fx w K fn d):X.env.scope.kind=.function:=by rw [X.hsc];exact X.hk
theorem Ld.loc {X:Fx w K fn d}{m':PySem.Str→Option Value}{z:Led}{s:Shared}(W:Ld X m' z σ s)(R:MX X z m' m):s.heap.Ns X.env.locals (X.look m'):=by
 unfold Fx.look
 cases hc:fn.comp with
 |false=>rw [X.hloc hc];simpa using W.fr.ns
 |true=>simpa using X.hco _ (W.xget (X.hce hc))
noncomputable abbrev notDebug (x:PySem.Str):Prop:=(x == ("__debug__" : PySem.Str))=false
theorem ev_local {x:PySem.Str}{pos:Pos}{v:V}{Q:V→St→Prop}{ns:Nms}(nd:(fn.sc.names.map (·.1)).Nodup)(hn:fn.sc.names=ns)(hx:Has ns m x v)(hb:notDebug x)(h:Q v σ) :
  EV w K fn d m (.Name x pos) σ Q:=by
 subst hn
 intro X z s QR E W k
 obtain ⟨m',W',R⟩:=id W
 refine xEAoo (hx.get R.r) fun r e hv=>?_
 exact wpAny_Name (wpAny_loadName_local X.hek (kind_of nd hx.mem) (W'.loc R) e (k r v σ z s Sub.same W hv Sm.same h)) hb
theorem ev_global {x:PySem.Str}{pos:Pos}{a:Value}{v:V}{Q:V→St→Prop}{ns:Nms}(nd:(fn.sc.names.map (·.1)).Nodup)(hn:fn.sc.names=ns)(hx:(x,NameKind.globalImplicit)∈ns)(hg:nsIn K mainGlobals x=some (some a))
  (hv:VR [] v a) (hb:notDebug x) (h:Q v σ):EV w K fn d m (.Name x pos) σ Q:=by
 subst hn
 intro X z s QR E W k
 obtain ⟨m',W',R⟩:=id W
 refine Name_function_global X.hek (kind_of nd hx) (loadGlobal_global (by rw [X.hgl];exact X.T.g.keeps W'.fr.keep) (mg_of X.X X.T.g hg) ?_) hb
 exact k _ v σ z s Sub.same W (hv.mono fun _ h=>absurd h List.not_mem_nil) Sm.same h
theorem ev_builtin {x:PySem.Str}{pos:Pos}{a:Value}{v:V}{Q:V→St→Prop}{ns:Nms}(nd:(fn.sc.names.map (·.1)).Nodup)(hn:fn.sc.names=ns)(hx:(x,NameKind.globalImplicit)∈ns)(hg:nsIn K mainGlobals x=some none)
  (hb₁:bootBuiltins x=some a) (hne:x ≠ "__name__") (hv:VR [] v a) (hb:notDebug x) (h:Q v σ):EV w K fn d m (.Name x pos) σ Q:=by
 subst hn
 intro X z s QR E W k
 obtain ⟨m',W',R⟩:=id W
 refine Name_function_global X.hek (kind_of nd hx) (loadGlobal_builtin (by rw [X.hgl];exact X.T.g.keeps W'.fr.keep) (mg_none_of X.X X.T.g hg) (by rw [X.hbu];exact X.T.b.keeps W'.fr.keep) ((X.T.builtins x hne).trans hb₁) ?_) hb
 exact k _ v σ z s Sub.same W (hv.mono fun _ h=>absurd h List.not_mem_nil) Sm.same h
noncomputable def OP2 (w:World)(K:Frag)(σ:St)(t:Value→Value→Sem Value)(a b v:V):Prop :=
 ∀ (fn:FnS) (d:Nat) (X:Fx w K fn d) (m:Mp) (z:Led) (ra rb:Value) (s:Shared) (QR:Value→Shared→Prop) (E:Value→Shared→Prop),Wd X m σ z s →
  VR z a ra→VR z b rb→(∀ r tk,VR z v r→QR r {s with toks:=tk})→wpAny (M w) X.A (t ra rb) QR E s
theorem ev_binop {l r:Expr}{op:Operator}{pos:Pos}{Q:V→St→Prop}
  (h:EV w K fn d m l σ fun a σ₁=>EV w K fn d m r σ₁ fun b σ₂=>∃ v,OP2 w K σ₂ (binaryOp op) a b v∧Q v σ₂):EV w K fn d m (.BinOp l op r pos) σ Q:=by
 intro X z s QR E W k
 refine wpAny_BinOp (h X z s _ E W ?_)
 intro ra a σ₁ z₁ s₁ sub₁ W₁ va sm₁ h₁
 refine h₁ X z₁ s₁ _ E W₁ ?_
 rintro rb b σ₂ z₂ s₂ sub₂ W₂ vb sm₂ ⟨v,ho,hq⟩
 refine ho fn d X m z₂ ra rb s₂ _ E W₂ (va.mono sub₂) vb fun r tk hv=>?_
 exact k r v σ₂ z₂ _ (sub₁.trans sub₂) (W₂.tok tk) hv ((sm₁.trans sm₂).trans Sm.tok) hq
theorem ev_compare1 {l r:Expr}{op:CmpOp}{pos:Pos}{Q:V→St→Prop}
  (h:EV w K fn d m l σ fun a σ₁=>EV w K fn d m r σ₁ fun b σ₂=>∃ v,OP2 w K σ₂ (compareOp op) a b v∧Q v σ₂)
  (hm:behindInMarks op r=false):EV w K fn d m (.Compare l [op] [r] pos) σ Q:=by
 intro X z s QR E W k
 refine wpAny_Compare1 (h X z s _ E W ?_) hm
 intro ra a σ₁ z₁ s₁ sub₁ W₁ va sm₁ h₁
 refine h₁ X z₁ s₁ _ E W₁ ?_
 rintro rb b σ₂ z₂ s₂ sub₂ W₂ vb sm₂ ⟨v,ho,hq⟩
 refine ho fn d X m z₂ ra rb s₂ _ E W₂ (va.mono sub₂) vb fun r tk hv=>?_
 exact k r v σ₂ z₂ _ (sub₁.trans sub₂) (W₂.tok tk) hv ((sm₁.trans sm₂).trans Sm.tok) hq
theorem ts_compare1 {l r:Expr}{op:CmpOp}{pos:Pos}{Q:Bool→St→Prop}
  (h:EV w K fn d m l σ fun a σ₁=>EV w K fn d m r σ₁ fun b σ₂=>∃ c,OP2 w K σ₂ (compareOp op) a b (.bool c)∧Q c σ₂)
  (hm:behindInMarks op r=false):TS w K fn d m (.Compare l [op] [r] pos) σ Q:=by
 intro X z s QR E W k
 refine wpAny_isTrue_Compare1 (h X z s _ E W ?_) hm
 intro ra a σ₁ z₁ s₁ sub₁ W₁ va sm₁ h₁
 refine h₁ X z₁ s₁ _ E W₁ ?_
 rintro rb b σ₂ z₂ s₂ sub₂ W₂ vb sm₂ ⟨v,ho,hq⟩
 refine ho fn d X m z₂ ra rb s₂ _ E W₂ (va.mono sub₂) vb fun r tk hv=>?_
 exact hv.i_bool (wpAny_truthy_bool (k _ σ₂ z₂ _ (sub₁.trans sub₂) (W₂.tok tk) ((sm₁.trans sm₂).trans Sm.tok) hq))
theorem op_add {a b:Int}:OP2 w K σ (binaryOp .Add) (.int a) (.int b) (.int (a+b)):=by
 intro fn d X m z ra rb s QR E _ h1 h2 k;exact h1.i_int fun _=>h2.i_int fun _=>add_int (k _ _ (.int _ _))
theorem op_sub {a b:Int}:OP2 w K σ (binaryOp .Sub) (.int a) (.int b) (.int (a - b)):=by
 intro fn d X m z ra rb s QR E _ h1 h2 k;exact h1.i_int fun _=>h2.i_int fun _=>sub_int (k _ _ (.int _ _))
theorem op_mul {a b:Int}(ok:IntMulOk a b):OP2 w K σ (binaryOp .Mult) (.int a) (.int b) (.int (a*b)):=by
 intro fn d X m z ra rb s QR E _ h1 h2 k;exact h1.i_int fun _=>h2.i_int fun _=>mul_int (k _ _ (.int _ _)) ok
theorem op_mod {a b:Int}(ok:b≠0):OP2 w K σ (binaryOp .Mod) (.int a) (.int b) (.int (Int.fmod a b)):=by
 intro fn d X m z ra rb s QR E _ h1 h2 k;exact h1.i_int fun _=>h2.i_int fun _=>mod_int' ok (k _ _ (.int _ _))
theorem op_div {a b:Int}(ok:b≠0)(py:Builtin.divisionGoesByPylong a b=false):OP2 w K σ (binaryOp .FloorDiv) (.int a) (.int b) (.int (Int.fdiv a b)):=by
 intro fn d X m z ra rb s QR E _ h1 h2 k;exact h1.i_int fun _=>h2.i_int fun _=>floordiv_int ok (k _ _ (.int _ _)) (.inl py)
theorem op_pow {a n:Int}(h0:0≤n)(ok:(Builtin.Int.intBits a:Int)*n≤2^27):OP2 w K σ (binaryOp .Pow) (.int a) (.int n) (.int (a^n.toNat)):=by
 intro fn d X m z ra rb s QR E _ h1 h2 k;exact h1.i_int fun _=>h2.i_int fun _=>pow_int h0 ok (k _ _ (.int _ _))
theorem op_adds {a b:PySem.Str}(ok:a.length+b.length≤sizeLine):OP2 w K σ (binaryOp .Add) (.str a) (.str b) (.str (a++b)):=by
 intro fn d X m z ra rb s QR E _ h1 h2 k;exact h1.i_str fun _=>h2.i_str fun _=>add_str (fun t tk=>k _ _ (.str _ t)) ok
theorem op_eq {a b:Int}:OP2 w K σ (compareOp .Eq) (.int a) (.int b) (.bool (a == b)):=by
 intro fn d X m z ra rb s QR E _ h1 h2 k;exact h1.i_int fun _=>h2.i_int fun _=>eq_int (k _ s.toks (.bool _))
theorem op_ne {a b:Int}:OP2 w K σ (compareOp .NotEq) (.int a) (.int b) (.bool (a != b)):=by
 intro fn d X m z ra rb s QR E _ h1 h2 k;exact h1.i_int fun _=>h2.i_int fun _=>ne_int (k _ s.toks (.bool _))
theorem op_lt {a b:Int}:OP2 w K σ (compareOp .Lt) (.int a) (.int b) (.bool (decide (a<b))):=by
 intro fn d X m z ra rb s QR E _ h1 h2 k;exact h1.i_int fun _=>h2.i_int fun _=>lt_int (k _ s.toks (.bool _))
theorem op_le {a b:Int}:OP2 w K σ (compareOp .LtE) (.int a) (.int b) (.bool (decide (a≤b))):=by
 intro fn d X m z ra rb s QR E _ h1 h2 k;exact h1.i_int fun _=>h2.i_int fun _=>le_int (k _ s.toks (.bool _))
theorem op_gt {a b:Int}:OP2 w K σ (compareOp .Gt) (.int a) (.int b) (.bool (decide (a > b))):=by
 intro fn d X m z ra rb s QR E _ h1 h2 k;exact h1.i_int fun _=>h2.i_int fun _=>gt_int (k _ s.toks (.bool _))
theorem op_ge {a b:Int}:OP2 w K σ (compareOp .GtE) (.int a) (.int b) (.bool (decide (a ≥ b))):=by
 intro fn d X m z ra rb s QR E _ h1 h2 k;exact h1.i_int fun _=>h2.i_int fun _=>ge_int (k _ s.toks (.bool _))
theorem op_eqs {a b:PySem.Str}:OP2 w K σ (compareOp .Eq) (.str a) (.str b) (.bool (a == b)):=by
 intro fn d X m z ra rb s QR E _ h1 h2 k;exact h1.i_str fun _=>h2.i_str fun _=>eq_str (k _ s.toks (.bool _))
theorem op_nes {a b:PySem.Str}:OP2 w K σ (compareOp .NotEq) (.str a) (.str b) (.bool (a != b)):=by
 intro fn d X m z ra rb s QR E _ h1 h2 k;exact h1.i_str fun _=>h2.i_str fun _=>ne_str (k _ s.toks (.bool _))
theorem op_ins {a b:PySem.Str}:OP2 w K σ (compareOp .In) (.str a) (.str b) (.bool (!(Builtin.Str.occurrences b a 0 b.length 1).isEmpty)):=by
 intro fn d X m z ra rb s QR E _ h1 h2 k;exact h1.i_str fun _=>h2.i_str fun _=>in_str (k _ s.toks (.bool _))
end NN
end
section
open PySem PySem.W PySem.Calls PyProof.Rows
namespace NN
variable {w:World}{K:Frag}{fn:FnS}{d:Nat}{m:Mp}{σ:St}
inductive Loc:List PySem.Str→List V→PySem.Str→V→Prop
 |head {x:PySem.Str} {ns:List PySem.Str} {v:V} {vs:List V}:Loc (x::ns) (v::vs) x v
 |tail {y:PySem.Str} {ns:List PySem.Str} {u:V} {vs:List V} {x:PySem.Str} {v:V}:Loc ns vs x v→Loc (y::ns) (u::vs) x v
theorem Loc.mem {ns:List PySem.Str}{vs:List V}{x:PySem.Str}{v:V}(h:Loc ns vs x v):x∈ns:=by
 induction h with
 |head=>exact .head _
 |tail _ ih=>exact .tail _ ih
inductive Sto:List PySem.Str→List V→PySem.Str→V→List V→Prop
 |head {x:PySem.Str} {ns:List PySem.Str} {u v:V} {vs:List V}:Sto (x::ns) (u::vs) x v (v::vs)
 |new {x:PySem.Str} {ns:List PySem.Str} {v:V}:Sto (x::ns) [] x v [v]
 |tail {y:PySem.Str} {ns:List PySem.Str} {u:V} {vs vs':List V} {x:PySem.Str} {v:V}:Sto ns vs x v vs'→Sto (y::ns) (u::vs) x v (u::vs')
theorem Sto.mem {ns:List PySem.Str}{vs vs':List V}{x:PySem.Str}{v:V}(h:Sto ns vs x v vs'):x∈ns:=by
 induction h with
 |head=>exact .head _
 |new=>exact .head _
 |tail _ ih=>exact .tail _ ih
theorem ne_head {y x:PySem.Str}{ns:List PySem.Str}(n1:y∉ns)(h:x∈ns):(y == x)=false:=beq_eq_false_iff_ne.mpr fun q=>n1 (q▸h)
theorem isStr_key {e:DictEntry}{k:PySem.Str}{t:Tok}(h:e.key=.str k t)(x:PySem.Str):e.key.isStr x=(k == x):=by rw [h];rfl
set_option tactic.hygienic true in
theorem ER.get {z:Led}{ns:List PySem.Str}{vs:List V}{es:List DictEntry}(R:ER z ns vs es):∀ {x:PySem.Str} {v:V},ns.Nodup→Loc ns vs x v→∃ r,getL x es=some (some r)∧VR z v r:=by
 intro x v nd h
 induction h generalizing es with
 |head =>
  cases R with
  |cons a b c=>exact ⟨_,by unfold getL;rw [List.find?_cons,isStr_key a];simp,b⟩
 |tail h ih =>
  cases R with
  |cons a b c =>
   refine xAoo (List.nodup_cons.mp nd) fun n1 n2=>?_
   refine xEAoo (ih c n2) fun r e hv=>?_
   refine ⟨r,?_,hv⟩
   unfold getL at e ⊢
   rw [List.find?_cons,isStr_key a,ne_head n1 h.mem]
   rename_i e₀ es₀ t₀
   have hk:e₀.refKey=false:=by unfold DictEntry.refKey;rw [a]
   rw [List.any_cons,hk,Bool.false_or]
   exact e
theorem ER.none_of {z:Led}{ns:List PySem.Str}{vs:List V}{es:List DictEntry}(R:ER z ns vs es):∀ {x:PySem.Str},x∉ns→getL x es=some none:=by
 intro x hx
 have h1:es.find? (·.key.isStr x)=none:=by
  rw [List.find?_eq_none]
  intro e he
  induction es generalizing ns vs with
  |nil=>cases he
  |cons e' es ih =>
   cases R with
   |cons a b c =>
    rcases List.mem_cons.mp he with rfl | he
    ·rw [isStr_key a];simp;rintro rfl;exact hx (.head _)
    ·exact ih c (fun h=>hx (.tail _ h)) he
 have h2:es.any (·.refKey)=false:=by
  clear h1 hx
  induction es generalizing ns vs with
  |nil=>rfl
  |cons e' es ih =>
   cases R with
   |cons a b c =>
    rw [List.any_cons,ih c]
    unfold DictEntry.refKey;rw [a]
    rfl
 unfold getL
 rw [h1]
 simp only
 rw [h2]
 rfl
theorem ER.isSome {z:Led}{ns:List PySem.Str}{vs:List V}{es:List DictEntry}(R:ER z ns vs es)(x:PySem.Str):(getL x es).isSome=true:=by
 have h2:es.any (·.refKey)=false:=by
  induction es generalizing ns vs with
  |nil=>rfl
  |cons e' es ih =>
   cases R with
   |cons a b c =>
    rw [List.any_cons,ih c]
    unfold DictEntry.refKey;rw [a]
    rfl
 unfold getL
 split
 ·rfl
 ·rw [h2];rfl
theorem ER.put {z:Led}{ns:List PySem.Str}{vs vs':List V}{es:List DictEntry}{x:PySem.Str}{v:V}{r:Value}{hs:Int}{t:Tok}(R:ER z ns vs es)(nd:ns.Nodup)(h:Sto ns vs x v vs')(hv:VR z v r) :
  ER z ns vs' (putL x hs (.str x t) r es):=by
 induction h generalizing es with
 |head =>
  cases R with
  |cons a b c =>
   unfold putL;rw [isStr_key a,beq_self_eq_true,if_pos rfl]
   exact .cons a hv c
 |new=>cases R;exact .cons rfl hv .nil
 |tail h ih =>
  cases R with
  |cons a b c =>
   refine xAoo (List.nodup_cons.mp nd) fun n1 n2=>?_
   unfold putL;rw [isStr_key a,ne_head n1 h.mem,if_neg Bool.false_ne_true]
   exact .cons a b (ih c n2 hv)
theorem ER.len {z:Led}{ns:List PySem.Str}{vs:List V}{es:List DictEntry}(H:ER z ns vs es):es.length≤ns.length:=ER.ind (P:=fun ns _ es=>es.length≤ns.length) (Nat.zero_le _) (fun _ _ _ ih=>Nat.succ_le_succ ih) H
theorem SR.mem {z:Led}{cl:Led}(S:SR z σ cl){p:Addr×Cell}(h:p∈σ):∃ os,CR z p os∧∀ q∈os,q∈cl:=by
 induction S with
 |nil=>cases h
 |cons a _ ih =>
  rcases List.mem_cons.mp h with rfl | h
  ·exact ⟨_,a,fun q hq=>List.mem_append_left _ hq⟩
  ·refine xEAoo (ih h) fun os c s=>?_
   exact ⟨os,c,fun q hq=>List.mem_append_right _ (s q hq)⟩
inductive Upc (a:Addr)(c c':Cell):St→St→Prop
 |head {σ:St}:Upc a c c' ((a,c)::σ) ((a,c')::σ)
 |tail {p:Addr×Cell} {σ σ':St}:Upc a c c' σ σ'→Upc a c c' (p::σ) (p::σ')
theorem Upc.split {a:Addr}{c c':Cell}{σ σ':St}(U:Upc a c c' σ σ'){z cl:Led}(S:SR z σ cl) :
  ∃ pre os post,cl=pre++os++post∧CR z (a,c) os∧∀ z' os',Sub z z'→CR z' (a,c') os'→SR z' σ' (pre++os'++post):=by
 induction U generalizing cl with
 |head =>
  exact S.i_cons fun os₁ cl₁ x y=>⟨[],os₁,cl₁,rfl,x,fun z' os' sb h=>.cons h (y.mono sb)⟩
 |tail _ ih =>
  refine S.i_cons fun os₁ cl₁ x y=>?_
  ·refine xEEEAoAoo (ih y) fun pre os post er1 h1 h2=>?_;subst er1
   refine ⟨os₁++pre,os,post,by simp,h1,fun z' os' sb h=>?_⟩
   rw [List.append_assoc,List.append_assoc]
   have:=h2 z' os' sb h
   rw [List.append_assoc] at this
   exact .cons (x.mono sb) this
theorem upd_of_nodup {d':Addr}{o o':Obj}:∀ {pre post:Led},((pre++(d',o)::post).map (·.1)).Nodup→Upd d' o o' (pre++(d',o)::post) (pre++(d',o')::post)
 |[],post,nd=>by
  rw [List.nil_append,List.map_cons,List.nodup_cons] at nd
  exact .head fun p hp e=>nd.1 (List.mem_map.mpr ⟨p,hp,e⟩)
 |p::pre,post,nd=>by
  rw [List.cons_append,List.map_cons,List.nodup_cons] at nd
  exact .tail (fun e=>nd.1 (by rw [e];exact List.mem_map.mpr ⟨(d',o),by simp,rfl⟩)) (upd_of_nodup nd.2)
theorem keys_same {d':Addr}{o o':Obj}{pre post:Led}:(pre++(d',o)::post).map (·.1)=(pre++(d',o')::post).map (·.1):=by simp
theorem Wd.upc {X:Fx w K fn d}{z:Led}{s:Shared}(W:Wd X m σ z s){a:Addr}{c c':Cell}{σ':St}(U:Upc a c c' σ σ') :
  ∃ os,CR z (a,c) os∧(∀ p∈os,s.heap.get? p.1=some p.2)∧∀ (d':Addr) (o o':Obj) (pre post:Led),os=pre++(d',o)::post→CR z (a,c') (pre++(d',o')::post) →
   ∃ m' news news',Fr X.h₀ X.L s.heap m'∧News X.h₀ X.L s.heap news∧(∀ p∈os,p∈news)∧Upd d' o o' news news'∧∀ h' tk,Fr X.h₀ X.L h' m'→News X.h₀ X.L h' news'→Wd X m σ' z {s with heap:=h',toks:=tk}:=by
 obtain ⟨m',⟨cl,F,N,nd,S⟩,R⟩:=W
 refine xEEEAoAoo (U.split S) fun p₁ os p₂ er1 hc back=>?_;subst er1
 refine ⟨os,hc,fun p hp=>(N p (by simp [hp])).1,?_⟩
 rintro d' o o' pre post rfl hc'
 have e1:p₁++(pre++(d',o)::post)++p₂++(z++X.ext)=(p₁++pre)++(d',o)::(post++p₂++(z++X.ext)):=by simp
 have e2:p₁++(pre++(d',o')::post)++p₂++(z++X.ext)=(p₁++pre)++(d',o')::(post++p₂++(z++X.ext)):=by simp
 refine ⟨m',p₁++(pre++(d',o)::post)++p₂++(z++X.ext),p₁++(pre++(d',o')::post)++p₂++(z++X.ext),F,N,fun p hp=>?_,?_,fun h' tk F' N'=>⟨m',⟨_,F',N',?_,back z _ Sub.same hc'⟩,R⟩⟩
 ·exact List.mem_append_left _ (List.mem_append_left _ (List.mem_append_right _ hp))
 ·rw [e1,e2];exact upd_of_nodup (by rw [←e1];exact nd)
 ·have e3:(p₁++(pre++(d',o')::post)++p₂++(z++X.ext)).map (·.1)=(p₁++(pre++(d',o)::post)++p₂++(z++X.ext)).map (·.1):=by rw [e1,e2];exact keys_same.symm
  rw [e3];exact nd
structure FieldIn (K:Frag)(C:Addr)(x:PySem.Str):Prop where
 p:plainGet K C x=true
 h:hasDictIn K C=true
 f:findIn K (.ref C) x=some none
noncomputable def GA (w:World)(K:Frag)(σ:St)(ov:V)(x:PySem.Str)(v:V):Prop :=
 ∀ (fn:FnS) (d:Nat) (X:Fx w K fn d) (m:PySem.Str→Option Value) (z:Led) (s:Shared) (ro:Value) (QR:Value→Shared→Prop) (E:Value→Shared→Prop),Ld X m z σ s→VR z ov ro →
  (∀ r tk,VR z v r→QR r {s with toks:=tk})→wpAny (M w) X.A (getAttr ro x true) QR E s
theorem handed_of {z:Led}{v:V}{r:Value}(h:VR z v r)(hb:∀ n,v≠.bi n)(hr:∀ u,v≠.raw u):handedIn r=true:=by
 cases h<;>first | rfl | (exact absurd rfl (hb _)) | exact absurd rfl (hr _)
theorem ga_own {a C:Addr}{ns:List PySem.Str}{vs:List V}{x:PySem.Str}{v:V}(hσ:(a,Cell.ins C ns vs)∈σ)(hl:Loc ns vs x v)(hf:FieldIn K C x)(hb:∀ n,v≠.bi n)(hr:∀ u,v≠.raw u):GA w K σ (.own a) x v:=by
 intro fn d X m z s ro QR E W hv k
 refine hv.i_own ?_
 obtain ⟨cl,F,N,nd,S⟩:=W
 refine xEAoo (S.mem hσ) fun os hc sub=>?_
 revert sub
 refine hc.i_ins fun dx es n n1 R sub=>?_
 ·refine xEAoo (R.get n1 hl) fun r e vr=>?_
  exact get_own F X.X (InstAt.of_news N (List.mem_append_left _ (sub _ (.head _))) (List.mem_append_left _ (sub _ (.tail _ (.head _))))) hf.p hf.h hf.f rfl e (handed_of vr hb hr) (k _ _ vr)
theorem ga_inst {C:Addr}{ns:List PySem.Str}{vs:List V}{x:PySem.Str}{v:V}(hl:Loc ns vs x v)(hf:FieldIn K C x)(hb:∀ n,v≠.bi n)(hr:∀ u,v≠.raw u):GA w K σ (.inst C ns vs) x v:=by
 intro fn d X m z s ro QR E W hv k
 obtain ⟨cl,F,N,nd,S⟩:=W
 refine hv.i_inst fun b dx es n h1 h2 n1 R=>?_
 ·refine xEAoo (R.get n1 hl) fun r e vr=>?_
  exact get_own F X.X (InstAt.of_news N (List.mem_append_right _ (List.mem_append_left _ h1)) (List.mem_append_right _ (List.mem_append_left _ h2))) hf.p hf.h hf.f rfl e (handed_of vr hb hr) (k _ _ vr)
structure ClsAttr (K:Frag)(C:Addr)(x:PySem.Str)(a:Value):Prop where
 p:plainGet K C x=true
 h:hasDictIn K C=true
 f:findIn K (.ref C) x=some (some a)
 g:specialIn K a "__get__" = some none
 c:copiedNames.contains x=false
theorem ga_cls_inst {C:Addr}{ns:List PySem.Str}{vs:List V}{x:PySem.Str}{v:V}{a:Value}(hx:x∉ns)(hf:ClsAttr K C x a)(hv:VR [] v a)(hb:∀ n,v≠.bi n)(hr:∀ u,v≠.raw u):GA w K σ (.inst C ns vs) x v:=by
 intro fn d X m z s ro QR E W ho k
 obtain ⟨cl,F,N,nd,S⟩:=W
 exact ho.i_inst fun b dx es n h1 h2 n1 R=>get_cls F X.X (InstAt.of_news N (List.mem_append_right _ (List.mem_append_left _ h1)) (List.mem_append_right _ (List.mem_append_left _ h2))) hf.p hf.h hf.f hf.g (handed_of hv hb hr) hf.c (R.none_of hx) (k _ _ (hv.mono fun _ h=>absurd h List.not_mem_nil))
theorem ev_attr {o:Expr}{x:PySem.Str}{pos:Pos}{Q:V→St→Prop}(h:EV w K fn d m o σ fun ov σ₁=>∃ v,GA w K σ₁ ov x v∧Q v σ₁)
  (he:∀ env,eval (.Attribute o x pos) env=(do
   let ov ←eval o env
   standAt pos.atName
   let r ←holding [ov] (getAttr ov x true)
   letTemporaryGo o ov r
   pure r)):EV w K fn d m (.Attribute o x pos) σ Q:=by
 intro X z s QR E W k
 refine Attribute_any_ (h X z s _ E W ?_) (he _)
 rintro ro ov σ₁ z₁ s₁ sub₁ ⟨m',W₁,R₁⟩ vo sm₁ ⟨v,g,hq⟩
 exact g fn d X m' z₁ s₁ ro _ E W₁ vo fun r tk vr=>k r v σ₁ z₁ _ sub₁ ⟨m',W₁.tok tk,R₁⟩ vr (sm₁.trans Sm.tok) hq
structure SetIn (K:Frag)(C:Addr)(x:PySem.Str):Prop where
 s:findIn K (.ref C) "__setattr__" = some (some (.builtin "object.__setattr__"))
 p:plainOver K C=true
 t:takerIn K C x=some none
 h:hasDictIn K C=true
theorem e1_setattr {o value:Expr}{x:PySem.Str}{p' pos:Pos}{Q:Fl→Mp→St→Prop}
  (h:EV w K fn d m value σ fun v σ₁=>EV w K fn d m o σ₁ fun ov σ₂=>∃ a C ns vs vs' σ₃,ov=.own a∧Upc a (.ins C ns vs) (.ins C ns vs') σ₂ σ₃∧Sto ns vs x v vs'∧SetIn K C x∧ns.length≤900∧Q .next m σ₃)
  (hs:∀ env,swapsWith value (some (.Attribute o x p')) pos.line env=pure false):E1 w K fn d (.Assign [.Attribute o x p'] value pos) m σ Q:=by
 intro X z s QR E W k
 refine plainObj_wpAny_Assign_Attribute (h X z s _ E W ?_) (hs _)
 intro rv v σ₁ z₁ s₁ sub₁ W₁ vv sm₁ h₁
 refine h₁ X z₁ s₁ _ E W₁ ?_
 rintro ro ov σ₂ z₂ s₂ sub₂ W₂ vo sm₂ ⟨a,C,ns,vs,vs',σ₃,rfl,U,hst,hin,hlen,hq⟩
 refine vo.i_own ?_
 refine xEAoAoo (W₂.upc U) fun os hc hget hup=>?_
 revert hget hup
 refine hc.i_ins fun dx es n n1 R hget hup=>?_
 ·have R':ER z₂ ns vs' (putL x (PyData.keyHash w.params x) (.str x (s₂.toks+1)) rv es):=R.put n1 hst (vv.mono sub₂)
  refine xEEEAoAoAoAoo (hup dx (dictOf es n) (dictOf (putL x (PyData.keyHash w.params x) (.str x (s₂.toks+1)) rv es) (putN x es n)) [(a,instObj C dx)] [] rfl (.ins n1 R')) fun m' news news' F N hin' U' back=>?_
  refine set_dict F X.X N (InstAt.of_news N (hin' _ (.head _)) (hin' _ (.tail _ (.head _)))) rfl hin.s hin.p hin.t hin.h (R.isSome x) rfl U' ?_ ?_
  ·exact Nat.le_trans R'.len (by exact zz6)
  ·intro h' F' N'
   exact k .next .next m σ₃ z₂ _ (sub₁.trans sub₂) (back h' _ F' N') .next ((sm₁.trans sm₂).trans ⟨rfl,rfl,rfl⟩) hq
end NN
end
section
open PySem PySem.W PySem.Calls PyProof.Rows
namespace NN
variable {w:World}{K:Frag}{fn:FnS}{d:Nat}{m:Mp}{σ:St}
theorem CALL.use {f:Value}{args:List V}{Q:V→St→Prop}(h:CALL w K d f args σ Q){X:Fx w K fn d}{z:Led}{s:Shared}{rs:List Value}{QR:Value→Shared→Prop}{E:Value→Shared→Prop}
  (W:Wd X m σ z s) (hv:VRs z args rs) (k:∀ r v σ' z' s',Sub z z'→Wd X m σ' z' s'→VR z' v r→Sm s s'→Q v σ'→QR r s'):wpAny (M w) X.A (call f rs) QR E s:=by
 obtain ⟨m',L,R⟩:=W
 refine wpAny_call (h fn d X m' X.A z s rs _ rfl X.hh X.hd X.hu L hv fun r v σ' z' s' a b c e q=>?_)
 exact k r v σ' z' s' a ⟨m',b,R.mono a⟩ c e q
theorem evs_nil {Q:List V→St→Prop}(h:Q [] σ):EVs w K fn d m [] σ Q :=
 fun _ _ z s _ _ W k=>args_nil (k [] [] σ z s Sub.same W .nil Sm.same h)
theorem evs_cons {e:Expr}{es:List Expr}{Q:List V→St→Prop}(h:EV w K fn d m e σ fun v σ₁=>EVs w K fn d m es σ₁ fun vs σ₂=>Q (v::vs) σ₂)
  (he:∀ env,starEach (e::es) env=(false,eval e env)::starEach es env):EVs w K fn d m (e::es) σ Q:=by
 intro pos X z s QR E W k
 refine args_cons (h X z s _ E W ?_) (he _)
 intro r v σ₁ z₁ s₁ sub₁ W₁ hv sm₁ h₁
 refine h₁ pos X z₁ s₁ _ E W₁ ?_
 intro rs vs σ₂ z₂ s₂ sub₂ W₂ hvs sm₂ hq
 exact k (r::rs) (v::vs) σ₂ z₂ s₂ (sub₁.trans sub₂) W₂ (.cons (hv.mono sub₂) hvs) (sm₁.trans sm₂) hq
theorem callWith_any {pos:Pos}{f:Value}{first:List Value}{args:List Expr}{env:Env}{M':Model}{A:Around}{s:Shared}{Q:Value→Shared→Prop}{E:Value→Shared→Prop}(X:K.In s.heap)(hk:keepIn K f=true)
  (h:wpAny M' A (spliced (backTo pos (starEach args env))) (fun vs s₁=>K.In s₁.heap∧wpAny M' A (call f (first++vs)) Q E s₁) E s)
  (hp:((backTo pos (starEach args env)).any (·.1))=false):wpAny M' A (callWith pos f first (backTo pos (starEach args env)) []) Q E s:=by
 refine callWith_of (P:=fun h=>K.In h) (by rw [hp];rfl) (keeps_K hk) ?_
 cases hs:starEach args env with
 |nil =>
  rw [hs] at h
  exact fun Γ p hΓ=>evalArgs_nil3 (Q:=fun a s₁=>K.In s₁.heap∧wpAny M' A (call f (first++a.pos) a.kw) Q E s₁) (h Γ p hΓ) Γ p hΓ
 |cons x xs =>
  rw [hs] at h hp
  obtain ⟨st,t⟩:=x
  have hst:st=false:=by
   have:(st || _)=false:=hp
   exact (Bool.or_eq_false_iff.mp this).1
  subst hst
  exact evalArgs_plain h
noncomputable abbrev noStar (args:List Expr):Prop:=∀ pos env,((backTo pos (starEach args env)).any (·.1))=false
theorem ev_call {g:Expr}{args:List Expr}{pos:Pos}{a:Addr}{Q:V→St→Prop}
  (h:EV w K fn d m g σ fun gv σ₁=>gv=.glob a∧EVs w K fn d m args σ₁ fun vs σ₂=>CALL w K d (.ref a) vs σ₂ Q) (hk:keepIn K (.ref a)=true)
  (hn:noStar args) (he:∀ env,eval (.Call g args [] pos) env=(do callWith pos (←eval g env) [] (backTo pos (starEach args env)) (backToKw pos (keywordEach [] env)))) :
  EV w K fn d m (.Call g args [] pos) σ Q:=by
 intro X z s QR E W k
 refine Call_ (h X z s _ E W ?_) (he _)
 rintro rg gv σ₁ z₁ s₁ sub₁ W₁ hg sm₁ ⟨rfl,h₁⟩
 refine hg.i_glob ?_
 refine callWith_any W₁.keep hk (h₁ pos X z₁ s₁ _ E W₁ ?_) (hn _ _)
 intro rs vs σ₂ z₂ s₂ sub₂ W₂ hvs sm₂ h₂
 exact ⟨W₂.keep,h₂.use W₂ hvs fun r v σ' z' s' a b c e q=>k r v σ' z' s' ((sub₁.trans sub₂).trans a) b c ((sm₁.trans sm₂).trans e) q⟩
theorem ev_call_name {x:PySem.Str}{p:Pos}{args:List Expr}{pos:Pos}{a:Addr}{Q:V→St→Prop}
  (h:EV w K fn d m (.Name x p) σ fun gv σ₁=>gv=.glob a∧EVs w K fn d m args σ₁ fun vs σ₂=>CALL w K d (.ref a) vs σ₂ Q) (hk:keepIn K (.ref a)=true)
  (hn:noStar args):EV w K fn d m (.Call (.Name x p) args [] pos) σ Q:=ev_call h hk hn fun _=>rfl
structure MethIn (K:Frag)(C:Addr)(x:PySem.Str)(f:Addr):Prop where
 p:plainGet K C x=true
 fd:findIn K (.ref C) x=some (some (.ref f))
 t:isFn K (.ref f)=true
 k:keepIn K (.ref f)=true
inductive IsObj (σ:St):V→Addr→List PySem.Str→Prop
 |own {a C:Addr} {ns:List PySem.Str} {vs:List V}:(a,Cell.ins C ns vs)∈σ→IsObj σ (.own a) C ns
 |inst {C:Addr} {ns:List PySem.Str} {vs:List V}:IsObj σ (.inst C ns vs) C ns
theorem IsObj.at {ov:V}{C:Addr}{ns:List PySem.Str}(I:IsObj σ ov C ns){fn:FnS}{d:Nat}{X:Fx w K fn d}{m':PySem.Str→Option Value}{z:Led}{s:Shared}(W:Ld X m' z σ s){r:Value}(hv:VR z ov r) :
  ∃ x ox es n vs,r=.ref x∧InstAt s.heap x ox C (some (dictOf es n))∧ER z ns vs es:=by
 obtain ⟨cl,F,N,nd,S⟩:=W
 cases I with
 |own hσ =>
  refine hv.i_own ?_
  refine xEAoo (S.mem hσ) fun os hc sub=>?_
  revert sub
  exact hc.i_ins fun dx es n n1 R sub=>⟨_,_,_,_,_,rfl,InstAt.of_news N (List.mem_append_left _ (sub _ (.head _))) (List.mem_append_left _ (sub _ (.tail _ (.head _)))),R⟩
 |inst =>
  exact hv.i_inst fun b dx es n h1 h2 n1 R=>⟨_,_,_,_,_,rfl,InstAt.of_news N (List.mem_append_right _ (List.mem_append_left _ h1)) (List.mem_append_right _ (List.mem_append_left _ h2)),R⟩
structure StatIn (K:Frag)(C:Addr)(x:PySem.Str)(f:Addr):Prop where
 ex:∃ mc,typeIn K (.ref C)=some mc∧readsIn K C mc=true∧((findCls K (.ref C) mc x=some (.val (.ref f)))∨∃ p rest,findCls K (.ref C) mc x=some (.get (.builtin "staticmethod.__get__") (.ref p) .none (.ref C))∧recIn K p "staticmethod" = some (.ref f::rest))
 g:specialIn K (.ref C) "__getattribute__" = some (some (.builtin "type.__getattribute__"))
 k:keepIn K (.ref f)=true
noncomputable def Wk (v:V)(σ:St)(v':V)(σ':St):Prop:=∀ z e cl r,SR z σ cl→VR z v r→((cl++(z++e)).map (·.1)).Nodup →
 ∃ z' cl',Sub z z'∧SR z' σ' cl'∧VR z' v' r∧((cl'++(z'++e)).map (·.1)).Nodup∧∀ p∈cl'++(z'++e),p∈cl++(z++e)
theorem Wk.rfl {v:V}:Wk v σ v σ:=fun z _ cl _ S V nd=>⟨z,cl,Sub.same,S,V,nd,fun _ h=>h⟩
theorem Wk.trans {v v' v'':V}{σ' σ'':St}(h:Wk v σ v' σ')(h':Wk v' σ' v'' σ''):Wk v σ v'' σ'':=by
 intro z e cl r S V nd
 refine xEEAoAoAoAoo (h z e cl r S V nd) fun z1 c1 a1 a2 a3 a4 a5=>?_
 refine xEEAoAoAoAoo (h' z1 e c1 r a2 a3 a4) fun z2 c2 b1 b2 b3 b4 b5=>?_
 exact ⟨z2,c2,a1.trans b1,b2,b3,b4,fun p hp=>a5 p (b5 p hp)⟩
theorem Wk.drop {v:V}{p:Addr×Cell}:Wk v (p::σ) v σ:=by
 intro z e cl r S V nd
 revert nd
 refine S.i_cons fun os cl a b nd=>?_
 ·refine ⟨z,cl,Sub.same,b,V,?_,fun q hq=>?_⟩
  ·rw [List.append_assoc,List.map_append] at nd
   exact (List.nodup_append.mp nd).2.1
  ·rw [List.append_assoc];exact List.mem_append_right _ hq
theorem Wk.lst {a:Addr}{vs:List V}:Wk (.own a) ((a,.lst vs)::σ) (.lst vs) σ:=by
 intro z e cl r S V nd
 refine V.i_own ?_
 revert nd
 refine S.i_cons fun os cl c b=>c.i_lst fun rs n hr nd=>?_
 ··have sub:Sub z ((a,lstObj rs n)::z):=fun _ h=>List.mem_cons_of_mem _ h
   refine ⟨(a,lstObj rs n)::z,cl,sub,b.mono sub,.lst (.head _) (hr.mono sub),?_,fun q hq=>?_⟩
   ·have perm:(cl++(a,lstObj rs n)::(z++e)).Perm ([(a,lstObj rs n)]++cl++(z++e)):=by
     rw [List.singleton_append,List.cons_append];exact List.perm_middle
    exact (perm.map (·.1)).nodup_iff.mpr nd
   ·simp only [List.mem_append,List.mem_cons,List.singleton_append] at hq ⊢
    rcases hq with h | (h | h) | h
    ·exact .inl (.inr h)
    ·exact .inl (.inl h)
    ·exact .inr (.inl h)
    ·exact .inr (.inr h)
theorem Wk.ins {a C:Addr}{ns:List PySem.Str}{vs:List V}:Wk (.own a) ((a,.ins C ns vs)::σ) (.inst C ns vs) σ:=by
 intro z e cl r S V nd
 refine V.i_own ?_
 revert nd
 refine S.i_cons fun os cl c b=>c.i_ins fun dx es n n1 hr nd=>?_
 ··have sub:Sub z ((a,instObj C dx)::(dx,dictOf es n)::z):=fun _ h=>List.mem_cons_of_mem _ (List.mem_cons_of_mem _ h)
   refine ⟨(a,instObj C dx)::(dx,dictOf es n)::z,cl,sub,b.mono sub,.inst (.head _) (.tail _ (.head _)) n1 (hr.mono sub),?_,fun q hq=>?_⟩
   ·have perm:(cl++(a,instObj C dx)::(dx,dictOf es n)::(z++e)).Perm ([(a,instObj C dx),(dx,dictOf es n)]++cl++(z++e)):=by
     refine List.perm_middle.trans ?_
     rw [List.cons_append,List.cons_append]
     exact List.Perm.cons _ List.perm_middle
    exact (perm.map (·.1)).nodup_iff.mpr nd
   ·simp only [List.mem_append,List.mem_cons,List.not_mem_nil,or_false] at hq ⊢
    rcases hq with h | (h | h | h) | h
    ·exact .inl (.inr h)
    ·exact .inl (.inl (.inl h))
    ·exact .inl (.inl (.inr h))
    ·exact .inr (.inl h)
    ·exact .inr (.inr h)
noncomputable def Back (Q:V→St→Prop)(v:V)(σ:St):Prop:=∃ v' σ',Wk v σ v' σ'∧Q v' σ'
theorem Ld.weak {X:Fx w K fn d}{m':PySem.Str→Option Value}{z:Led}{s:Shared}(W:Ld X m' z σ s){v v':V}{σ':St}{r:Value}(hw:Wk v σ v' σ')(hv:VR z v r) :
  ∃ z',Sub z z'∧Ld X m' z' σ' s∧VR z' v' r:=by
 obtain ⟨cl,F,N,nd,S⟩:=W
 refine xEEAoAoAoAoo (hw z _ cl r S hv nd) fun z' cl' a b c e g=>?_
 exact ⟨z',a,⟨cl',F,fun p hp=>N p (g p hp),e,b⟩,c⟩
noncomputable def retv:Fl→V
 |.ret v=>v
 |_=>.none
theorem MR.start {z:Led}:∀ {ps:List PySem.Str} {vs:List V} {rs:List Value} {rest:Nms},ps.Nodup→VRs z vs rs→ps.length=vs.length →
  MR z (fun y=>(ps.zip rs).reverse.lookup y) (ps.map (fun x=>(x,NameKind.local))++rest) (vs.map some++List.replicate rest.length none):=by
 intro ps vs rs rest nd hv hl
 have none_:∀ (m':PySem.Str→Option Value) (rest:Nms),MR z m' rest (List.replicate rest.length none):=by
  intro m' rest
  induction rest with
  |nil=>exact .nil
  |cons p r ih=>exact .no ih
 have gen:∀ (m':PySem.Str→Option Value) (ps:List PySem.Str) (vs:List V) (rs:List Value),VRs z vs rs→ps.length=vs.length→(∀ (i:Nat) (x:PySem.Str) (r:Value),ps[i]?=some x→rs[i]?=some r→m' x=some r) →
   MR z m' (ps.map (fun x=>(x,NameKind.local))++rest) (vs.map some++List.replicate rest.length none):=by
  intro m' ps
  induction ps with
  |nil=>intro vs rs h1 h2 _;cases h1 with | nil=>exact none_ _ _ | cons=>cases h2
  |cons p ps ih =>
   intro vs rs h1 h2 h3
   cases h1 with
   |nil=>cases h2
   |cons a b=>exact .yes (h3 0 _ _ rfl rfl) a (ih _ _ b (by simpa using h2) fun i x r e1 e2=>h3 (i+1) x r (by simpa using e1) (by simpa using e2))
 refine gen _ ps vs rs hv hl fun i x r e1 e2=>?_
 have nd2:((ps.zip rs).reverse.map (·.1)).Nodup:=by
  rw [List.map_reverse,(List.reverse_perm _).nodup_iff,List.map_fst_zip (by rw [hl,hv.length];exact Nat.le_refl _)]
  exact nd
 refine lookup_of_mem nd2 ?_
 rw [List.mem_reverse]
 refine List.mem_iff_getElem?.mpr ⟨i,?_⟩
 rw [List.getElem?_zip_eq_some]
 exact ⟨e1,e2⟩
structure DefIn (K:Frag)(fn:FnS)(body:List Stmt)(ps:List PySem.Str)(dfl:List V)(rest:Nms):Prop where
 at_:∃ name params dV kV doc pm ct oc an od osl rd,K.lookup fn.a=some ⟨oc,od,.func (fnOf name fn.q params body fn.sc dV kV doc pm an fn.cd ct),osl⟩∧VRs [] dfl rd ∧
  ∀ (s:Shared) (rs:List Value),K.In s.heap→rs.length+dfl.length=ps.length→BindsTo s (fnOf name fn.q params body fn.sc dV kV doc pm an fn.cd ct) ⟨rs,[]⟩ (ps.zip (rs++rd))
 code:codeIn K fn.cd fn.q=true
 names:fn.sc.names=ps.map (fun x=>(x,NameKind.local))++rest
 nd:(fn.sc.names.map (·.1)).Nodup
 kind:fn.sc.kind=.function
 comp:fn.comp=false
 clo:fn.cl=[]
 co:fn.sc.isCoroutine=false
 gen:fn.sc.isGenerator=false
 nocell:∀ x∈fn.sc.names,x.2≠.cell
theorem call_def {body:List Stmt}{ps:List PySem.Str}{dfl:List V}{rest:Nms}(D:DefIn K fn body ps dfl rest){vs:List V}(hl:vs.length+dfl.length=ps.length){Q:V→St→Prop}
  (h:EX w K fn d body ((vs++dfl).map some++List.replicate rest.length none) σ fun f _ σ'=>Back Q (retv f) σ'):CALL w K (d+1) (.ref fn.a) vs σ Q:=by
 refine xEEEEEEEEEEEEAoAoo D.at_ fun name params dV kV doc pm ct oc an od osl rd ho hrd hb=>?_
 intro fn₀ d' X₀ m₀ A z s rs R hA hh hdep hun W hvs k
 obtain ⟨cl,F,N,nd,S⟩:=id W
 have hrd':VRs z dfl rd:=hrd.mono fun _ h=>absurd h List.not_mem_nil
 have hlen:(ps.zip (rs++rd)).length=ps.length:=by
  rw [List.length_zip,List.length_append,←hvs.length,←hrd'.length,hl,Nat.min_self]
 have ndp:ps.Nodup:=by
  have:=D.nd
  rw [D.names,List.map_append,List.map_map] at this
  have:=(List.nodup_append.mp this).1
  simpa [Function.comp_def] using this
 refine callX_plain (cl:=[]) (env:=X₀.fenv) X₀.B F N X₀.T.nolimit (hA.trans X₀.hA) X₀.hfr X₀.hfk (W.keep _ _ ho) rfl (codeRec_of W.keep D.code) (by show _<1000;lia) (hb s rs W.keep (by rw [←hvs.length];exact hl)) ?_ ?_ D.nocell D.co D.gen D.kind
 ·intro y hy
  refine lookup_of_mem D.nd ?_
  rw [D.names]
  refine List.mem_append_left _ (List.mem_map.mpr ⟨y.1,?_,rfl⟩)
  exact (List.of_mem_zip (show (y.1,y.2)∈_ from hy)).1
 ·intro g L' h₁ FG F' N' B' st lt
  let X:Fx w K fn d:={
   A:=A.deeper (envX fn.q fn.sc L' fn.a fn.cd []),A₀:=A,base:=X₀.base,h₀:=g,outer:=X₀.fenv::X₀.outer,L:=L',env:=envX fn.q fn.sc L' fn.a fn.cd [],fenv:=envX fn.q fn.sc L' fn.a fn.cd [],mc:=fun _=>none,co:=dictOf [] 0,ext:=X₀.ext,mo:=fun _=>none,p:=X₀.p,loose:=X₀.loose,mg:=X₀.mg,mb:=X₀.mb
   B:=B',T:=X₀.T.keeps st,X:=X₀.X.keeps st
   hA:=Around.frames_deeper (hA.trans X₀.hA),hk:=D.kind,hfr:=rfl,hfk:=D.kind,hsc:=rfl,hgl:=rfl,hbu:=rfl,hcl:=D.clo.symm,hloc:=fun _=>rfl
   hce:=fun e=>by rw [D.comp] at e;cases e
   hco:=fun h e=>⟨_,_,_,e,rfl,fun k hk=>by simp at hk,fun x=>rfl⟩
   hd:=by show A.depth+1+d+5≤1000;lia
   hu:=by show A.units+3+20*d+100≤9900;lia
   hh:=hh}
  have W₁:Wd X ((vs++dfl).map some++List.replicate rest.length none) σ z {s with heap:=h₁,toks:=s.toks+(ps.zip (rs++rd)).length}:=by
   refine ⟨_,⟨cl,F',N',nd,S⟩,⟨?_,fun e=>by rw [D.comp] at e;cases e⟩⟩
   rw [D.names]
   unfold Fx.look
   rw [D.comp]
   exact MR.start ndp (hvs.append hrd') (by rw [List.length_append];exact hl.symm)
  refine h X z _ _ _ W₁ ?_
  rintro r f m' σ' z' s' sub ⟨m'',W₂,R₂⟩ hf sm ⟨v',σ'',hw,hq⟩
  have close:∀ rv,VR z' (retv f) rv→LeaveK X₀.h₀ X₀.L m₀ g R rv s':=by
   intro rv hv
   obtain ⟨z'',sub',⟨cl'',F₃,N₃,nd₃,S₃⟩,hv'⟩:=W₂.weak hw hv
   exact ⟨L',m'',cl''++(z''++X₀.ext),F₃,N₃,fun F₄ N₄=>k _ v' σ'' z'' s' (sub.trans sub') ⟨cl'',F₄,N₄,nd₃,S₃⟩ hv' ⟨sm.gens,sm.drawn,sm.os⟩ hq⟩
  cases hf with
  |next=>exact close _ .none
  |brk=>exact close _ .none
  |cont=>exact close _ .none
  |ret hr=>exact close _ hr
end NN
end
section
open PySem PySem.W PySem.Calls PyProof.Rows
namespace NN
variable {w:World}{K:Frag}{fn:FnS}{d:Nat}{m:Mp}{σ:St}
theorem call_class {C fI:Addr}{ns:List PySem.Str}{args:List V}{Q:V→St→Prop}(hm:makesIn K C=true)(hi:findIn K (.ref C) "__init__" = some (some (.ref fI)))
  (hf:typeIn K (.ref fI)=some (.type "function")) (nd:ns.Nodup)
  (h:∀ a,CALL w K d (.ref fI) (.own a::args) ((a,.ins C ns [])::σ) fun v σ'=>v=.none∧Back Q (.own a) σ'):CALL w K (d+1) (.ref C) args σ Q:=by
 intro fn₀ d' X₀ m₀ A z s rs R hA hh hdep hun W hvs k
 obtain ⟨cl,F,N,ndk,S⟩:=id W
 refine make_K F N W.keep hm hi hf ?_
 intro x dx h' F' N' lt lt2
 have fl:(A.under (.builtin "type.__call__" ⟨.ref C::rs,[]⟩)).frames=X₀.A.frames:=by
  show pushEnvs [] A.frames=_
  exact hA
 have hdx:=(N' (dx,dictOf [] 0) (by simp)).2.1
 have key:∀ p∈cl++(z++X₀.ext),p.1<dx:=lt
 refine h x fn₀ d' X₀ m₀ _ z _ (.ref x::rs) _ fl hh (by rw [depth_under_make];lia) (by rw [units_under_make];lia) ⟨[(x,instObj C dx),(dx,dictOf [] 0)]++cl,F',N',?_,.cons (.ins nd .nil) S⟩ (.cons (.own x) hvs) ?_
 ·show (((x,instObj C dx)::(dx,dictOf [] 0)::(cl++(z++X₀.ext))).map (·.1)).Nodup
  rw [List.map_cons,List.map_cons]
  refine List.nodup_cons.mpr ⟨?_,List.nodup_cons.mpr ⟨?_,ndk⟩⟩
  ·rintro hx
   rcases List.mem_cons.mp hx with e | hx
   ·have e':x=dx:=e
    exact absurd lt2 (by rw [e'];exact Nat.lt_irrefl _)
   ·refine xEAoo (List.mem_map.mp hx) fun p hp e=>?_
    exact absurd (Nat.lt_trans (key p hp) lt2) (by rw [e];exact Nat.lt_irrefl _)
  ·intro hx
   refine xEAoo (List.mem_map.mp hx) fun p hp e=>?_
   exact absurd (key p hp) (by rw [e];exact Nat.lt_irrefl _)
 ·rintro r v σ' z' s' sub W' hv sm ⟨rfl,v',σ'',hw,hq⟩
  refine hv.i_none ?_
  refine xEAoAoo (W'.weak hw (.own x)) fun z'' sub' W'' hv'=>?_
  exact ⟨rfl,k _ v' σ'' z'' s' (sub.trans sub') W'' hv' ⟨sm.gens,sm.drawn,sm.os⟩ hq⟩
theorem call_class0 {C:Addr}{Q:V→St→Prop}(hm:makesIn K C=true)(hi:findIn K (.ref C) "__init__" = some (some (.builtin "object.__init__")))
  (h:Q (.inst C [] []) σ):CALL w K d (.ref C) [] σ Q:=by
 intro fn₀ d' X₀ m₀ A z s rs R hA hh hdep hun W hvs k
 refine hvs.i_nil ?_
 obtain ⟨cl,F,N,ndk,S⟩:=id W
 refine make_K0 F N W.keep hm hi ?_
 intro x dx h' F' N' lt lt2
 have sub:Sub z ((x,instObj C dx)::(dx,dictOf [] 0)::z):=fun _ h=>List.mem_cons_of_mem _ (List.mem_cons_of_mem _ h)
 refine k _ _ σ _ _ sub ⟨cl,F',fun p hp=>N' p ?_,?_,S.mono sub⟩ (.inst (.head _) (.tail _ (.head _)) List.nodup_nil .nil) ⟨rfl,rfl,rfl⟩ h
 ·simp only [List.cons_append,List.mem_append,List.mem_cons] at hp ⊢
  rcases hp with h | h | h | h | h
  ·exact .inr (.inr (.inl h))
  ·exact .inl h
  ·exact .inr (.inl h)
  ·exact .inr (.inr (.inr (.inl h)))
  ·exact .inr (.inr (.inr (.inr h)))
 ·have perm:(cl++(x,instObj C dx)::(dx,dictOf [] 0)::(z++X₀.ext)).Perm ((x,instObj C dx)::(dx,dictOf [] 0)::(cl++(z++X₀.ext))) :=
   List.perm_middle.trans (List.Perm.cons _ List.perm_middle)
  refine (perm.map (·.1)).nodup_iff.mpr ?_
  rw [List.map_cons,List.map_cons]
  refine List.nodup_cons.mpr ⟨?_,List.nodup_cons.mpr ⟨?_,ndk⟩⟩
  ·rintro hx
   rcases List.mem_cons.mp hx with e | hx
   ·have e':x=dx:=e
    exact absurd lt2 (by rw [e'];exact Nat.lt_irrefl _)
   ·refine xEAoo (List.mem_map.mp hx) fun p hp e=>?_
    exact absurd (Nat.lt_trans (lt p hp) lt2) (by rw [e];exact Nat.lt_irrefl _)
  ·intro hx
   refine xEAoo (List.mem_map.mp hx) fun p hp e=>?_
   exact absurd (lt p hp) (by rw [e];exact Nat.lt_irrefl _)
theorem ex_nil {Q:Fl→Mp→St→Prop}(h:Q .next m σ):EX w K fn d [] m σ Q :=
 fun _ z s _ _ W k=>wpAny_execs_nil (k .next .next m σ z s Sub.same W .next Sm.same h)
noncomputable def onw (w:World)(K:Frag)(fn:FnS)(d:Nat)(rest:List Stmt)(Q:Fl→Mp→St→Prop)(f:Fl)(m:Mp)(σ:St):Prop:=match f with
 |.next=>EX w K fn d rest m σ Q
 |f=>Q f m σ
theorem ex_cons {st:Stmt}{rest:List Stmt}{Q:Fl→Mp→St→Prop}(h:E1 w K fn d st m σ (onw w K fn d rest Q)):EX w K fn d (st::rest) m σ Q:=by
 intro X z s QR E W k
 refine wpAny_execs_cons (h X z s _ E W ?_)
 intro r f m' σ' z' s' sub W' hf sm hq
 cases hf with
 |next=>exact hq X z' s' QR E W' fun r f m₂ σ₂ z₂ s₂ a b c e q=>k r f m₂ σ₂ z₂ s₂ (sub.trans a) b c (sm.trans e) q
 |brk=>exact k .brk .brk m' σ' z' s' sub W' .brk sm hq
 |cont=>exact k .cont .cont m' σ' z' s' sub W' .cont sm hq
 |ret hr=>exact k _ (.ret _) m' σ' z' s' sub W' (.ret hr) sm hq
theorem e1_return {e:Expr}{pos:Pos}{Q:Fl→Mp→St→Prop}(h:EV w K fn d m e σ fun v σ'=>Q (.ret v) m σ'):E1 w K fn d (.Return (some e) pos) m σ Q:=by
 intro X z s QR E W k
 exact wpAny_Return_some (h X z s _ E W fun r v σ' z' s' a b c e q=>k _ (.ret v) m σ' z' s' a b (.ret c) e q)
theorem e1_if {test:Expr}{body orelse:List Stmt}{pos:Pos}{Q:Fl→Mp→St→Prop}
  (h:TS w K fn d m test σ fun b σ'=>(b=true→EX w K fn d body m σ' Q)∧(b=false→EX w K fn d orelse m σ' Q)):E1 w K fn d (.If test body orelse pos) m σ Q:=by
 intro X z s QR E W k
 refine wpAny_If (h X z s _ E W ?_)
 rintro b σ' z' s' sub W' sm ⟨ht,hf⟩
 cases b with
 |true=>exact ht rfl X z' s' QR E W' fun r f m₂ σ₂ z₂ s₂ a b c e q=>k r f m₂ σ₂ z₂ s₂ (sub.trans a) b c (sm.trans e) q
 |false=>exact hf rfl X z' s' QR E W' fun r f m₂ σ₂ z₂ s₂ a b c e q=>k r f m₂ σ₂ z₂ s₂ (sub.trans a) b c (sm.trans e) q
noncomputable def V.flat:V→Bool
 |.none | .bool _ | .int _ | .str _=>true
 |_=>false
theorem e1_expr {e:Expr}{pos:Pos}{Q:Fl→Mp→St→Prop}(h:EV w K fn d m e σ fun v σ'=>v.flat=true∧Q .next m σ')
  (hk:fn.sc.kind=.function) (hs:∀ env,env.scope.kind=.function→interactive env=false∧swapsWith e none pos.line env=pure false):E1 w K fn d (.Expr e pos) m σ Q:=by
 intro X z s QR E W k
 refine xAoo (hs X.env X.hek) fun h1 h2=>?_
 refine wpAny_Expr (h X z s _ E W ?_) h1 h2
 rintro r v σ' z' s' sub W' hv sm ⟨hf,hq⟩
 have:=k .next .next m σ' z' s' sub W' .next sm hq
 cases hv<;>first | exact this | cases hf
theorem store_local {X:Fx w K fn d}{z:Led}{s:Shared}{x:PySem.Str}{r:Value}{v:V}{m₁:Mp}(W:Wd X m σ z s)(hc:fn.comp=false)(nd:(fn.sc.names.map (·.1)).Nodup)(P:Put fn.sc.names m x v m₁)(hv:VR z v r)
  {Q:Unit→Shared→Prop} {E:Value→Shared→Prop} (k:∀ s',Sm s s'→Wd X m₁ σ z s'→Q () s'):wpAny (M w) X.A (storeName X.env x r) Q E s:=by
 obtain ⟨m',⟨cl,F,N,ndk,S⟩,R⟩:=W
 refine wpAny_storeName_local (kind_of nd P.mem) (by rw [X.hloc hc];exact F.ns) (fun h' hn hs=>?_) (by rw [X.hek];rfl)
 rw [X.hloc hc] at hn hs
 refine k _ ⟨rfl,rfl,rfl⟩ ⟨_,⟨cl,F.set hn hs,N.set hs,ndk,S⟩,⟨?_,fun e=>by rw [hc] at e;cases e⟩⟩
 have R':=R.r
 unfold Fx.look at R' ⊢
 rw [hc] at R' ⊢
 exact P.put nd R' hv
theorem e1_assign {x:PySem.Str}{p':Pos}{value:Expr}{pos:Pos}{ns:Nms}{Q:Fl→Mp→St→Prop}(hc:fn.comp=false)(nd:(fn.sc.names.map (·.1)).Nodup)(hn:fn.sc.names=ns)
  (h:EV w K fn d m value σ fun v σ'=>∃ m₁,Put ns m x v m₁∧Q .next m₁ σ')
  (hs:∀ env,swapsWith value (some (.Name x p')) pos.line env=pure false):E1 w K fn d (.Assign [.Name x p'] value pos) m σ Q:=by
 subst hn
 intro X z s QR E W k
 refine wpAny_Assign_Name (h X z s _ E W ?_) (hs _)
 rintro r v σ' z' s' sub W' hv sm ⟨m₁,P,hq⟩
 exact store_local W' hc nd P hv fun s₂ sm₂ W₂=>k .next .next m₁ σ' z' s₂ sub W₂ .next (sm.trans sm₂) hq
theorem ts_not {x:Expr}{pos:Pos}{Q:Bool→St→Prop}(h:TS w K fn d m x σ fun b σ'=>Q (!b) σ'):TS w K fn d m (.UnaryOp .Not x pos) σ Q:=by
 intro X z s QR E W k
 exact isTrue_not (h X z s _ E W fun b σ' z' s' a c e q=>k (!b) σ' z' s' a c e q)
theorem ts_and_nil {pos:Pos}{Q:Bool→St→Prop}(h:Q true σ):TS w K fn d m (.BoolOp .And [] pos) σ Q :=
 fun _ z s _ _ W k=>isTrue_and_nil (k true σ z s Sub.same W Sm.same h)
theorem ts_or_nil {pos:Pos}{Q:Bool→St→Prop}(h:Q false σ):TS w K fn d m (.BoolOp .Or [] pos) σ Q :=
 fun _ z s _ _ W k=>isTrue_or_nil (k false σ z s Sub.same W Sm.same h)
theorem ts_and {x:Expr}{rest:List Expr}{pos:Pos}{Q:Bool→St→Prop}
  (h:TS w K fn d m x σ fun b σ'=>(b=true→TS w K fn d m (.BoolOp .And rest pos) σ' Q)∧(b=false→Q false σ')):TS w K fn d m (.BoolOp .And (x::rest) pos) σ Q:=by
 intro X z s QR E W k
 refine isTrue_and (h X z s _ E W ?_)
 rintro b σ' z' s' sub W' sm ⟨ht,hf⟩
 cases b with
 |true=>exact ht rfl X z' s' QR E W' fun b σ₂ z₂ s₂ a c e q=>k b σ₂ z₂ s₂ (sub.trans a) c (sm.trans e) q
 |false=>exact k false σ' z' s' sub W' sm (hf rfl)
theorem ts_or {x:Expr}{rest:List Expr}{pos:Pos}{Q:Bool→St→Prop}
  (h:TS w K fn d m x σ fun b σ'=>(b=true→Q true σ')∧(b=false→TS w K fn d m (.BoolOp .Or rest pos) σ' Q)):TS w K fn d m (.BoolOp .Or (x::rest) pos) σ Q:=by
 intro X z s QR E W k
 refine isTrue_or (h X z s _ E W ?_)
 rintro b σ' z' s' sub W' sm ⟨ht,hf⟩
 cases b with
 |true=>exact k true σ' z' s' sub W' sm (ht rfl)
 |false=>exact hf rfl X z' s' QR E W' fun b σ₂ z₂ s₂ a c e q=>k b σ₂ z₂ s₂ (sub.trans a) c (sm.trans e) q
noncomputable def TRU (w:World)(v:V)(b:Bool)(σ:St):Prop :=
 ∀ (K:Frag) (fn:FnS) (d:Nat) (X:Fx w K fn d) (m:PySem.Str→Option Value) (z:Led) (s:Shared) (r:Value) (QR:Bool→Shared→Prop) (E:Value→Shared→Prop),Ld X m z σ s→VR z v r →
  (∀ tk,QR b {s with toks:=tk})→wpAny (M w) X.A (truthy r) QR E s
theorem tru_bool {b:Bool}:TRU w (.bool b) b σ:=by
 intro K fn d X m z s r QR E _ h k;exact h.i_bool (wpAny_truthy_bool (k s.toks))
theorem tru_int {i:Int}:TRU w (.int i) (i != 0) σ:=by
 intro K fn d X m z s r QR E _ h k;exact h.i_int fun _=>truthy_int (k s.toks)
theorem tru_none:TRU w .none false σ:=by
 intro K fn d X m z s r QR E _ h k;exact h.i_none (truthy_none (k s.toks))
theorem ts_plain {e:Expr}{Q:Bool→St→Prop}(h:EV w K fn d m e σ fun v σ'=>∃ b,TRU w v b σ'∧Q b σ')
  (he:∀ env whole,isTrue e env whole=(do let v ←whole;standAt e.pos;holding [v] (truthy v))):TS w K fn d m e σ Q:=by
 intro X z s QR E W k
 refine isTrue_plain (h X z s _ E W ?_) (he _ _)
 rintro r v σ' z' s' sub ⟨m',W',R'⟩ hv sm ⟨b,ht,hq⟩
 exact ht K fn d X m' z' s' r _ E W' hv fun tk=>k b σ' z' _ sub ⟨m',W'.tok tk,R'⟩ (sm.trans Sm.tok) hq
theorem ev_ifexp {test body orelse:Expr}{pos:Pos}{Q:V→St→Prop}
  (h:TS w K fn d m test σ fun b σ'=>(b=true→EV w K fn d m body σ' Q)∧(b=false→EV w K fn d m orelse σ' Q)):EV w K fn d m (.IfExp test body orelse pos) σ Q:=by
 intro X z s QR E W k
 refine IfExp_ (h X z s _ E W ?_)
 rintro b σ' z' s' sub W' sm ⟨ht,hf⟩
 cases b with
 |true=>exact ht rfl X z' s' QR E W' fun r f σ₂ z₂ s₂ a b c e q=>k r f σ₂ z₂ s₂ (sub.trans a) b c (sm.trans e) q
 |false=>exact hf rfl X z' s' QR E W' fun r f σ₂ z₂ s₂ a b c e q=>k r f σ₂ z₂ s₂ (sub.trans a) b c (sm.trans e) q
theorem ev_bool_one {op:BoolOp}{e:Expr}{pos:Pos}{Q:V→St→Prop}(h:EV w K fn d m e σ Q):EV w K fn d m (.BoolOp op [e] pos) σ Q :=
 fun X z s QR E W k=>BoolOp_one (h X z s QR E W k)
theorem ev_and {e₁ e₂:Expr}{rest:List Expr}{pos:Pos}{Q:V→St→Prop}
  (h:EV w K fn d m e₁ σ fun v σ'=>∃ b,TRU w v b σ'∧(b=true→EV w K fn d m (.BoolOp .And (e₂::rest) pos) σ' Q)∧(b=false→Q v σ')):EV w K fn d m (.BoolOp .And (e₁::e₂::rest) pos) σ Q:=by
 intro X z s QR E W k
 refine BoolOp_and (h X z s _ E W ?_)
 rintro r v σ' z' s' sub ⟨m',W',R'⟩ hv sm ⟨b,ht,h1,h2⟩
 refine ht K fn d X m' z' s' r _ E W' hv fun tk=>?_
 have W₂:Wd X m σ' z' {s' with toks:=tk}:=⟨m',W'.tok tk,R'⟩
 cases b with
 |true=>exact h1 rfl X z' _ QR E W₂ fun r f σ₂ z₂ s₂ a b c e q=>k r f σ₂ z₂ s₂ (sub.trans a) b c ((sm.trans Sm.tok).trans e) q
 |false=>exact k r v σ' z' _ sub W₂ hv (sm.trans Sm.tok) (h2 rfl)
theorem ev_or {e₁ e₂:Expr}{rest:List Expr}{pos:Pos}{Q:V→St→Prop}
  (h:EV w K fn d m e₁ σ fun v σ'=>∃ b,TRU w v b σ'∧(b=true→Q v σ')∧(b=false→EV w K fn d m (.BoolOp .Or (e₂::rest) pos) σ' Q)):EV w K fn d m (.BoolOp .Or (e₁::e₂::rest) pos) σ Q:=by
 intro X z s QR E W k
 refine BoolOp_or (h X z s _ E W ?_)
 rintro r v σ' z' s' sub ⟨m',W',R'⟩ hv sm ⟨b,ht,h1,h2⟩
 refine ht K fn d X m' z' s' r _ E W' hv fun tk=>?_
 have W₂:Wd X m σ' z' {s' with toks:=tk}:=⟨m',W'.tok tk,R'⟩
 cases b with
 |false=>exact h2 rfl X z' _ QR E W₂ fun r f σ₂ z₂ s₂ a b c e q=>k r f σ₂ z₂ s₂ (sub.trans a) b c ((sm.trans Sm.tok).trans e) q
 |true=>exact k r v σ' z' _ sub W₂ hv (sm.trans Sm.tok) (h1 rfl)
theorem ts_chain2 {l r₁ r₂:Expr}{op₁ op₂:CmpOp}{pos:Pos}{Q:Bool→St→Prop}
  (h:EV w K fn d m l σ fun a σ₁=>EV w K fn d m r₁ σ₁ fun b σ₂=>∃ c,OP2 w K σ₂ (compareOp op₁) a b (.bool c) ∧
   (c=true→EV w K fn d m r₂ σ₂ fun b' σ₃=>∃ c',OP2 w K σ₃ (compareOp op₂) b b' (.bool c')∧Q c' σ₃)∧(c=false→Q false σ₂))
  (hm:lastMarks [op₁,op₂] [r₁,r₂]=false):TS w K fn d m (.Compare l [op₁,op₂] [r₁,r₂] pos) σ Q:=by
 intro X z s QR E W k
 refine isTrue_chain (h X z s _ E W ?_) hm
 intro ra a σ₁ z₁ s₁ sub₁ W₁ va sm₁ h₁
 refine test_link (h₁ X z₁ s₁ _ E W₁ ?_)
 rintro rb b σ₂ z₂ s₂ sub₂ W₂ vb sm₂ ⟨c,ho,ht,hf⟩
 refine ho fn d X m z₂ ra rb s₂ _ E W₂ (va.mono sub₂) vb fun r tk hv=>?_
 refine hv.i_bool (wpAny_truthy_bool ?_)
 cases c with
 |false=>exact k _ σ₂ z₂ _ (sub₁.trans sub₂) (W₂.tok tk) ((sm₁.trans sm₂).trans Sm.tok) (hf rfl)
 |true =>
  refine test_last (ht rfl X z₂ _ _ E (W₂.tok tk) ?_)
  rintro rc b' σ₃ z₃ s₃ sub₃ W₃ vc sm₃ ⟨c',ho',hq⟩
  refine ho' fn d X m z₃ rb rc s₃ _ E W₃ (vb.mono sub₃) vc fun r tk' hv=>?_
  exact hv.i_bool (wpAny_truthy_bool (k _ σ₃ z₃ _ ((sub₁.trans sub₂).trans sub₃) (W₃.tok tk') ((((sm₁.trans sm₂).trans Sm.tok).trans sm₃).trans Sm.tok) hq))
end NN
end
section
open PySem PySem.W PySem.Calls PyProof.Rows
namespace NN
variable {w:World}{K:Frag}{fn:FnS}{d:Nat}{m:Mp}{σ:St}
noncomputable abbrev iterTypes:List String:=["list_iterator","tuple_iterator","str_iterator","str_ascii_iterator","range_iterator"]
noncomputable def Fx.with (X:Fx w K fn d)(I:Addr)(o:Obj):Fx w K fn d:={X with ext:=(I,o)::X.ext,hce:=fun e=>.tail _ (X.hce e)}
theorem perm3 {cl z e:Led}{p:Addr×Obj}:(cl++(z++p::e)).Perm (p::(cl++(z++e))):=by
 rw [←List.append_assoc,←List.append_assoc];exact List.perm_middle
theorem nodup3 {cl z e:Led}{I:Addr}{o:Obj}(nd:((cl++(z++e)).map (·.1)).Nodup)(h:∀ p∈cl++(z++e),p.1≠I):((cl++(z++(I,o)::e)).map (·.1)).Nodup:=by
 refine (perm3.map (·.1)).nodup_iff.mpr ?_
 rw [List.map_cons]
 exact List.nodup_cons.mpr ⟨fun hm=>by refine xEAoo (List.mem_map.mp hm) fun p hp e=>?_;exact h p hp e,nd⟩
theorem Wd.withPush {X:Fx w K fn d}{z:Led}{s:Shared}(W:Wd X m σ z s)(o:Obj)(hf:o.isFreed=false) :
  Wd (X.with s.heap.objs.size o) m σ z {s with heap:=s.heap.push o}:=by
 obtain ⟨m',⟨cl,F,N,nd,S⟩,R⟩:=W
 have N':=N.push F o hf
 refine ⟨m',⟨cl,F.push o,fun p hp=>N' p (perm3.mem_iff.mp hp),nodup3 nd fun p hp=>Nat.ne_of_lt (Heap.lt_size (N p hp).1),S⟩,R.r,R.c⟩
theorem Wd.xget {X:Fx w K fn d}{z:Led}{s:Shared}{I:Addr}{o:Obj}(W:Wd (X.with I o) m σ z s):s.heap.get? I=some o:=let ⟨_,a,_⟩:=W;a.xget (.head _)
theorem Wd.reext {X:Fx w K fn d}{z:Led}{s:Shared}{I:Addr}{o:Obj}(W:Wd (X.with I o) m σ z s){h':Heap}{tk:Nat}(hk:∀ b o',b≠I→s.heap.get? b=some o'→h'.get? b=some o') :
  Wd X m σ z {s with heap:=h',toks:=tk}∧∀ o',h'.get? I=some o'→Wd (X.with I o') m σ z {s with heap:=h',toks:=tk}:=by
 obtain ⟨m',⟨cl,F,N,nd,S⟩,R⟩:=W
 have hI:=N (I,o) (perm3.mem_iff.mpr (.head _))
 have nd':=(perm3.map (·.1)).nodup_iff.mp nd
 rw [List.map_cons,List.nodup_cons] at nd'
 have hne:∀ p∈cl++(z++X.ext),p.1≠I:=fun p hp e=>nd'.1 (List.mem_map.mpr ⟨p,hp,e⟩)
 have F₂:Fr X.h₀ X.L h' m':=by
  refine xEEEAoo F.ns fun oL es ep hL r=>?_
  refine ⟨⟨oL,es,ep,hk _ _ (Ne.symm hI.2.1) hL,r⟩,fun b o' e=>hk b o' ?_ (F.keep b o' e),F.above⟩
  intro q
  rw [q,show X.h₀.get? I=none from hI.2.2] at e;cases e
 have N₂:News X.h₀ X.L h' (cl++(z++X.ext)):=fun p hp =>
  ⟨hk _ _ (hne p hp) (N p (perm3.mem_iff.mpr (.tail _ hp))).1,(N p (perm3.mem_iff.mpr (.tail _ hp))).2⟩
 refine ⟨⟨m',⟨cl,F₂,N₂,nd'.2,S⟩,R.r,R.c⟩,fun o' ho'=>⟨m',⟨cl,F₂,fun p hp=>?_,nodup3 nd'.2 hne,S⟩,R.r,R.c⟩⟩
 rcases List.mem_cons.mp (perm3.mem_iff.mp hp) with e | h
 ·rw [e];exact ⟨ho',hI.2⟩
 ·exact N₂ p h
theorem Wd.unext {X:Fx w K fn d}{z:Led}{s:Shared}{I:Addr}{o:Obj}(W:Wd (X.with I o) m σ z s):Wd X m σ z s:=(W.reext (h':=s.heap) (tk:=s.toks) fun _ _ _ e=>e).1
noncomputable def AS (w:World)(K:Frag)(fn:FnS)(d:Nat)(t:Expr)(v:V)(m:Mp)(σ:St)(Q:Mp→St→Prop):Prop :=
 ∀ (X:Fx w K fn d) (z:Led) (s:Shared) (r:Value) (QR:Unit→Shared→Prop) (E:Value→Shared→Prop),Wd X m σ z s→VR z v r →
  (∀ m' σ' z' s',Sub z z'→Wd X m' σ' z' s'→Sm s s'→Q m' σ'→QR () s')→wpAny (M w) X.A (assign t X.env r) QR E s
theorem as_name {x:PySem.Str}{p:Pos}{v:V}{ns:Nms}{m₁:Mp}{Q:Mp→St→Prop}(hc:fn.comp=false)(nd:(fn.sc.names.map (·.1)).Nodup)(hn:fn.sc.names=ns)(P:Put ns m x v m₁)(h:Q m₁ σ) :
  AS w K fn d (.Name x p) v m σ Q:=by
 subst hn
 intro X z s r QR E W hv k
 exact wpAny_assign_Name (store_local W hc nd P hv fun s' sm W'=>k m₁ σ z s' Sub.same W' sm h)
theorem assignInOrder_cons' {M':Model}{A:Around}{s:Shared}{f:Value→Sem Unit}{fs:List (Value→Sem Unit)}{v:Value}{vs:List Value}{Q:Unit→Shared→Prop}{E:Value→Shared→Prop}
  (h:wpAny M' A (f v) (fun _ s'=>wpAny M' A (assignInOrder fs vs) Q E s') E s):wpAny M' A (assignInOrder (f::fs) (v::vs)) Q E s:=by
 exact PyProof.Rows.assignInOrder_cons h
theorem as_tuple2 {t₁ t₂:Expr}{k:Nat}{p:Pos}{v₁ v₂:V}{Q:Mp→St→Prop}(h:AS w K fn d t₁ v₁ m σ fun m₁ σ₁=>AS w K fn d t₂ v₂ m₁ σ₁ Q)
  (he:∀ env,assignEach [t₁,t₂] env=[(false,assign t₁ env),(false,assign t₂ env)]):AS w K fn d (.Tuple [t₁,t₂] k p) (.tup [v₁,v₂]) m σ Q:=by
 intro X z s r QR E W hv kk
 refine hv.i_tup fun rs a n hm hs=>?_
 ·obtain ⟨m',⟨cl,F,N,nd,S⟩,R⟩:=W
  revert hm
  refine hs.i2 fun r1 r2 h1 h2 hm=>?_
  ···refine unpackN_ (items:=#[_,_]) F N ⟨_,(N _ (List.mem_append_right _ (List.mem_append_left _ hm))).1,rfl,n,rfl⟩ X.hh (by rw [he];rfl) (by rw [he];rfl) fun h' F' N'=>?_
     rw [he]
     refine assignInOrder_cons' (h X z _ _ _ E ⟨m',⟨cl,F',N',nd,S⟩,R⟩ h1 ?_)
     intro m₁ σ₁ z₁ s₁ sub₁ W₁ sm₁ h₁
     refine assignInOrder_cons' (h₁ X z₁ _ _ _ E W₁ (h2.mono sub₁) ?_)
     intro m₂ σ₂ z₂ s₂ sub₂ W₂ sm₂ h₂
     exact PyProof.Rows.assignInOrder_nil (kk m₂ σ₂ z₂ s₂ (sub₁.trans sub₂) W₂ (Sm.trans ⟨sm₁.gens,sm₁.drawn,sm₁.os⟩ sm₂) h₂)
structure Itr (w:World)(z:Led)(vs:List V)(I:Addr)(T:Nat→Heap→Prop):Prop where
 walks:∀ A':Around,A'.handled=none→∃ fp P,Walks PySem.Challenge.pw_nn0413_01 w A' I fp [I] vs.length P T∧(∀ b∈fp,b=I∨∃ o,(b,o)∈z)∧∀ i v,P i v→∃ u,vs[i]?=some u∧VR z u v
 shape:∀ i h,T i h→∃ o,h.get? I=some o∧∃ fs,o.data=.fields fs∧∃ n,o.cls=.type n∧n∈iterTypes
noncomputable def ITR (w:World)(it:V)(vs:List V):Prop :=
 ∀ (K:Frag) (fn:FnS) (d:Nat) (X:Fx w K fn d) (m:PySem.Str→Option Value) (σ:St) (z:Led) (s:Shared) (r:Value) (QR:Value→Shared→Prop) (E:Value→Shared→Prop),Ld X m z σ s→VR z it r →
  (∀ o T,o.isFreed=false→Itr w z vs s.heap.objs.size T→T 0 (s.heap.push o)→QR (.ref s.heap.objs.size) {s with heap:=s.heap.push o})→wpAny (M w) X.A (pyIter r) QR E s
noncomputable def LOOP (w:World)(K:Frag)(fn:FnS)(d:Nat)(t:Expr)(body:List Stmt):List V→Mp→St→(Fl→Mp→St→Prop)→Prop
 |[],m,σ,Q=>Q .next m σ
 |v::vs,m,σ,Q=>AS w K fn d t v m σ fun m₁ σ₁=>EX w K fn d body m₁ σ₁ fun f m₂ σ₂=>match f with
  |.next | .cont=>LOOP w K fn d t body vs m₂ σ₂ Q
  |.brk=>Q .next m₂ σ₂
  |.ret v=>Q (.ret v) m₂ σ₂
noncomputable def LoopI {w:World}{K:Frag}{fn:FnS}{d:Nat}(X:Fx w K fn d)(t:Expr)(body:List Stmt)(vs₀:List V)(z₀:Led)(s₀:Shared)(I:Addr)(T:Nat→Heap→Prop)(Q:Fl→Mp→St→Prop)(n:Nat)(s:Shared):Prop :=
 ∃ i vs m σ z o,n=vs.length∧vs₀.drop i=vs∧i+vs.length=vs₀.length∧Sub z₀ z∧Wd (X.with I o) m σ z s∧T i s.heap∧Sm s₀ s∧LOOP w K fn d t body vs m σ Q
theorem drop_head {α:Type}{l vs:List α}{v:α}{i:Nat}(h:l.drop i=v::vs):l[i]?=some v∧l.drop (i+1)=vs:=by
 constructor
 ·have:=List.getElem?_drop (xs:=l) (i:=i) (j:=0)
  rw [h] at this
  simpa using this.symm
 ·rw [←List.drop_drop,h];rfl
theorem owned_plain {t:Expr}(hg:(∃ x p,t=.Name x p)∨∃ es k p,t=.Tuple es k p){I:Addr}{r:Value}{s':Shared}{o:Obj}{n:String}{fs:Array Value}(ho:s'.heap.get? I=some o)(hc:o.cls=.type n)(hd:o.data=.fields fs)(hn:n∈iterTypes)
  {A:Around} {Q':Unit→Shared→Prop} {E':Value→Shared→Prop} (hq:Q' () s'):wpAny (M w) A (letOwnedTupleGo t (.ref I) r) Q' E' s':=by
 rcases hg with ⟨x,p,e⟩ | ⟨es,kk,p,e⟩
 ·subst e;exact wpAny_pure hq
 ·subst e
  unfold letOwnedTupleGo
  cases r with
  |ref a =>
   refine wpAny_bind (wpAny_load ho ?_)
   rw [hc,hd]
   have:(["enumerate","zip","dict_itemiterator","dict_reverseitemiterator","odict_iterator","itertools.zip_longest","itertools.pairwise"].contains n)=false :=
    (show ∀ n∈iterTypes,(["enumerate","zip","dict_itemiterator","dict_reverseitemiterator","odict_iterator","itertools.zip_longest","itertools.pairwise"].contains n)=false by decide) n hn
   simp only [this,Bool.false_and,Bool.false_eq_true,if_false]
   exact wpAny_pure hq
  |_=>exact wpAny_pure hq
theorem e1_for {t iter:Expr}{body:List Stmt}{pos:Pos}{Q:Fl→Mp→St→Prop}
  (h:EV w K fn d m iter σ fun it σ₁=>∃ vs,ITR w it vs∧LOOP w K fn d t body vs m σ₁ Q)
  (hs:∀ env x,foldedSetIterable iter env x=pure x)
  (hg:(∃ x p,t=.Name x p)∨∃ es k p,t=.Tuple es k p):E1 w K fn d (.For t iter body [] pos) m σ Q:=by
 intro X z s QR E W k
 refine wpAny_For (h X z s _ E W ?_) (hs _)
 rintro rit it σ₁ z₁ s₁ sub₁ W₁ hit sm₁ ⟨vs₀,hI,hl⟩
 obtain ⟨m',L₁,R₁⟩:=id W₁
 refine hI K fn d X m' σ₁ z₁ s₁ rit _ E L₁ hit ?_
 intro o T hfo IT T0
 have W₀:=W₁.withPush o hfo
 have fresh:∀ p∈z₁,p.1≠s₁.heap.objs.size:=fun p hp=>Nat.ne_of_lt (Heap.lt_size (W₁.zget hp))
 revert IT fresh W₀ T0
 refine gen s₁.heap.objs.size fun I hIdef IT T0 W₀ fresh=>?_
 refine codeAny_forLoop_any (LoopI X t body vs₀ z₁ s₁ I T Q) ?_ vs₀.length ⟨0,vs₀,m,σ₁,z₁,o,rfl,List.drop_zero,Nat.zero_add _,Sub.same,W₀,T0,⟨rfl,rfl,rfl⟩,hl⟩
 intro n s hJ
 refine fo fun Gx gx=>?_
 obtain ⟨i,vs,m₂,σ₂,z₂,o₂,rfl,hd,hlen,sub₂,W₂,Ti,sm₂,hl₂⟩:=hJ
 refine gx ?_
 refine xEEAoAoo (IT.walks X.A X.hh) fun fp P wk hfp hP=>?_
 have keepL:∀ {h':Heap},(∀ b o',b∉[I]→s.heap.get? b=some o'→h'.get? b=some o')→(∀ b o',b≠I→s.heap.get? b=some o'→h'.get? b=some o') :=
  fun hk b o' hb=>hk b o' (by simpa using hb)
 cases vs with
 |nil =>
  have hi:i=vs₀.length:=by simpa using hlen
  refine wk.done s _ _ (by rw [←hi];exact Ti) fun h' tk hk=>?_
  refine wpAny_execs_nil ?_
  exact k .next .next m₂ σ₂ z₂ _ (sub₁.trans sub₂) (W₂.reext (keepL hk)).1 .next ((sm₁.trans sm₂).trans ⟨rfl,rfl,rfl⟩) hl₂
 |cons v vs =>
  refine xAoo (drop_head hd) fun hv hdrop=>?_
  refine wk.item i s _ _ (by rw [←hlen];exact Nat.lt_add_of_pos_right (Nat.succ_pos _)) Ti ?_
  intro r h' tk hPr T' hk
  refine xEAoo (hP i r hPr) fun u hu hvr=>?_
  have e4:u=v:=Option.some.inj (hu.symm.trans hv)
  subst e4
  refine xEAoEAoEAoo (IT.shape (i+1) _ T') fun o₄ ho₄ fs hda n₄ hc₄ hn₄=>?_
  have W₄:=(W₂.reext (tk:=tk) (keepL hk)).2 o₄ ho₄
  have goOn:∀ (EN:Value→Shared→Prop) (QF:Flow→Shared→Prop),(∀ n' s₃,n'<(u::vs).length→LoopI X t body vs₀ z₁ s₁ I T Q n' s₃→QF .next s₃∧QF .cont s₃)→(∀ s₃,QR .next s₃→QF .brk s₃)→(∀ v s₃,QR (.ret v) s₃→QF (.ret v) s₃) →
    wpAny (M w) X.A (assign t X.env r) (fun _ s₂=>wpAny (M w) X.A (execs body X.env) QF EN s₂) EN {s with heap:=h',toks:=tk}:=by
   intro EN QF q1 q2 q3
   refine hl₂ (X.with I o₄) z₂ _ r _ _ W₄ (hvr.mono sub₂) ?_
   intro m₅ σ₅ z₅ s₅ sub₅ W₅ sm₅ h₅
   refine h₅ (X.with I o₄) z₅ s₅ _ _ W₅ ?_
   intro r₆ f₆ m₆ σ₆ z₆ s₆ sub₆ W₆ hf₆ sm₆ h₆
   have smt:Sm s₁ s₆:=(sm₂.trans (⟨rfl,rfl,rfl⟩:Sm s {s with heap:=h',toks:=tk})).trans (sm₅.trans sm₆)
   have subt:Sub z₁ z₆:=sub₂.trans (sub₅.trans sub₆)
   have next:LOOP w K fn d t body vs m₆ σ₆ Q→QF .next s₆∧QF .cont s₆:=by
    intro hl₆
    refine q1 vs.length s₆ (Nat.lt_succ_self _) ⟨i+1,vs,m₆,σ₆,z₆,o₄,rfl,hdrop,(Nat.succ_add i vs.length).trans hlen,subt,W₆,?_,smt,hl₆⟩
    refine wk.frame (i+1) h' _ T' fun b hb o' e=>?_
    rcases hfp b hb with e1 | ⟨ob,hz⟩
    ·rw [e1] at e ⊢;rw [ho₄] at e;exact Option.some.inj e▸W₆.xget
    ·rw [show h'.get? b=some ob from W₄.zget (sub₂ _ hz)] at e
     exact Option.some.inj e▸W₆.zget (subt _ hz)
   clear hdrop hlen hfp ho₄ wk
   cases hf₆ with
   |next=>exact (next h₆).1
   |cont=>exact (next h₆).2
   |brk=>exact q2 _ (k .next .next m₆ σ₆ z₆ s₆ (sub₁.trans subt) W₆.unext .next (sm₁.trans smt) h₆)
   |ret hr=>exact q3 _ _ (k _ (.ret _) m₆ σ₆ z₆ s₆ (sub₁.trans subt) W₆.unext (.ret hr) (sm₁.trans smt) h₆)
  replace goOn:=goOn (notedBy (M w) X.A X.env fun e s'=>cameBackBy (M w) X.A X.env E e s') (fun f s₃=>match f with
    |.next | .cont=>∃ n',n'<(u::vs).length∧LoopI X t body vs₀ z₁ s₁ I T Q n' s₃
    |.brk=>QR .next s₃
    |.ret v=>QR (.ret v) s₃) (fun n' s₃ h1 h2=>⟨⟨n',h1,h2⟩,⟨n',h1,h2⟩⟩) (fun _ h=>h) fun _ _ h=>h
  exact owned_plain hg ho₄ hc₄ hda hn₄ goOn
end NN
end
section
open PySem PySem.W PySem.Calls PyProof.Rows
namespace NN
variable {w:World}{K:Frag}{fn:FnS}{d:Nat}{m:Mp}{σ:St}
theorem e1_while {test:Expr}{body:List Stmt}{pos:Pos}{Q:Fl→Mp→St→Prop}(I:Nat→Mp→St→Prop)(n:Nat)(h0:I n m σ)
  (step:∀ n m σ,I n m σ→TS w K fn d m test σ fun b σ'=>(b=true→EX w K fn d body m σ' fun f m₂ σ₂=>match f with
    |.next | .cont=>∃ n',n'<n∧I n' m₂ σ₂
    |.brk=>Q .next m₂ σ₂
    |.ret v=>Q (.ret v) m₂ σ₂)∧(b=false→Q .next m σ')):E1 w K fn d (.While test body [] pos) m σ Q:=by
 intro X z s QR E W k
 refine wpAny_While ?_
 refine codeAny_whileLoop (fun n s'=>∃ m' σ' z',I n m' σ'∧Wd X m' σ' z' s'∧Sub z z'∧Sm s s') ?_ n ⟨m,σ,z,h0,W,Sub.same,Sm.same⟩
 intro n s₁ hJ
 refine fo fun Gx gx=>?_
 obtain ⟨m₁,σ₁,z₁,hI,W₁,sub₁,sm₁⟩:=hJ
 refine gx ?_
 refine step n m₁ σ₁ hI X z₁ s₁ _ _ W₁ ?_
 rintro b σ₂ z₂ s₂ sub₂ W₂ sm₂ ⟨ht,hf⟩
 cases b with
 |false=>exact wpAny_execs_nil (k .next .next m₁ σ₂ z₂ s₂ (sub₁.trans sub₂) W₂ .next (sm₁.trans sm₂) (hf rfl))
 |true =>
  refine ht rfl X z₂ s₂ _ _ W₂ ?_
  intro r f m₃ σ₃ z₃ s₃ sub₃ W₃ hfl sm₃ h₃
  have subt:=(sub₁.trans sub₂).trans sub₃
  have smt:=(sm₁.trans sm₂).trans sm₃
  cases hfl with
  |next=>refine xEAoo h₃ fun n' lt hI'=>?_;exact ⟨n',lt,m₃,σ₃,z₃,hI',W₃,subt,smt⟩
  |cont=>refine xEAoo h₃ fun n' lt hI'=>?_;exact ⟨n',lt,m₃,σ₃,z₃,hI',W₃,subt,smt⟩
  |brk=>exact k .next .next m₃ σ₃ z₃ s₃ subt W₃ .next smt h₃
  |ret hr=>exact k _ (.ret _) m₃ σ₃ z₃ s₃ subt W₃ (.ret hr) smt h₃
theorem itr_lst {vs:List V}:ITR w (.lst vs) vs:=by
 intro K fn d X m σ z s r QR E W hv k
 refine hv.i_lst fun rs a n hm hs=>?_
 ·have hl:s.heap.IsList a rs.toArray:=⟨_,W.zget hm,rfl,n,rfl⟩
  have lt:a<s.heap.objs.size:=Heap.lt_size (W.zget hm)
  refine wpAny_pyIter_list hl (k _ (fun i h=>h.IsListIter s.heap.objs.size a i∧h.IsList a rs.toArray) rfl ⟨fun A' hA=>?_,?_⟩ ⟨⟨_,Heap.get?_push_size _ rfl,rfl,rfl⟩,hl.push _⟩)
  ·refine ⟨[s.heap.objs.size,a],fun i v=>rs.toArray[i]?=some v,?_,fun b hb=>?_,fun i v hi=>?_⟩
   ·have:=Walks.list (prog:=PySem.Challenge.pw_nn0413_01) (w:=w) hA s.heap.objs.size a (Nat.ne_of_lt lt) rs.toArray
    have e:rs.toArray.size=vs.length:=by rw [List.size_toArray,hs.length]
    rw [e] at this
    exact this
   ·rcases List.mem_cons.mp hb with e | hb
    ·exact .inl e
    ·exact .inr ⟨_,(List.mem_singleton.mp hb)▸hm⟩
   ·have hi':rs[i]?=some v:=by simpa using hi
    have hlt:i<vs.length:=by rw [hs.length];exact (List.getElem?_eq_some_iff.mp hi').1
    refine xEAoo (hs.get (i:=i) (v:=vs[i]) (List.getElem?_eq_getElem hlt)) fun r e hr=>?_
    rw [hi'] at e;cases e
    exact ⟨_,List.getElem?_eq_getElem hlt,hr⟩
  ·rintro i h ⟨⟨o,ho,hc,hd⟩,_⟩
   exact ⟨o,ho,_,hd,_,hc,by decide⟩
theorem itr_tup {vs:List V}:ITR w (.tup vs) vs:=by
 intro K fn d X m σ z s r QR E W hv k
 refine hv.i_tup fun rs a n hm hs=>?_
 ·have hl:s.heap.IsTuple a rs.toArray:=⟨_,W.zget hm,rfl,n,rfl⟩
  have lt:a<s.heap.objs.size:=Heap.lt_size (W.zget hm)
  refine wpAny_pyIter_tuple hl (k _ (fun i h=>h.IsTupleIter s.heap.objs.size a i∧h.IsTuple a rs.toArray) rfl ⟨fun A' hA=>?_,?_⟩ ⟨⟨_,Heap.get?_push_size _ rfl,rfl,rfl⟩,hl.push _⟩)
  ·refine ⟨[s.heap.objs.size,a],fun i v=>rs.toArray[i]?=some v,?_,fun b hb=>?_,fun i v hi=>?_⟩
   ·have:=Walks.tuple (prog:=PySem.Challenge.pw_nn0413_01) (w:=w) hA s.heap.objs.size a (Nat.ne_of_lt lt) rs.toArray
    have e:rs.toArray.size=vs.length:=by rw [List.size_toArray,hs.length]
    rw [e] at this
    exact this
   ·rcases List.mem_cons.mp hb with e | hb
    ·exact .inl e
    ·exact .inr ⟨_,(List.mem_singleton.mp hb)▸hm⟩
   ·have hi':rs[i]?=some v:=by simpa using hi
    have hlt:i<vs.length:=by rw [hs.length];exact (List.getElem?_eq_some_iff.mp hi').1
    refine xEAoo (hs.get (i:=i) (v:=vs[i]) (List.getElem?_eq_getElem hlt)) fun r e hr=>?_
    rw [hi'] at e;cases e
    exact ⟨_,List.getElem?_eq_getElem hlt,hr⟩
  ·rintro i h ⟨⟨o,ho,hc,hd⟩,_⟩
   exact ⟨o,ho,_,hd,_,hc,by decide⟩
noncomputable def signsOf (x:PySem.Str):List V:=x.cps.toList.map fun c=>.str ⟨#[c]⟩
theorem itr_str {x:PySem.Str}:ITR w (.str x) (signsOf x):=by
 intro K fn d X m σ z s r QR E W hv k
 refine hv.i_str fun t=>?_
 ·have P:∀ i v,SignAt x i v→∃ u,(signsOf x)[i]?=some u∧VR z u v:=by
   rintro i v ⟨c,u,hc,rfl⟩
   refine ⟨.str ⟨#[c]⟩,?_,.str _ u⟩
   unfold signsOf
   rw [List.getElem?_map,Array.getElem?_toList,hc];rfl
  have len:(signsOf x).length=x.cps.size:=by unfold signsOf;simp
  cases ha:x.cps.all (·<128) with
  |false =>
   refine wpAny_pyIter_wide ha (k _ (fun i h=>h.IsStrIter s.heap.objs.size "str_iterator" x t i) rfl ⟨fun A' hA=>⟨[s.heap.objs.size],SignAt x,?_,fun b hb=>.inl (List.mem_singleton.mp hb),P⟩,?_⟩ ⟨_,Heap.get?_push_size _ rfl,rfl,rfl⟩)
   ·rw [len];exact Walks.strWide hA _ x t
   ·rintro i h ⟨o,ho,hc,hd⟩
    exact ⟨o,ho,_,hd,_,hc,by decide⟩
  |true =>
   refine wpAny_pyIter_ascii ha (k _ (fun i h=>h.IsStrIter s.heap.objs.size "str_ascii_iterator" x t i) rfl ⟨fun A' hA=>⟨[s.heap.objs.size],SignAt x,?_,fun b hb=>.inl (List.mem_singleton.mp hb),P⟩,?_⟩ ⟨_,Heap.get?_push_size _ rfl,rfl,rfl⟩)
   ·rw [len];exact Walks.strAscii hA _ x t
   ·rintro i h ⟨o,ho,hc,hd⟩
    exact ⟨o,ho,_,hd,_,hc,by decide⟩
noncomputable def rangeOf (a b:Int):List V:=(List.range (b - a).toNat).map fun i=>.int (a+(i:Nat)*1)
theorem itr_rng {a b:Int}(ha:0≤a)(ha':a<2^62)(hb' : -(2^62)<b)(hb:b<2^62):ITR w (.rng a b) (rangeOf a b):=by
 intro K fn d X m σ z s r QR E W hv k
 refine hv.i_rng fun r t u v hm=>?_
 ·have hr:IsRange s.heap r a b 1 t u v:=W.zget hm
  have hsmall:Builtin.Range.small a b 1=true:=by
   unfold Builtin.Range.small Builtin.Range.rangeFitsLong
   rw [rangeSize_nat]
   have h1:(1:Int) > 0:=by decide
   simp only [h1,if_true,Bool.and_eq_true,Bool.or_eq_true,decide_eq_true_eq]
   refine ⟨⟨⟨⟨?_,?_⟩,?_⟩,?_⟩,.inr ?_⟩<;>lia
  have hsz:Builtin.Range.rangeSize a b 1=((b - a).toNat:Int):=rangeSize_nat a b
  refine wpAny_pyIter_range hr hsmall (k _ (fun i h=>IsRangeIter h s.heap.objs.size (a+(i:Nat)*1) (((b - a).toNat:Int) - (i:Nat)) 1) rfl ⟨fun A' hA=>⟨[s.heap.objs.size],fun i v=>i<(b - a).toNat∧∃ t,v=.int (a+i*1) t,?_,fun b hb=>.inl (List.mem_singleton.mp hb),?_⟩,?_⟩ ?_)
  ·have len:(rangeOf a b).length=(b - a).toNat:=by unfold rangeOf;simp
   rw [len];exact (Walks.range hA _ a 1 _).bound
  ·rintro i v ⟨hi,t,rfl⟩
   refine ⟨.int (a+(i:Nat)*1),?_,.int _ t⟩
   unfold rangeOf
   rw [List.getElem?_map,List.getElem?_range hi];rfl
  ·intro i h hh
   exact ⟨_,hh,_,rfl,_,rfl,by decide⟩
  ·show IsRangeIter _ _ _ _ _
   rw [hsz]
   have:=Heap.get?_push_size s.heap (o:={cls:=.type "range_iterator",dict:=none,data:=.fields #[rawInt a,rawInt ((b - a).toNat:Int),rawInt 1],slots:=#[]}) rfl
   simpa using this
end NN
end
section
open PySem PySem.W PySem.Calls PyProof.Rows
namespace NN
variable {w:World}{K:Frag}{fn:FnS}{d:Nat}{m:Mp}{σ:St}
noncomputable def BC (w:World)(f:Value)(args:List V)(σ:St)(Q:V→St→Prop):Prop :=
 ∀ (K:Frag) (fn:FnS) (d:Nat) (X:Fx w K fn d) (m:Mp) (z:Led) (s:Shared) (rs:List Value) (QR:Value→Shared→Prop) (E:Value→Shared→Prop),Wd X m σ z s→VRs z args rs →
  (∀ r v σ' z' s',Sub z z'→Wd X m σ' z' s'→VR z' v r→Sm s s'→Q v σ'→QR r s')→wpAny (M w) X.A (call f rs) QR E s
noncomputable abbrev plainArgs (args:List Expr):Prop:=∀ env e rest,args=e::rest→starEach (e::rest) env=(false,eval e env)::starEach rest env
theorem callWith_bi {pos:Pos}{f:Value}{first:List Value}{args:List Expr}{env:Env}{M':Model}{A:Around}{s:Shared}{Q:Value→Shared→Prop}{E:Value→Shared→Prop}(hf:(∃ id,f=.builtin id)∨((∃ T,f=.type T)∧first=[]))
  (h:wpAny M' A (spliced (backTo pos (starEach args env))) (fun vs s₁=>wpAny M' A (call f (first++vs)) Q E s₁) E s)
  (hp:∀ pos env,((backTo pos (starEach args env)).any (·.1))=false) (hq:plainArgs args):wpAny M' A (callWith pos f first (backTo pos (starEach args env)) []) Q E s:=by
 cases args with
 |nil =>
  intro Γ p hΓ
  have h':wpAny M' A (call f (first++[])) Q E s:=(h Γ p hΓ:_)
  rw [List.append_nil] at h'
  rcases hf with ⟨id,rfl⟩ | ⟨⟨T,rfl⟩,rfl⟩
  ·exact callWith_method0 h' Γ p hΓ
  ·exact callWith_type0 h' Γ p hΓ
 |cons e rest =>
  have he:=hq env e rest rfl
  have hr:(backTo pos (starEach rest env)).any (·.1)=false:=by
   have:=hp pos env
   rw [he] at this
   exact this
  rcases hf with ⟨id,rfl⟩ | ⟨⟨T,rfl⟩,rfl⟩
  ·exact callWith_method1 h he hr
  ·exact PyProof.Rows.callWith_type1 h he hr
theorem ev_call_bi {g:Expr}{args:List Expr}{pos:Pos}{f:Value}{gv₀:V}{Q:V→St→Prop}
  (h:EV w K fn d m g σ fun gv σ₁=>gv=gv₀∧EVs w K fn d m args σ₁ fun vs σ₂=>BC w f vs σ₂ Q)
  (hg:(∃ id,f=.builtin id∧gv₀=.bi id)∨∃ T,f=.type T∧gv₀=.ty T)
  (hn:noStar args) (hq:plainArgs args) (he:∀ env,eval (.Call g args [] pos) env=(do callWith pos (←eval g env) [] (backTo pos (starEach args env)) (backToKw pos (keywordEach [] env)))) :
  EV w K fn d m (.Call g args [] pos) σ Q:=by
 intro X z s QR E W k
 refine Call_ (h X z s _ E W ?_) (he _)
 rintro rg gv σ₁ z₁ s₁ sub₁ W₁ hgv sm₁ ⟨rfl,h₁⟩
 have hr:rg=f∧((∃ id,f=.builtin id)∨((∃ T,f=.type T)∧([]:List Value)=[])):=by
  rcases hg with ⟨id,rfl,e⟩ | ⟨T,rfl,e⟩
  ·rw [e] at hgv;exact hgv.i_bi ⟨rfl,.inl ⟨_,rfl⟩⟩
  ·rw [e] at hgv;exact hgv.i_ty ⟨rfl,.inr ⟨⟨_,rfl⟩,rfl⟩⟩
 refine xAoo hr fun er1 hf=>?_;subst er1
 refine callWith_bi hf (h₁ pos X z₁ s₁ _ E W₁ ?_) hn hq
 intro rs vs σ₂ z₂ s₂ sub₂ W₂ hvs sm₂ h₂
 exact h₂ K fn d X m z₂ s₂ rs QR E W₂ hvs fun r v σ' z' s' a b c e q=>k r v σ' z' s' ((sub₁.trans sub₂).trans a) b c ((sm₁.trans sm₂).trans e) q
theorem ev_call_bin {x:PySem.Str}{p:Pos}{args:List Expr}{pos:Pos}{id:String}{Q:V→St→Prop}
  (h:EV w K fn d m (.Name x p) σ fun gv σ₁=>gv=.bi id∧EVs w K fn d m args σ₁ fun vs σ₂=>BC w (.builtin id) vs σ₂ Q)
  (hn:noStar args) (hq:plainArgs args):EV w K fn d m (.Call (.Name x p) args [] pos) σ Q:=ev_call_bi h (.inl ⟨id,rfl,rfl⟩) hn hq fun _=>rfl
theorem ev_call_ty {x:PySem.Str}{p:Pos}{args:List Expr}{pos:Pos}{T:String}{Q:V→St→Prop}
  (h:EV w K fn d m (.Name x p) σ fun gv σ₁=>gv=.ty T∧EVs w K fn d m args σ₁ fun vs σ₂=>BC w (.type T) vs σ₂ Q)
  (hn:noStar args) (hq:plainArgs args):EV w K fn d m (.Call (.Name x p) args [] pos) σ Q:=ev_call_bi h (.inr ⟨T,rfl,rfl⟩) hn hq fun _=>rfl
inductive TyAt (σ:St):V→String→Prop
 |str {s:PySem.Str}:TyAt σ (.str s) "str"
 |lst {vs:List V}:TyAt σ (.lst vs) "list"
 |own {a:Addr} {vs:List V}:(a,Cell.lst vs)∈σ→TyAt σ (.own a) "list"
 |tup {vs:List V}:TyAt σ (.tup vs) "tuple"
theorem TyAt.at {ov:V}{T:String}(I:TyAt σ ov T){X:Fx w K fn d}{m':PySem.Str→Option Value}{z:Led}{s:Shared}(W:Ld X m' z σ s){r:Value}(hv:VR z ov r) :
  s.TypeIs r T∧∀ a,r=.ref a→∃ o,s.heap.get? a=some o∧o.dict=none:=by
 cases I with
 |str=>exact hv.i_str fun _=>⟨typeIs_str s _ _,fun a e=>nomatch e⟩
 |lst=>exact hv.i_lst fun _ _ _ hm _=>⟨⟨_,W.zget hm,rfl⟩,fun a e=>Value.ref.inj e▸⟨_,W.zget hm,rfl⟩⟩
 |tup=>exact hv.i_tup fun _ _ _ hm _=>⟨⟨_,W.zget hm,rfl⟩,fun a e=>Value.ref.inj e▸⟨_,W.zget hm,rfl⟩⟩
 |own hσ =>
  refine hv.i_own ?_
  obtain ⟨cl,F,N,nd,S⟩:=W
  refine xEAoo (S.mem hσ) fun os hc sub=>?_
  revert sub
  refine hc.i_lst fun rs n hr sub=>?_
  have e:=(N _ (List.mem_append_left _ (sub _ (.head _)))).1
  exact ⟨⟨_,e,rfl⟩,fun a q=>Value.ref.inj q▸⟨_,e,rfl⟩⟩
structure BiMeth (T:String)(x:PySem.Str)(id:String):Prop where
 p:PlainAttrs T
 s:Slot T x id
 t:typeOf (.builtin id)=pure (.type "method_descriptor")
theorem VRs.append_inv {z:Led}{vs ws:List V}{rs:List Value}(H:VRs z (vs++ws) rs):∃ r1 r2,rs=r1++r2∧VRs z vs r1∧VRs z ws r2:=by
 induction vs generalizing rs with
 |nil=>exact ⟨[],rs,rfl,.nil,H⟩
 |cons v vs ih=>exact H.i_cons fun r rs a b=>let ⟨r1,r2,e,h1,h2⟩:=ih b;⟨r::r1,r2,by rw [e];rfl,.cons a h1,h2⟩
section
variable {Q:V→St→Prop}
theorem bc_len_str {x:PySem.Str}(hx:x.length<2^60)(h:Q (.int x.length) σ):BC w (.builtin "len") [.str x] σ Q:=by
 intro K fn d X m z s rs QR E W hv k
 exact hv.i1 fun _ h1=>h1.i_str fun _=>P.len_str (by lia) (k _ _ σ z _ Sub.same (W.tok _) (.int _ _) Sm.tok h)
theorem bc_len_lst {vs:List V}(hx:vs.length≤16384)(h:Q (.int vs.length) σ):BC w (.builtin "len") [.lst vs] σ Q:=by
 intro K fn d X m z s rs QR E W hv k
 refine hv.i1 fun _ h1=>h1.i_lst fun rs a n hm hs=>?_
 have e:((rs.toArray.size:Nat):Int)=(vs.length:Int):=by rw [List.size_toArray,hs.length]
 exact kun_lenL ⟨_,W.zget hm,rfl,n,rfl⟩ e (by lia) (k _ _ σ z _ Sub.same (W.tok _) (.int _ _) Sm.tok h)
theorem bc_len_tup {vs:List V}(hx:vs.length≤16384)(h:Q (.int vs.length) σ):BC w (.builtin "len") [.tup vs] σ Q:=by
 intro K fn d X m z s rs QR E W hv k
 refine hv.i1 fun _ h1=>h1.i_tup fun rs a n hm hs=>?_
 have e:((rs.toArray.size:Nat):Int)=(vs.length:Int):=by rw [List.size_toArray,hs.length]
 exact kun_lenT ⟨_,W.zget hm,rfl,n,rfl⟩ e (by lia) (k _ _ σ z _ Sub.same (W.tok _) (.int _ _) Sm.tok h)
theorem Wd.cellL {X:Fx w K fn d}{z:Led}{s:Shared}(W:Wd X m σ z s){a:Addr}{vs:List V}(hσ:(a,Cell.lst vs)∈σ):∃ rs n,s.heap.get? a=some (lstObj rs n)∧VRs z vs rs:=by
 obtain ⟨m',⟨cl,F,N,nd,S⟩,R⟩:=W
 refine xEAoo (S.mem hσ) fun os hc sub=>?_
 revert sub
 exact hc.i_lst fun rs n hr sub=>⟨_,_,(N _ (List.mem_append_left _ (sub _ (.head _)))).1,hr⟩
theorem bc_len_own {a:Addr}{vs:List V}(hσ:(a,Cell.lst vs)∈σ)(hx:vs.length≤16384)(h:Q (.int vs.length) σ):BC w (.builtin "len") [.own a] σ Q:=by
 intro K fn d X m z s rs QR E W hv k
 refine hv.i1 fun _ h1=>h1.i_own ?_
 refine xEEAoo (W.cellL hσ) fun rs n e hs=>?_
 have e':((rs.toArray.size:Nat):Int)=(vs.length:Int):=by rw [List.size_toArray,hs.length]
 exact kun_lenL ⟨_,e,rfl,n,rfl⟩ e' (by lia) (k _ _ σ z _ Sub.same (W.tok _) (.int _ _) Sm.tok h)
theorem bc_ord {c:Nat}(h:Q (.int c) σ):BC w (.builtin "ord") [.str ⟨#[c]⟩] σ Q:=by
 intro K fn d X m z s rs QR E W hv k
 exact hv.i1 fun _ h1=>h1.i_str fun _=>P.ord_of_char (k _ _ σ z _ Sub.same (W.tok _) (.int _ _) Sm.tok h)
theorem bc_chr {i:Int}(h0:0≤i)(h1:i≤1114111)(h:Q (.str ⟨#[i.toNat]⟩) σ):BC w (.builtin "chr") [.int i] σ Q:=by
 intro K fn d X m z s rs QR E W hv k
 refine hv.i1 fun _ h1'=>h1'.i_int fun _=>P.chr_of_int ?_ (k _ _ σ z _ Sub.same (W.tok _) (.str _ _) Sm.tok h)
 simp;lia
theorem bc_abs {i:Int}(h:Q (.int (if i<0 then -i else i)) σ):BC w (.builtin "abs") [.int i] σ Q:=by
 intro K fn d X m z s rs QR E W hv k
 exact hv.i1 fun _ h1=>h1.i_int fun _=>call_abs_int fun u tk=>k _ _ σ z _ Sub.same (W.tok _) (.int _ _) Sm.tok h
theorem bc_int {i:Int}(h:Q (.int i) σ):BC w (.type "int") [.int i] σ Q:=by
 intro K fn d X m z s rs QR E W hv k
 exact hv.i1 fun _ h1=>h1.i_int fun _=>call_int_int (k _ _ σ z _ Sub.same W (.int _ _) Sm.same h)
theorem Wd.heap {X:Fx w K fn d}{z:Led}{s:Shared}(W:Wd X m σ z s):∃ m' news,Fr X.h₀ X.L s.heap m'∧News X.h₀ X.L s.heap news∧∀ h' tk,Fr X.h₀ X.L h' m'→News X.h₀ X.L h' news→Wd X m σ z {s with heap:=h',toks:=tk}:=by
 obtain ⟨m',⟨cl,F,N,nd,S⟩,R⟩:=W
 exact ⟨m',_,F,N,fun h' tk F' N'=>⟨m',⟨cl,F',N',nd,S⟩,R⟩⟩
theorem bc_min {a b:Int}(h:Q (.int (if b<a then b else a)) σ):BC w (.builtin "min") [.int a,.int b] σ Q:=by
 intro K fn d X m z s rs QR E W hv k
 refine hv.i2 fun _ _ h1 h2=>h1.i_int fun _=>h2.i_int fun _=>?_
 refine xEEAoAoo W.heap fun m' news F N go=>?_
 exact min_two_N X.hh F N fun h' tk F' N'=>k _ _ σ z _ Sub.same (go h' tk F' N') (.int _ _) ⟨rfl,rfl,rfl⟩ h
theorem bc_max {a b:Int}(h:Q (.int (if b > a then b else a)) σ):BC w (.builtin "max") [.int a,.int b] σ Q:=by
 intro K fn d X m z s rs QR E W hv k
 refine hv.i2 fun _ _ h1 h2=>h1.i_int fun _=>h2.i_int fun _=>?_
 refine xEEAoAoo W.heap fun m' news F N go=>?_
 exact max_two_N X.hh F N fun h' tk F' N'=>k _ _ σ z _ Sub.same (go h' tk F' N') (.int _ _) ⟨rfl,rfl,rfl⟩ h
theorem bc_range1 {n:Int}(h:Q (.rng 0 n) σ):BC w (.type "range") [.int n] σ Q:=by
 intro K fn d X m z s rs QR E W hv k
 exact hv.i1 fun _ h1=>h1.i_int fun _=>call_range_1 (k _ _ σ _ _ (fun _ h=>List.mem_cons_of_mem _ h) ((W.push _ rfl).tok _) (.rng (.head _)) ⟨rfl,rfl,rfl⟩ h)
theorem bc_range2 {a b:Int}(h:Q (.rng a b) σ):BC w (.type "range") [.int a,.int b] σ Q:=by
 intro K fn d X m z s rs QR E W hv k
 exact hv.i2 fun _ _ h1 h2=>h1.i_int fun _=>h2.i_int fun _=>call_range_2 (k _ _ σ _ _ (fun _ h=>List.mem_cons_of_mem _ h) ((W.push _ rfl).tok _) (.rng (.head _)) ⟨rfl,rfl,rfl⟩ h)
theorem bc_str {a:Int}(ha:a.natAbs.log2<1920)(h:Q (.str (PySem.Str.ofString (toString a))) σ):BC w (.type "str") [.int a] σ Q:=by
 intro K fn d X m z s rs QR E W hv k
 exact hv.i1 fun _ h1=>h1.i_int fun _=>P.str_of_int ha (k _ _ σ z _ Sub.same (W.tok _) (.str _ _) Sm.tok h)
theorem bc_append {a:Addr}{vs:List V}{v:V}{σ':St}(U:Upc a (.lst vs) (.lst (vs++[v])) σ σ')(hz:vs.length≤16000000)(h:Q .none σ'):BC w (.builtin "list.append") [.own a,v] σ Q:=by
 intro K fn d X m z s rs QR E W hv k
 refine hv.i2 fun _ r h1 h2=>h1.i_own ?_
 refine xEAoAoo (W.upc U) fun os hc hget hup=>?_
 revert hget hup
 refine hc.i_lst fun rs n hr hget hup=>?_
 refine xEEEAoAoAoAoo (hup a (lstObj rs n) (lstObj (rs++[r]) (n+1)) [] [] rfl (.lst (hr.append (.cons h2 .nil)))) fun m' news news' F N hin U' back=>?_
 have e:(rs.toArray.push r)=(rs++[r]).toArray:=by simp
 refine append_K F N (show Upd a (listOf rs.toArray n) (listOf (rs.toArray.push r) (n+1)) news news' by rw [e];exact U') (fun h' F' N'=>k _ _ σ' z _ Sub.same (back h' _ F' N') .none ⟨rfl,rfl,rfl⟩ h) ?_
 rw [List.size_toArray,←hr.length]
 exact Nat.le_trans hz (by decide)
theorem bc_pop {a:Addr}{vs:List V}{v:V}{σ':St}(U:Upc a (.lst (vs++[v])) (.lst vs) σ σ')(hz:vs.length≤16000000)(h:Q v σ'):BC w (.builtin "list.pop") [.own a] σ Q:=by
 intro K fn d X m z s rs QR E W hv k
 refine hv.i1 fun _ h1=>h1.i_own ?_
 refine xEAoAoo (W.upc U) fun os hc hget hup=>?_
 revert hget hup
 refine hc.i_lst fun rs n hr hget hup=>?_
 refine xEEAoAoo hr.append_inv fun r1 r2 er1 hr1 hr2=>?_
 subst er1
 revert hget hup
 refine hr2.i1 fun r e2 hget hup=>?_
 refine xEEEAoAoAoAoo (hup a (lstObj (r1++[r]) n) (lstObj r1 (n+1)) [] [] rfl (.lst hr1)) fun m' news news' F N hin U' back=>?_
 refine kl_pop F N (p:=r1) (y:=r) (kpa_last r r1) U' ?_ fun h' F' N'=>k _ _ σ' z _ Sub.same (back h' _ F' N') e2 ⟨rfl,rfl,rfl⟩ h
 show (r1++[r]).length≤_
 rw [List.length_append,←hr1.length,List.length_singleton]
 exact Nat.le_trans (Nat.succ_le_succ hz) (by decide)
theorem VRs.rev {z:Led}{vs:List V}{rs:List Value}(H:VRs z vs rs):VRs z vs.reverse rs.reverse :=
 VRs.ind (P:=fun vs rs=>VRs z vs.reverse rs.reverse) .nil (fun a _ ih=>by rw [List.reverse_cons,List.reverse_cons];exact ih.append (.cons a .nil)) H
theorem bc_reverse {a:Addr}{vs:List V}{σ':St}(U:Upc a (.lst vs) (.lst vs.reverse) σ σ')(hz:vs.length≤16000000)(h:Q .none σ'):BC w (.builtin "list.reverse") [.own a] σ Q:=by
 intro K fn d X m z s rs QR E W hv k
 refine hv.i1 fun _ h1=>h1.i_own ?_
 refine xEAoAoo (W.upc U) fun os hc hget hup=>?_
 revert hget hup
 refine hc.i_lst fun rs n hr hget hup=>?_
 refine xEEEAoAoAoAoo (hup a (lstObj rs n) (lstObj rs.reverse n) [] [] rfl (.lst hr.rev)) fun m' news news' F N hin U' back=>?_
 refine kl_reverse F N rfl U' ?_ fun h' F' N'=>k _ _ σ' z _ Sub.same (back h' _ F' N') .none ⟨rfl,rfl,rfl⟩ h
 show rs.length≤_
 rw [←hr.length]
 exact Nat.le_trans hz (by decide)
end
end NN
end
section
open PySem PySem.W PySem.Calls PyProof.Rows
namespace NN
variable {w:World}{K:Frag}{fn:FnS}{d:Nat}{m:Mp}{σ:St}
theorem ev_list {es:List Expr}{pos:Pos}{Q:V→St→Prop}(h:EVs w K fn d m es σ fun vs σ'=>vs.length≤1000∧∀ a,Q (.own a) ((a,.lst vs)::σ')):EV w K fn d m (.List es pos) σ Q:=by
 intro X z s QR E W k
 refine List_ (h pos X z s _ E W ?_)
 rintro rs vs σ' z' s' sub W' hvs sm ⟨hl,hq⟩
 refine wpAny_newObj_type (k _ (.own s'.heap.objs.size) _ z' _ sub (W'.alloc rfl (.lst (n:=0) hvs)) (.own _) ⟨sm.gens,sm.drawn,sm.os⟩ (hq _)) ?_
 show rs.toArray.size≤sizeLine
 rw [List.size_toArray,←hvs.length]
 exact Nat.le_trans hl (by decide)
theorem ev_tuple {es:List Expr}{k₀:Nat}{pos:Pos}{Q:V→St→Prop}(h:EVs w K fn d m es σ fun vs σ'=>vs.length≤1000∧Q (.tup vs) σ'):EV w K fn d m (.Tuple es k₀ pos) σ Q:=by
 intro X z s QR E W k
 refine Tuple_ (h pos X z s _ E W ?_)
 rintro rs vs σ' z' s' sub W' hvs sm ⟨hl,hq⟩
 have sub':Sub z' ((s'.heap.objs.size,tupObj rs 0)::z'):=fun _ h=>List.mem_cons_of_mem _ h
 refine wpAny_newObj_type (k _ (.tup vs) σ' _ _ (sub.trans sub') (W'.push (tupObj rs 0) rfl) (.tup (.head _) (hvs.mono sub')) ⟨sm.gens,sm.drawn,sm.os⟩ hq) ?_
 show rs.toArray.size≤sizeLine
 rw [List.size_toArray,←hvs.length]
 exact Nat.le_trans hl (by decide)
noncomputable def GI (w:World)(ov iv v:V)(σ:St):Prop :=
 ∀ (K:Frag) (fn:FnS) (d:Nat) (X:Fx w K fn d) (m:Mp) (z:Led) (s:Shared) (ro ri:Value),Wd X m σ z s→VR z ov ro→VR z iv ri →
  (∃ T id,s.TypeIs ro T∧typeLookup (.type T) "__getitem__" = pure (some (.builtin id))) ∧
  ∀ (QR:Value→Shared→Prop) (E:Value→Shared→Prop),(∀ r tk,VR z v r→QR r {s with toks:=tk})→wpAny (M w) X.A (getItem ro ri) QR E s
theorem gi_lst {vs:List V}{i:Nat}{k:Int}{v:V}(hk:k=(i:Int))(hi:vs[i]?=some v)(hz:(i:Int)<2^62):GI w (.lst vs) (.int k) v σ:=by
 subst hk
 intro K fn d X m z s ro ri W ho hi'
 refine hi'.i_int fun t=>ho.i_lst fun rs a n hm hs=>?_
 refine xEAoo (hs.get hi) fun r e hr=>?_
 have hl:s.heap.IsList a rs.toArray:=⟨_,W.zget hm,rfl,n,rfl⟩
 exact ⟨⟨_,_,hl.typeIs,slot_list_getitem.lookup⟩,fun QR E k=>wpAny_getItem_list hl (by lia) (by lia) (by simpa using e) (k _ s.toks hr)⟩
theorem gi_own {a:Addr}{vs:List V}{i:Nat}{k:Int}{v:V}(hσ:(a,Cell.lst vs)∈σ)(hk:k=(i:Int))(hi:vs[i]?=some v)(hz:(i:Int)<2^62):GI w (.own a) (.int k) v σ:=by
 subst hk
 intro K fn d X m z s ro ri W ho hi'
 refine hi'.i_int fun t=>ho.i_own ?_
 refine xEEAoo (W.cellL hσ) fun rs n e hs=>?_
 refine xEAoo (hs.get hi) fun r e' hr=>?_
 have hl:s.heap.IsList a rs.toArray:=⟨_,e,rfl,n,rfl⟩
 exact ⟨⟨_,_,hl.typeIs,slot_list_getitem.lookup⟩,fun QR E k=>wpAny_getItem_list hl (by lia) (by lia) (by simpa using e') (k _ s.toks hr)⟩
theorem gi_own_last {a:Addr}{vs:List V}{v:V}(hσ:(a,Cell.lst (vs++[v]))∈σ)(hz:vs.length<2^60):GI w (.own a) (.int (-1)) v σ:=by
 intro K fn d X m z s ro ri W ho hi'
 refine hi'.i_int fun t=>ho.i_own ?_
 refine xEEAoo (W.cellL hσ) fun rs n e hs=>?_
 refine xEAoo (hs.get (i:=vs.length) (v:=v) (by simp)) fun r e' hr=>?_
 have hl:s.heap.IsList a rs.toArray:=⟨_,e,rfl,n,rfl⟩
 have len:rs.length=vs.length+1:=by rw [←hs.length];simp
 refine ⟨⟨_,_,hl.typeIs,slot_list_getitem.lookup⟩,fun QR E k=>wpAny_getItem_list_neg hl (by decide) (by rw [List.size_toArray];lia) (by simp) (x:=r) ?_ (k _ s.toks hr)⟩
 rw [List.size_toArray]
 have e2:((-1:Int)+(rs.length:Int)).toNat=vs.length:=by lia
 rw [e2];simpa using e'
theorem gi_tup {vs:List V}{k:Int}{j:Nat}{v:V}(h1 : -(2^63)≤k)(h2:k<2^63)(hj:seqIndex? k vs.length=some j)(hi:vs[j]?=some v):GI w (.tup vs) (.int k) v σ:=by
 intro K fn d X m z s ro ri W ho hi'
 refine hi'.i_int fun t=>ho.i_tup fun rs a n hm hs=>?_
 refine xEAoo (hs.get hi) fun r e hr=>?_
 have hl:IsTup s.heap a rs.toArray:=⟨_,W.zget hm,rfl,n,rfl⟩
 exact ⟨⟨_,_,hl.typeIs,PyProof.Rows.slot_tuple_getitem.lookup⟩,fun QR E k=>getItem_tuple hl h1 h2 (by rw [List.size_toArray,←hs.length];exact hj) (by simpa using e) (k _ s.toks hr)⟩
theorem gi_str {x:PySem.Str}{k:Int}{c:Nat}(h1 : -(2^63)≤k)(h2:k<2^63)(hc:((seqIndex? k x.length).bind fun j=>x.cps[j]?)=some c):GI w (.str x) (.int k) (.str ⟨#[c]⟩) σ:=by
 intro K fn d X m z s ro ri W ho hi'
 refine hi'.i_int fun t=>ho.i_str fun u=>?_
 refine ⟨⟨_,_,typeIs_str s _ _,PyProof.Rows.slot_str_getitem.lookup⟩,fun QR E k=>getItem_str ?_ hc (k _ _ (.str _ _))⟩
 simp;lia
noncomputable def partOf:Option V→Option Int
 |some (.int i)=>some i
 |_=>none
noncomputable def EVp (w:World)(K:Frag)(fn:FnS)(d:Nat)(m:Mp)(e:Option Expr)(σ:St)(Q:Option Int→St→Prop):Prop:=match e with
 |none=>Q none σ
 |some e=>EV w K fn d m e σ fun v σ'=>∃ i,v=.int i∧Q (some i) σ'
theorem evp_use {e:Option Expr}{Q:Option Int→St→Prop}(h:EVp w K fn d m e σ Q){X:Fx w K fn d}{z:Led}{s:Shared}{QR:Value→Shared→Prop}{E:Value→Shared→Prop}(W:Wd X m σ z s)
  (k:∀ r p σ' z' s',Sub z z'→Wd X m σ' z' s'→IsPart r p→(∀ i,p=some i→∃ t,r=.int i t)→(p=none→r=.none)→Sm s s'→Q p σ'→QR r s'):wpAny (M w) X.A (evalPart e X.env) QR E s:=by
 cases e with
 |none=>exact evalPart_none_step (k _ none σ z s Sub.same W (by first | exact .none | exact rfl | trivial) (fun _ h=>nomatch h) (fun _=>rfl) Sm.same h)
 |some e =>
  refine evalPart_some_step (h X z s _ E W ?_)
  rintro r v σ' z' s' sub W' hv sm ⟨i,rfl,hq⟩
  exact hv.i_int fun t=>k _ (some i) σ' z' s' sub W' (by first | exact .int _ _ | exact ⟨_,rfl⟩) (fun j h=>Option.some.inj h▸⟨_,rfl⟩) (fun h=>nomatch h) sm hq
end NN
end
section
open PySem PySem.W PySem.Calls PyProof.Rows
namespace NN
variable {w:World}{K:Frag}{fn:FnS}{d:Nat}{m:Mp}{σ:St}
theorem Wd.weak {X:Fx w K fn d}{z:Led}{s:Shared}(W:Wd X m σ z s){v v':V}{σ':St}{r:Value}(hw:Wk v σ v' σ')(hv:VR z v r):∃ z',Sub z z'∧Wd X m σ' z' s∧VR z' v' r:=by
 obtain ⟨m',L,R⟩:=W
 refine xEAoAoo (L.weak hw hv) fun z' a b c=>?_
 exact ⟨z',a,⟨m',b,R.mono a⟩,c⟩
theorem ev_back {e:Expr}{Q:V→St→Prop}(h:EV w K fn d m e σ (Back Q)):EV w K fn d m e σ Q:=by
 intro X z s QR E W k
 refine h X z s _ E W ?_
 rintro r v σ' z' s' sub W' hv sm ⟨v',σ'',hw,hq⟩
 refine xEAoAoo (W'.weak hw hv) fun z'' sub' W'' hv'=>?_
 exact k r v' σ'' z'' s' (sub.trans sub') W'' hv' sm hq
theorem go_str {o:Expr}{x:PySem.Str}{t:Tok}{r:Value}:letTemporaryGo o (.str x t) r=pure ():=by cases o<;>rfl
theorem ev_slice_str {o:Expr}{lo hi:Option Expr}{p pos:Pos}{Q:V→St→Prop}
  (h:EV w K fn d m o σ fun ov σ₁=>∃ x:PySem.Str,ov=.str x∧x.length≤16777216∧EVp w K fn d m lo σ₁ fun l σ₂=>EVp w K fn d m hi σ₂ fun u σ₃=>Q (.str (Txt.slice x l u)) σ₃) :
  EV w K fn d m (.Subscript o (.Slice lo hi none p) pos) σ Q:=by
 intro X z s QR E W k
 refine Subscript_ (h X z s _ E W ?_)
 rintro ro ov σ₁ z₁ s₁ sub₁ W₁ vo sm₁ ⟨x,rfl,hx,h₁⟩
 refine vo.i_str fun t=>?_
 ·have hxz:x.length≤sizeLine:=Nat.le_trans hx (by decide)
  refine wpAny_Slice (evp_use h₁ W₁ ?_)
  intro rl l σ₂ z₂ s₂ sub₂ W₂ hl hl1 hl2 sm₂ h₂
  refine evp_use h₂ W₂ ?_
  intro ru u σ₃ z₃ s₃ sub₃ W₃ hu hu1 hu2 sm₃ h₃
  refine evalPart_none_step ?_
  refine xEEAoAoo W₃.heap fun m' news F N go=>?_
  have fin:∀ (h':Heap) (t':Tok) (k':Nat),Fr X.h₀ X.L h' m'→News X.h₀ X.L h' news→QR (.str (Txt.slice x l u) t') {s₃ with heap:=h',toks:=k'}:=fun h' t' k' F' N' =>
   k _ _ σ₃ z₃ _ ((sub₁.trans sub₂).trans sub₃) (go h' k' F' N') (.str _ _) (((sm₁.trans sm₂).trans sm₃).trans ⟨rfl,rfl,rfl⟩) h₃
  cases l with
  |none =>
   rw [hl2 rfl]
   cases u with
   |none=>rw [hu2 rfl];exact slice_strN_nn F N fin rfl (fun _=>go_str) hxz
   |some j=>refine xEo (hu1 j rfl) fun tj er1=>?_;subst er1;exact slice_strN_ns F N fin rfl (fun _=>go_str) hxz
  |some i =>
   refine xEo (hl1 i rfl) fun ti er1=>?_;subst er1
   cases u with
   |none=>rw [hu2 rfl];exact slice_strN_sn F N fin rfl (fun _=>go_str) hxz
   |some j=>refine xEo (hu1 j rfl) fun tj er1=>?_;subst er1;exact slice_strN_ss F N fin rfl (fun _=>go_str) hxz
theorem ev_slice_lst {o:Expr}{lo hi:Option Expr}{p pos:Pos}{Q:V→St→Prop}
  (h:EV w K fn d m o σ fun ov σ₁=>∃ vs,(ov=.lst vs∨∃ a,ov=.own a∧(a,Cell.lst vs)∈σ₁)∧vs.length≤1000000∧EVp w K fn d m lo σ₁ fun l σ₂=>EVp w K fn d m hi σ₂ fun u σ₃ =>
   (∀ a,ov=.own a→(a,Cell.lst vs)∈σ₃)∧∃ ws,(∀ rs:List Value,rs.length=vs.length→∃ f:List Nat,slicePick rs.toArray l u none=(f.filterMap (rs[·]?)).toArray∧ws=f.filterMap (vs[·]?)∧∀ i∈f,i<vs.length)∧Q (.lst ws) σ₃)
  (ht:∀ o' r,letTemporaryGo o o' r=pure ()):EV w K fn d m (.Subscript o (.Slice lo hi none p) pos) σ Q:=by
 intro X z s QR E W k
 refine wpAny_Subscript_list_slice (h X z s _ E W ?_) ht
 rintro ro ov σ₁ z₁ s₁ sub₁ W₁ vo sm₁ ⟨vs,hov,hz,h₁⟩
 refine evp_use h₁ W₁ ?_
 intro rl l σ₂ z₂ s₂ sub₂ W₂ hl hl1 hl2 sm₂ h₂
 refine evp_use h₂ W₂ ?_
 rintro ru u σ₃ z₃ s₃ sub₃ W₃ hu hu1 hu2 sm₃ ⟨hkeep,ws,hpick,hq⟩
 refine xEEEAoAoo (by
  have vo':=(vo.mono sub₂).mono sub₃
  rcases hov with rfl | ⟨a,rfl,_⟩
  ·exact vo'.i_lst fun _ _ _ hm hs=>⟨_,_,_,rfl,W₃.zget hm,hs⟩
  ·exact vo'.i_own (xEEAoo (W₃.cellL (hkeep a rfl)) fun rs n e hs=>⟨a,rs,n,rfl,e,hs⟩):∃ a rs n,ro=.ref a∧s₃.heap.get? a=some (lstObj rs n)∧VRs z₃ vs rs) fun a rs n er1 he hs=>?_;subst er1
 refine xEAoAoo (hpick rs hs.length.symm) fun f e1 e2 hf=>?_
 refine ⟨a,rs.toArray,l,u,rfl,⟨_,he,rfl,n,rfl⟩,?_,hl,hu,?_⟩
 ·rw [List.size_toArray,←hs.length];exact Nat.le_trans hz (by decide)
 ·have hws:VRs z₃ ws (f.filterMap (rs[·]?)):=by
   rw [e2]
   clear e1 e2 hq hpick
   induction f with
   |nil=>exact .nil
   |cons i f ih =>
    have hi:=hf i (.head _)
    refine xEAoo (hs.get (List.getElem?_eq_getElem hi)) fun r er hr=>?_
    rw [List.filterMap_cons,List.filterMap_cons,er,List.getElem?_eq_getElem hi]
    exact .cons hr (ih fun j hj=>hf j (.tail _ hj))
  have W₄:=W₃.push (o:={cls:=.type "slice",data:=.fields #[rl,ru,.none]}) rfl
  have sub₄:Sub z₃ ((s₃.heap.objs.size,{cls:=.type "slice",data:=.fields #[rl,ru,.none]})::z₃):=fun _ h=>List.mem_cons_of_mem _ h
  have W₅:=W₄.push (lstObj (f.filterMap (rs[·]?)) 0) rfl
  have sz:(s₃.heap.push {cls:=.type "slice",data:=.fields #[rl,ru,.none]}).objs.size=s₃.heap.objs.size+1:=Heap.size_push ..
  have sub₅:Sub z₃ (((s₃.heap.push {cls:=.type "slice",data:=.fields #[rl,ru,.none]}).objs.size,lstObj (f.filterMap (rs[·]?)) 0)::(s₃.heap.objs.size,{cls:=.type "slice",data:=.fields #[rl,ru,.none]})::z₃):=fun _ h=>List.mem_cons_of_mem _ (List.mem_cons_of_mem _ h)
  refine k _ (.lst ws) σ₃ _ _ (((sub₁.trans sub₂).trans sub₃).trans sub₅) ?_ (.lst (n:=0) (rs:=f.filterMap (rs[·]?)) (.head _|>(sz▸·)) (hws.mono sub₅)) (((sm₁.trans sm₂).trans sm₃).trans ⟨rfl,rfl,rfl⟩) hq
  rw [e1];exact W₅
theorem setL_ok:∀ {l:List Value} {i:Nat} {v:Value},i<l.length→ki_setL l i v=some (l.set i v)
 |[],_,_,h=>absurd h (Nat.not_lt_zero _)
 |_::_,0,_,_=>rfl
 |_::r,i+1,v,h=>by
  unfold ki_setL
  rw [setL_ok (l:=r) (i:=i) (v:=v) (by simpa using h)]
  rfl
theorem e1_setitem {o i value:Expr}{p' pos:Pos}{Q:Fl→Mp→St→Prop}
  (h:EV w K fn d m value σ fun v σ₁=>EV w K fn d m o σ₁ fun ov σ₂=>EV w K fn d m i σ₂ fun iv σ₃=>∃ a vs k j σ₄,ov=.own a∧iv=.int k∧seqIndex? k vs.length=some j∧j<vs.length ∧ -(2^62)<k∧k<2^62∧Upc a (.lst vs) (.lst (vs.set j v)) σ₃ σ₄∧Q .next m σ₄)
  (hs:∀ env,swapsWith value (some (.Subscript o i p')) pos.line env=pure false):E1 w K fn d (.Assign [.Subscript o i p'] value pos) m σ Q:=by
 intro X z s QR E W kk
 refine wpAny_Assign_Subscript (h X z s _ E W ?_) (hs _)
 intro rv v σ₁ z₁ s₁ sub₁ W₁ vv sm₁ h₁
 refine h₁ X z₁ s₁ _ E W₁ ?_
 intro ro ov σ₂ z₂ s₂ sub₂ W₂ vo sm₂ h₂
 refine h₂ X z₂ s₂ _ E W₂ ?_
 rintro ri iv σ₃ z₃ s₃ sub₃ W₃ vi sm₃ ⟨a,vs,k,j,σ₄,rfl,rfl,hj,hlt,hk1,hk2,U,hq⟩
 refine vo.i_own (vi.i_int fun t=>?_)
 refine xEAoAoo (W₃.upc U) fun os hc hget hup=>?_
 revert hget hup
 refine hc.i_lst fun rs n hr hget hup=>?_
 ·have hrl:rs.length=vs.length:=hr.length.symm
  refine xEEEAoAoAoAoo (hup a (lstObj rs n) (lstObj (rs.set j rv) n) [] [] rfl (.lst (hr.set ((vv.mono sub₂).mono sub₃)))) fun m' news news' F N hin U' back=>?_
  have done:∀ h',Fr X.h₀ X.L h' m'→News X.h₀ X.L h' news'→QR .next {s₃ with heap:=h'}:=fun h' F' N' =>
   kk .next .next m σ₄ z₃ _ ((sub₁.trans sub₂).trans sub₃) (back h' _ F' N') .next (((sm₁.trans sm₂).trans sm₃).trans ⟨rfl,rfl,rfl⟩) hq
  by_cases h0:0≤k
  ·have ej:k.toNat=j:=by
    unfold seqIndex? at hj
    simp only [show ¬ k<0 by lia,if_false] at hj
    split at hj
    ·exact Option.some.inj hj
    ·cases hj
   exact ki_set F N h0 (by exact zzg) (by rw [ej];exact setL_ok (by rw [hrl];exact hlt)) U' done
  ·exact ki_setNeg F N (by lia) (by lia) (by rw [List.size_toArray,hrl];exact hj) (setL_ok (by rw [hrl];exact hlt)) U' done
theorem Wd.grow {X:Fx w K fn d}{z:Led}{s:Shared}(W:Wd X m σ z s){h':Heap}{tk:Nat}(hk:∀ b o,s.heap.get? b=some o→h'.get? b=some o):Wd X m σ z {s with heap:=h',toks:=tk}:=by
 obtain ⟨m',⟨cl,F,N,nd,S⟩,R⟩:=W
 exact ⟨m',⟨cl,⟨F.ns.keeps hk,fun b o e=>hk b o (F.keep b o e),F.above⟩,fun p hp=>⟨hk _ _ (N p hp).1,(N p hp).2⟩,nd,S⟩,R⟩
theorem bc_tuple {ov:V}{vs:List V}{Q:V→St→Prop}(hov:ov=.lst vs∨∃ a,ov=.own a∧(a,Cell.lst vs)∈σ)(hz:vs.length≤1000000)(h:Q (.tup vs) σ):BC w (.type "tuple") [ov] σ Q:=by
 intro K fn d X m z s rs QR E W hv k
 refine hv.i1 fun r h1=>?_
 ·refine xEEEAoAoo (by
   rcases hov with rfl | ⟨a,rfl,hσ⟩
   ·exact h1.i_lst fun _ _ _ hm hs=>⟨_,_,_,rfl,W.zget hm,hs⟩
   ·exact h1.i_own (xEEAoo (W.cellL hσ) fun rs n e hs=>⟨a,rs,n,rfl,e,hs⟩):∃ a rs n,r=.ref a∧s.heap.get? a=some (lstObj rs n)∧VRs z vs rs) fun a rs n er1 he hs=>?_;subst er1
  refine call_tuple_list (items:=rs.toArray) ⟨_,he,rfl,n,rfl⟩ (fun h' hk=>?_) ?_
  ·have W':=(W.grow (tk:=s.toks) hk).push (tupObj rs 0) rfl
   have sub:Sub z ((h'.objs.size,tupObj rs 0)::z):=fun _ h=>List.mem_cons_of_mem _ h
   exact k _ _ σ _ _ sub W' (.tup (.head _) (hs.mono sub)) ⟨rfl,rfl,rfl⟩ h
  ·rw [List.size_toArray,←hs.length];exact Nat.le_trans hz (by decide)
noncomputable def V.isNone:V→Bool
 |.none=>true
 |_=>false
theorem isNone_eq {z:Led}{v:V}{ra:Value}(h1:VR z v ra)(hv:∀ u,v≠.raw u):(ra == Value.none)=v.isNone:=by cases h1<;>first | rfl | exact absurd rfl (hv _)
theorem op_is_none {v:V}(hv:∀ u,v≠.raw u):OP2 w K σ (compareOp .Is) v .none (.bool v.isNone):=by
 intro fn d X m z ra rb s QR E _ h1 h2 k
 refine h2.i_none (is_none ?_)
 rw [isNone_eq h1 hv]
 exact k _ s.toks (.bool _)
theorem op_isnot_none {v:V}(hv:∀ u,v≠.raw u):OP2 w K σ (compareOp .IsNot) v .none (.bool (!v.isNone)):=by
 intro fn d X m z ra rb s QR E _ h1 h2 k
 refine h2.i_none (isNot_none ?_)
 rw [isNone_eq h1 hv]
 exact k _ s.toks (.bool _)
theorem e1_try {body:List Stmt}{hd:ExceptHandler}{hs:List ExceptHandler}{pos:Pos}{Q:Fl→Mp→St→Prop}(h:EX w K fn d body m σ Q):E1 w K fn d (.Try body (hd::hs) [] [] pos) m σ Q:=by
 intro X z s QR E W k
 refine wpAny_Try_except (h X z s _ _ W ?_)
 intro r f m' σ' z' s' sub W' hf sm hq
 have:=k r f m' σ' z' s' sub W' hf sm hq
 cases r with
 |next=>exact wpAny_execs_nil this
 |brk=>exact this
 |cont=>exact this
 |ret v=>exact this
end NN
end
section
open PySem PySem.W PySem.Calls PyProof.Rows
namespace NN
variable {w:World}{K:Frag}{fn:FnS}{d:Nat}{m:Mp}{σ:St}
theorem ev_cell {x:PySem.Str}{pos:Pos}{a:Addr}{v:V}{Q:V→St→Prop}(nd:(fn.sc.names.map (·.1)).Nodup)(hx:(x,NameKind.cell)∈fn.sc.names)(hc:fn.cl.lookup x=some a)
  (hσ:(a,Cell.cel (some v))∈σ) (hb:notDebug x) (h:Q v σ):EV w K fn d m (.Name x pos) σ Q:=by
 intro X z s QR E W k
 obtain ⟨m',⟨cl,F,N,ndk,S⟩,R⟩:=id W
 refine xEAoo (S.mem hσ) fun os hcr sub=>?_
 cases hcr with
 |cel hd hv =>
  have N₁:=N _ (List.mem_append_left _ (sub _ (.head _)))
  exact wpAny_Name (wpAny_loadName_cell X.hek (kind_of nd hx) (by rw [X.hcl];exact hc) ⟨_,N₁.1,hd⟩ (k _ v σ z s Sub.same W hv Sm.same h)) hb
theorem store_cell {X:Fx w K fn d}{z:Led}{s:Shared}{x:PySem.Str}{r:Value}{v:V}{a:Addr}{u:Option V}{σ':St}(W:Wd X m σ z s)(nd:(fn.sc.names.map (·.1)).Nodup)(hx:(x,NameKind.cell)∈fn.sc.names)
  (hc:fn.cl.lookup x=some a) (U:Upc a (.cel u) (.cel (some v)) σ σ') (hv:VR z v r) {Q:Unit→Shared→Prop} {E:Value→Shared→Prop} (k:∀ s',Sm s s'→Wd X m σ' z s'→Q () s'):wpAny (M w) X.A (storeName X.env x r) Q E s:=by
 refine xEAoAoo (W.upc U) fun os hcr hget hup=>?_
 have go:∀ (o:Obj) (v₀:Option Value),os=[(a,o)]→o.data=.cell v₀→wpAny (M w) X.A (storeName X.env x r) Q E s:=by
  rintro o v₀ rfl hd
  refine wpAny_storeName_cell X.hek (kind_of nd hx) (by rw [X.hcl];exact hc) ⟨o,hget _ (.head _),hd⟩ fun h' hi hs=>?_
  refine xEAoo hi fun o' ho' hd'=>?_
  refine xEEEAoAoAoAoo (hup a o o' [] [] rfl (.cel hd' hv)) fun m' news news' F N hin U' back=>?_
  refine xEEAoAoAoo U'.split fun pre post er1 er2 h1 h2=>?_;subst er1;subst er2
  have hm:=N (a,o) (List.mem_append_right _ (.head _))
  exact k _ ⟨rfl,rfl,rfl⟩ (back h' _ (F.change hs hm.2.1 hm.2.2) (N.setAt h1 h2 hs ho'))
 cases hcr with
 |cel0 hd=>exact go _ _ rfl hd
 |cel hd _=>exact go _ _ rfl hd
theorem e1_assign_cell {x:PySem.Str}{p':Pos}{value:Expr}{pos:Pos}{a:Addr}{Q:Fl→Mp→St→Prop}(nd:(fn.sc.names.map (·.1)).Nodup)(hx:(x,NameKind.cell)∈fn.sc.names)(hc:fn.cl.lookup x=some a)
  (h:EV w K fn d m value σ fun v σ'=>∃ u σ'',Upc a (.cel u) (.cel (some v)) σ' σ''∧Q .next m σ'')
  (hs:∀ env,swapsWith value (some (.Name x p')) pos.line env=pure false):E1 w K fn d (.Assign [.Name x p'] value pos) m σ Q:=by
 intro X z s QR E W k
 refine wpAny_Assign_Name (h X z s _ E W ?_) (hs _)
 rintro r v σ' z' s' sub W' hv sm ⟨u,σ'',U,hq⟩
 exact store_cell W' nd hx hc U hv fun s₂ sm₂ W₂=>k .next .next m σ'' z' s₂ sub W₂ .next (sm.trans sm₂) hq
theorem ev_neg {x:Expr}{pos:Pos}{Q:V→St→Prop}(h:EV w K fn d m x σ fun v σ'=>∃ i,v=.int i∧Q (.int (-i)) σ'):EV w K fn d m (.UnaryOp .USub x pos) σ Q:=by
 intro X z s QR E W k
 refine UnaryOp_ (h X z s _ E W ?_)
 rintro r v σ' z' s' sub W' hv sm ⟨i,rfl,hq⟩
 exact hv.i_int fun _=>P.neg_int (k _ _ σ' z' _ sub (W'.tok _) (.int _ _) (sm.trans Sm.tok) hq)
structure DefInC (K:Frag)(fn:FnS)(body:List Stmt)(ps:List PySem.Str)(cs:List PySem.Str)(rest:Nms):Prop where
 at_:∃ name params dV kV doc pm ct oc an od osl,K.lookup fn.a=some ⟨oc,od,.func (fnOf name fn.q params body fn.sc dV kV doc pm an fn.cd ct),osl⟩ ∧
  ∀ (s:Shared) (rs:List Value),K.In s.heap→rs.length=ps.length→BindsTo s (fnOf name fn.q params body fn.sc dV kV doc pm an fn.cd ct) ⟨rs,[]⟩ (ps.zip rs)
 code:codeIn K fn.cd fn.q=true
 names:fn.sc.names=ps.map (fun x=>(x,NameKind.local))++rest
 nd:(fn.sc.names.map (·.1)).Nodup
 kind:fn.sc.kind=.function
 comp:fn.comp=false
 co:fn.sc.isCoroutine=false
 gen:fn.sc.isGenerator=false
 cells:∀ n,cellsFrom n fn.sc.names []=(cs.zip (List.range' n cs.length)).reverse
 ndc:cs.Nodup
 ndp:∀ x∈cs,x∉ps
theorem Fx.look_plain {X:Fx w K fn d}(h:fn.comp=false){m':PySem.Str→Option Value}:X.look m'=m':=by
 unfold Fx.look;rw [if_neg (by rw [h];decide)]
theorem bindL_local {kd:PySem.Str→Option NameKind}:∀ {binds:List (PySem.Str×Value)} {m:PySem.Str→Option Value},(∀ y∈binds,kd y.1=some .local)→∀ y,bindL kd binds m y=match binds.reverse.lookup y with | some v=>some v | none=>m y
 |[],m,_,y=>rfl
 |(n,v)::r,m,h,y=>by
  show bindL kd r (if kd n=some .local then fun y=>if y=n then some v else m y else m) y=_
  rw [if_pos (h (n,v) (.head _)),bindL_local fun y hy=>h y (.tail _ hy)]
  rw [List.reverse_cons,List.lookup_append]
  cases List.lookup y r.reverse with
  |some u=>rfl
  |none =>
   by_cases e:y=n
   ·subst e;simp
   ·simp [List.lookup_cons,beq_eq_false_iff_ne.mpr e,e]
theorem bindC_local {kd:PySem.Str→Option NameKind}:∀ {binds:List (PySem.Str×Value)} {m:PySem.Str→Option Value},(∀ y∈binds,kd y.1=some .local)→bindC kd binds m=m
 |[],_,_=>rfl
 |(n,v)::r,m,h=>by
  show bindC kd r (if kd n=some .local then m else fun y=>if y=n then some v else m y)=_
  rw [if_pos (h (n,v) (.head _)),bindC_local fun y hy=>h y (.tail _ hy)]
theorem cells_sr {z:Led}{cl:Led}(S:SR z σ cl):∀ {cs:List (PySem.Str×Addr)} {cells:Led},CellsAre (fun _=>none) cs cells→SR z (cs.map (fun c=>(c.2,Cell.cel none))++σ) (cells++cl)
 |_,_,.nil=>S
 |_,_,.cons h r=>.cons (os:=[_]) (.cel0 h) (cells_sr S r)
theorem cells_keys:∀ {cm:PySem.Str→Option Value} {cs:List (PySem.Str×Addr)} {cells:Led},CellsAre cm cs cells→cells.map (·.1)=cs.map (·.2)
 |_,_,_,.nil=>rfl
 |_,_,_,.cons _ r=>congrArg (_::·) (cells_keys r)
theorem call_defC {body:List Stmt}{ps cs:List PySem.Str}{rest:Nms}(D:DefInC K fn body ps cs rest){vs:List V}(hl:vs.length=ps.length){Q:V→St→Prop}
  (h:∀ n:Nat,EX w K {fn with cl:=(cs.zip (List.range' n cs.length)).reverse} d body (vs.map some++List.replicate rest.length none) (((cs.zip (List.range' n cs.length)).reverse.map fun c=>(c.2,Cell.cel none))++σ) fun f _ σ'=>Back Q (retv f) σ'):CALL w K (d+1) (.ref fn.a) vs σ Q:=by
 refine xEEEEEEEEEEEAoo D.at_ fun name params dV kV doc pm ct oc an od osl ho hb=>?_
 intro fn₀ d' X₀ m₀ A z s rs R hA hh hdep hun W hvs k
 obtain ⟨cl,F,N,nd,S⟩:=id W
 have ndp:ps.Nodup:=by
  have:=D.nd
  rw [D.names,List.map_append,List.map_map] at this
  have:=(List.nodup_append.mp this).1
  simpa [Function.comp_def] using this
 have hloc:∀ y∈ps.zip rs,fn.sc.names.lookup y.1=some .local:=by
  intro y hy
  refine lookup_of_mem D.nd ?_
  rw [D.names]
  refine List.mem_append_left _ (List.mem_map.mpr ⟨y.1,?_,rfl⟩)
  exact (List.of_mem_zip (show (y.1,y.2)∈_ from hy)).1
 have hcs:∀ n,((cs.zip (List.range' n cs.length)).reverse.map (·.1)).Nodup∧((cs.zip (List.range' n cs.length)).reverse.map (·.2)).Nodup∧∀ c∈(cs.zip (List.range' n cs.length)).reverse.map (·.2),n≤c:=by
  intro n
  refine ⟨?_,?_,?_⟩
  ·rw [List.map_reverse,(List.reverse_perm _).nodup_iff,List.map_fst_zip (by simp)];exact D.ndc
  ·rw [List.map_reverse,(List.reverse_perm _).nodup_iff,List.map_snd_zip (by simp)];exact List.nodup_range'
  ·intro c hc
   rw [List.map_reverse,List.mem_reverse,List.map_snd_zip (by simp)] at hc
   exact (List.mem_range'_1.mp hc).1
 refine callX_cells (env:=X₀.fenv) X₀.B F N X₀.T.nolimit (hA.trans X₀.hA) X₀.hfr X₀.hfk (W.keep _ _ ho) rfl (codeRec_of W.keep D.code) (by show _<1000;lia) (hb s rs W.keep (by rw [←hvs.length];exact hl)) (fun _ x hx=>.inl (hloc x hx)) (by rw [D.cells];exact (hcs 0).1) ?_ D.co D.gen D.kind
 intro g L' h₁ tk cells FG F' N' CA B' st lt
 rw [D.cells] at CA
 have hkl:∀ y∈ps.zip rs,(envOfC fn.q fn.sc L' fn.a fn.cd).kindOf y.1=some .local:=hloc
 rw [bindC_local hkl] at CA
 let X:Fx w K {fn with cl:=(cs.zip (List.range' (L'+1) cs.length)).reverse} d:={
  A:=A.deeper (envOfC fn.q fn.sc L' fn.a fn.cd),A₀:=A,base:=X₀.base,h₀:=g,outer:=X₀.fenv::X₀.outer,L:=L',env:=envOfC fn.q fn.sc L' fn.a fn.cd,fenv:=envOfC fn.q fn.sc L' fn.a fn.cd,mc:=fun _=>none,co:=dictOf [] 0,ext:=X₀.ext,mo:=fun _=>none,p:=X₀.p,loose:=X₀.loose,mg:=X₀.mg,mb:=X₀.mb
  B:=B',T:=X₀.T.keeps st,X:=X₀.X.keeps st
  hA:=Around.frames_deeper (hA.trans X₀.hA),hk:=D.kind,hfr:=rfl,hfk:=D.kind,hsc:=rfl,hgl:=rfl,hbu:=rfl,hcl:=D.cells _,hloc:=fun _=>rfl
  hce:=fun e=>by have e':fn.comp=true:=e;rw [D.comp] at e';cases e'
  hco:=fun h e=>⟨_,_,_,e,rfl,fun k hk=>by simp at hk,fun x=>rfl⟩
  hd:=by show A.depth+1+d+5≤1000;lia
  hu:=by show A.units+3+20*d+100≤9900;lia
  hh:=hh}
 have key:=cells_keys CA
 have W₁:Wd X (vs.map some++List.replicate rest.length none) (((cs.zip (List.range' (L'+1) cs.length)).reverse.map fun c=>(c.2,Cell.cel none))++σ) z {s with heap:=h₁,toks:=tk}:=by
  refine ⟨_,⟨cells++cl,F',?_,?_,cells_sr S CA⟩,⟨?_,fun e=>by have e':fn.comp=true:=e;rw [D.comp] at e';cases e'⟩⟩
  ·rw [List.append_assoc];exact N'
  ·rw [List.append_assoc,List.map_append,key,List.nodup_append]
   refine ⟨(hcs _).2.1,nd,fun a ha b hb=>?_⟩
   refine xEAoo (List.mem_map.mp hb) fun p hp er1=>?_;subst er1
   have h1:=(hcs _).2.2 a ha
   have h2:=lt p hp
   exact Nat.ne_of_gt (Nat.lt_of_lt_of_le h2 (Nat.le_trans (Nat.le_succ _) h1))
  ·show MR z (Fx.look X _) fn.sc.names _
   rw [D.names]
   have e:Fx.look X (bindL (envOfC fn.q fn.sc L' fn.a fn.cd).kindOf (ps.zip rs) fun _=>none)=fun y=>(ps.zip rs).reverse.lookup y:=by
    rw [Fx.look_plain (X:=X) D.comp]
    funext y
    rw [bindL_local hkl]
    cases (ps.zip rs).reverse.lookup y<;>rfl
   rw [e]
   exact MR.start ndp hvs hl.symm
 refine h _ X z _ _ _ W₁ ?_
 rintro r f m' σ' z' s' sub ⟨m'',W₂,R₂⟩ hf sm ⟨v',σ'',hw,hq⟩
 have close:∀ rv,VR z' (retv f) rv→LeaveK X₀.h₀ X₀.L m₀ g R rv s':=by
  intro rv hv
  obtain ⟨z'',sub',⟨cl'',F₃,N₃,nd₃,S₃⟩,hv'⟩:=W₂.weak hw hv
  exact ⟨L',m'',cl''++(z''++X₀.ext),F₃,N₃,fun F₄ N₄=>k _ v' σ'' z'' s' (sub.trans sub') ⟨cl'',F₄,N₄,nd₃,S₃⟩ hv' ⟨sm.gens,sm.drawn,sm.os⟩ hq⟩
 cases hf with
 |next=>exact close _ .none
 |brk=>exact close _ .none
 |cont=>exact close _ .none
 |ret hr=>exact close _ hr
end NN
end
section
open PySem PySem.W PySem.Calls PyProof.Rows
namespace NN
variable {w:World}{K:Frag}{fn:FnS}{d:Nat}{m:Mp}{σ:St}
noncomputable def closL:Nms→List (PySem.Str×Addr)→List (PySem.Str×Addr)→Option (List (PySem.Str×Addr))
 |[],_,acc=>some acc
 |(n,k)::r,cs,acc=>if k == .free then match cs.lookup n with
   |some a=>closL r cs ((n,a)::acc)
   |none=>none
  else closL r cs acc
theorem closL_for {env:Env}:∀ {ns:Nms} {acc cl:List (PySem.Str×Addr)},closL ns env.cells acc=some cl →
  (forIn ns acc (fun (x:PySem.Str×NameKind) (r:List (PySem.Str×Addr))=>(if (x.2 == .free)=true then do let a ←cellOf env x.1;pure (ForInStep.yield ((x.1,a)::r)) else pure (ForInStep.yield r):Sem (ForInStep (List (PySem.Str×Addr))))):Sem (List (PySem.Str×Addr)))=pure cl
 |[],acc,cl,h=>by cases h;rfl
 |(n,k)::r,acc,cl,h=>by
  rw [List.forIn_cons]
  unfold closL at h
  by_cases hk:(k == .free)=true
  ·rw [if_pos hk] at h
   simp only [hk,if_true]
   cases hl:env.cells.lookup n with
   |none=>rw [hl] at h;cases h
   |some a =>
    rw [hl] at h
    have e:cellOf env n=pure a:=by unfold cellOf;rw [hl]
    rw [e]
    simp only [pure_bind]
    exact closL_for h
  ·rw [if_neg hk] at h
   rw [if_neg hk]
   exact closL_for h
theorem closureFor_eq {scope:Scope}{env:Env}{cl:List (PySem.Str×Addr)}(h:closL scope.names env.cells []=some cl):closureFor scope env=pure cl:=by
 have e:=closL_for h
 unfold closureFor
 simp only [bind_pure]
 exact e
noncomputable def relS (scope sc:Scope):Scope:={scope with names:=scope.names.map fun (n,k)=>if (k == .free && sc.kind == .function && sc.names.lookup n == some .cell) then (n,.cell) else (n,k)}
noncomputable def mC (x:PySem.Str)(v:V)(ns:Nms):Mp:=ns.map fun p=>if p.1=x then some v else none
theorem MR.comp {z:Led}{m':PySem.Str→Option Value}{x:PySem.Str}{v:V}{r:Value}(hx:m' x=some r)(hv:VR z v r):∀ ns:Nms,MR z m' ns (mC x v ns)
 |[]=>.nil
 |(n,k)::ns=>by
  show MR z m' ((n,k)::ns) ((if n=x then some v else none)::mC x v ns)
  by_cases e:n=x
  ·rw [if_pos e];exact .yes (e▸hx) hv (MR.comp hx hv ns)
  ·rw [if_neg e];exact .no (MR.comp hx hv ns)
structure CWalk (X:Fx w K fn d)(z:Led)(vs:List V)(I:Addr)(fp:List Addr)(P:Nat→Value→Prop)(T:Nat→Heap→Prop):Prop where
 W:Walks PySem.Challenge.pw_nn0413_01 w X.A I fp [I] vs.length P T
 hI:∀ i h,T i h→∃ o,h.get? I=some o
 hT:∀ i h h' o nw,T i h→h.get? I=some o→h'.get? I=some o→(∀ b o,X.h₀.get? b=some o→h'.get? b=some o)→News X.h₀ X.L h' nw→(∀ p∈z,p∈nw)→T i h'
 hfp:∀ b∈fp,b=I∨∃ o,(b,o)∈z
 hP:∀ i v,P i v→∃ u,vs[i]?=some u∧VR z u v
noncomputable def CSRC (w:World)(it:V)(vs:List V):Prop :=
 ∀ (K:Frag) (fn:FnS) (d:Nat) (X:Fx w K fn d) (m:PySem.Str→Option Value) (σ:St) (z:Led) (s:Shared) (r:Value) (QR:Value→Shared→Prop) (E:Value→Shared→Prop),Ld X m z σ s→VR z it r →
  (∀ o fp P T,o.isFreed=false→CWalk X z vs s.heap.objs.size fp P T→T 0 (s.heap.push o)→QR (.ref s.heap.objs.size) {s with heap:=s.heap.push o})→wpAny (M w) X.A (pyIter r) QR E s
noncomputable abbrev fnC (fn:FnS)(scope:Scope)(clC:List (PySem.Str×Addr)):FnS:={fn with sc:=relS scope fn.sc,comp:=true,cl:=clC}
theorem perm6 {p q r:Addr×Obj}{cl z e:Led}:(cl++(z++p::q::r::e)).Perm (p::q::r::(cl++(z++e))):=by
 refine perm3.trans (List.Perm.cons _ (perm3.trans (List.Perm.cons _ perm3)))
theorem comp_gen {elt iter:Expr}{x:PySem.Str}{px:Pos}{scope:Scope}{pos:Pos}{clC:List (PySem.Str×Addr)}{QE:List V→St→Addr→Prop}{QQ:Value→Addr→Result→Shared→Prop}
  (hcell:∀ y∈scope.names,y.2≠.cell) (hk:scope.kind=.function) (hx:scope.names.lookup x=some .local)
  (h:EV w K fn d m iter σ fun it σ₁=>∃ vs,CSRC w it vs∧vs.length≤16000000∧∃ I:Nat→List V→St→Prop,I 0 [] σ₁ ∧
   (∀ i v ys σ,vs[i]?=some v→I i ys σ→EV w K (fnC fn scope clC) d (mC x v (relS scope fn.sc).names) elt σ fun y σ'=>I (i+1) (ys++[y]) σ')∧∀ ys σ a,I vs.length ys σ→QE ys σ a)
  {X:Fx w K fn d} {z:Led} {s:Shared} {E:Value→Shared→Prop} (W:Wd X m σ z s)
  (fin:∀ D C oC m₄ s₅ ysV σ' z',Sub z z'→Sm s s₅→Wd (X.with C oC) m ((D,.lst ysV)::σ') z' s₅→LCg.NsObj oC m₄→QE ysV σ' D→QQ (.ref D) C (.ok .next) s₅) :
  wpAny (M w) X.A (eval iter X.env) (fun xv s₁=>wpAny (M w) X.A (pyIter xv) (fun it s₂=>wpAny (M w) X.A (newList []) (fun acc s₃=>wpAny (M w) X.A (newFunctionEnv scope X.env.globals clC [] X.env.qual none .none (some X.env)) (fun cenv s₄ =>
   codeAny (M w) X.A (.compStart (.ListComp elt [⟨.Name x px,iter,[],0⟩] scope pos) 0 it acc {cenv with scope:=relabel scope X.env}) (QQ acc cenv.locals) s₄) E s₃) E s₂) E s₁) E s:=by
 refine h X z s _ E W ?_
 rintro rit it σ₁ z₁ s₁ sub₁ ⟨m',L₁,R₁⟩ hit sm₁ ⟨vs,hC,hsz,I,h0,hstep,hfin⟩
 refine hC K fn d X m' σ₁ z₁ s₁ rit _ E L₁ hit ?_
 intro o fp P T hfo CW T0
 obtain ⟨cl₁,F₁,N₁,nd₁,S₁⟩:=id L₁
 have hIf:∀ p∈cl₁++(z₁++X.ext),p.1≠s₁.heap.objs.size:=fun p hp=>Nat.ne_of_lt (Heap.lt_size (N₁ p hp).1)
 have fresh₀:X.h₀.get? s₁.heap.objs.size=none:=by
  cases e:X.h₀.get? s₁.heap.objs.size with
  |none=>rfl
  |some o'=>exact absurd (Heap.lt_size (F₁.keep _ _ e)) (Nat.lt_irrefl _)
 have up:∀ b o',s₁.heap.get? b=some o'→(s₁.heap.push o).get? b=some o':=fun b o' e=>Heap.get?_push_of_some _ e
 have core:∀ (j i:Nat) (ysV:List V) (ys:List Value) (σ':St) (cl z':Led) (s₂:Shared),i+j=vs.length→I i ysV σ'→Sub z₁ z'→SR z' σ' cl→((cl++(z'++X.ext)).map (·.1)).Nodup→VRs z' ysV ys →
   LCg.CompRest PySem.Challenge.pw_nn0413_01 w X.A X.h₀ X.L m' X.env elt x scope clC s₂ (fun nw=>∀ p∈z₁,p∈nw) P (fun ys news=>∃ ysV σ' cl z',news=cl++(z'++X.ext)∧I vs.length ysV σ'∧Sub z₁ z'∧SR z' σ' cl∧((cl++(z'++X.ext)).map (·.1)).Nodup∧VRs z' ysV ys) j i ys (cl++(z'++X.ext)):=by
  intro j
  induction j with
  |zero =>
   intro i ysV ys σ' cl z' s₂ hij hI sub S nd hv
   obtain rfl:i=vs.length:=by omega
   exact LCg.CompRest.zero ⟨ysV,σ',cl,z',rfl,hI,sub,S,nd,hv⟩
  |succ j ih =>
   intro i ysV ys σ' cl z' s₂ hij hI sub S nd' hv
   refine LCg.CompRest.succ ?_
   intro v I' oI C oC D m₂ h' tk E' hPv hns hm₂ F N off ne
   refine xEAoo (CW.hP i v hPv) fun u hu hvr=>?_
   have off3:=off.mem
   let X':Fx w K (fnC fn scope clC) d:={X with
    env:=compEnvC scope clC C X.env,mc:=m₂,co:=oC,ext:=(I',oI)::(C,oC)::(D,LCg.lst ys)::X.ext,mo:=m'
    hk:=hk,hsc:=by show relabel scope X.env=relS scope fn.sc;rw [←X.hsc];rfl,hgl:=X.hgl,hbu:=X.hbu,hcl:=rfl,hloc:=fun e=>by cases e
    hco:=fun h e=>hns.ns e,hce:=fun _=>.tail _ (.head _)}
   have N':News X.h₀ X.L h' (cl++(z'++X'.ext)):=fun p hp=>N p (perm6.mem_iff.mp hp)
   have nd'':((cl++(z'++X'.ext)).map (·.1)).Nodup:=by
    refine (perm6.map (·.1)).nodup_iff.mpr ?_
    rw [List.map_cons,List.map_cons,List.map_cons]
    refine List.nodup_cons.mpr ⟨?_,List.nodup_cons.mpr ⟨?_,List.nodup_cons.mpr ⟨?_,nd'⟩⟩⟩
    ·intro hm
     rcases List.mem_cons.mp hm with e | hm
     ·exact ne.1 e
     ·rcases List.mem_cons.mp hm with e | hm
      ·exact ne.2.1 e
      ·refine xEAoo (List.mem_map.mp hm) fun p hp e=>?_;exact (off3 p hp).1 e
    ·intro hm
     rcases List.mem_cons.mp hm with e | hm
     ·exact ne.2.2 e
     ·refine xEAoo (List.mem_map.mp hm) fun p hp e=>?_;exact (off3 p hp).2.1 e
    ·intro hm
     refine xEAoo (List.mem_map.mp hm) fun p hp e=>?_;exact (off3 p hp).2.2 e
   have W':Wd X' (mC x u (relS scope fn.sc).names) σ' z' {s₂ with heap:=h',toks:=tk} :=
    ⟨m',⟨cl,F,N',nd'',S⟩,⟨by show MR z' (X'.look m') _ _;unfold Fx.look;exact MR.comp hm₂ (hvr.mono sub) _,fun _=>rfl⟩⟩
   refine hstep i u ysV σ' hu hI X' z' _ _ E' W' ?_
   rintro r y σ'' z'' s'' sub' ⟨m₃,⟨cl'',F'',N'',nd₃,S''⟩,R''⟩ hvy sm hI'
   have e₃:m₃=m':=R''.c rfl
   subst e₃
   have hne:=(perm6.map (·.1)).nodup_iff.mp nd₃
   rw [List.map_cons,List.map_cons,List.map_cons,List.nodup_cons,List.nodup_cons,List.nodup_cons] at hne
   refine xAoAoAoo hne fun n1 n2 n3 n4=>?_
   have es:s''={{s₂ with heap:=h',toks:=tk} with heap:=s''.heap,toks:=s''.toks}:=by
    obtain ⟨a,b,c⟩:=sm
    cases s'';simp only at a b c ⊢;subst a;subst b;subst c;rfl
   refine ⟨s''.heap,s''.toks,cl''++(z''++X.ext),es,F'',fun p hp=>N'' p (perm6.mem_iff.mpr hp),LCg.Off3.of fun p hp=>⟨fun e=>n1 ?_,fun e=>n2 ?_,fun e=>n3 ?_⟩,fun p hp=>List.mem_append_right _ (List.mem_append_left _ (sub' p (sub p hp))),?_⟩
   ·exact .tail _ (.tail _ (List.mem_map.mpr ⟨p,hp,e⟩))
   ·exact .tail _ (List.mem_map.mpr ⟨p,hp,e⟩)
   ·exact List.mem_map.mpr ⟨p,hp,e⟩
   ·exact ih (i+1) _ _ σ'' cl'' z'' s₂ (by omega) hI' (sub.trans sub') S'' n4 ((hv.mono sub').append (.cons hvy .nil))
 refine LCg.block_U CW.W (Nat.le_trans hsz (by decide)) CW.hI CW.hT hcell hk hx T0 (fun b hb=>?_) (F₁.keeps up) (N₁.grown up) (Nat.ne_of_lt F₁.ns.lt) fresh₀ hIf (fun p hp=>List.mem_append_right _ (List.mem_append_left _ hp))
  (core vs.length 0 [] [] σ₁ cl₁ z₁ _ (Nat.zero_add _) h0 Sub.same S₁ nd₁ .nil) ?_
 ·show b<(s₁.heap.push o).objs.size
  rw [Heap.size_push]
  rcases CW.hfp b hb with e | ⟨ob,hz⟩
  ·rw [e];exact Nat.lt_succ_self _
  ·exact Nat.lt_succ_of_lt (Heap.lt_size (L₁.zget hz))
 ·intro D C h tk m₄ ys news' F' N' o1 hn hC₀ hD₀ hCL hDL hCD offC ⟨ysV,σ',cl,z',hnews,hI,sub,S,nd',hv⟩
  subst hnews
  refine xEAoo (LCg.ns_obj hn) fun oC hoC hns=>?_
  have hD:∀ p∈cl++(z'++X.ext),p.1≠D:=by
   intro p hp e
   have:∀ {l:List (Addr×Obj)},LCg.Off1 D l→p∈l→False:=by
    intro l
    induction l with
    |nil=>intro _ h;cases h
    |cons q l ih=>intro ho h;rcases List.mem_cons.mp h with rfl | h;exact ho.1 e;exact ih ho.2 h
   exact this o1 hp
  refine fin D C oC m₄ _ ysV σ' z' (sub₁.trans sub) (sm₁.trans ⟨rfl,rfl,rfl⟩) ⟨m',⟨[(D,lstObj ys ys.length)]++cl,F',fun p hp=>?_,?_,.cons (.lst hv) S⟩,⟨R₁.r.mono sub,R₁.c⟩⟩ hns (hfin ysV σ' D hI)
  ·rcases List.mem_cons.mp (perm3.mem_iff.mp hp) with rfl | hp
   ·exact ⟨hoC,hCL,hC₀⟩
   ·exact N' p hp
  ·refine nodup3 ?_ fun p hp=>?_
   ·show ((((D,_):Addr×Obj)::(cl++(z'++X.ext))).map (·.1)).Nodup
    rw [List.map_cons]
    exact List.nodup_cons.mpr ⟨fun hm=>by refine xEAoo (List.mem_map.mp hm) fun p hp e=>?_;exact hD p hp e,nd'⟩
   ·rcases List.mem_cons.mp hp with rfl | hp
    ·exact Ne.symm hCD
    ·exact offC p hp
theorem ev_listcomp {elt iter:Expr}{x:PySem.Str}{px:Pos}{scope:Scope}{pos:Pos}{clC:List (PySem.Str×Addr)}{Q:V→St→Prop}
  (hcl:closL scope.names fn.cl []=some clC) (hcell:∀ y∈scope.names,y.2≠.cell) (hk:scope.kind=.function) (nd:(scope.names.map (·.1)).Nodup) (hx:scope.names.lookup x=some .local)
  (h:EV w K fn d m iter σ fun it σ₁=>∃ vs,CSRC w it vs∧vs.length≤16000000∧∃ I:Nat→List V→St→Prop,I 0 [] σ₁ ∧
   (∀ i v ys σ,vs[i]?=some v→I i ys σ→EV w K (fnC fn scope clC) d (mC x v (relS scope fn.sc).names) elt σ fun y σ'=>I (i+1) (ys++[y]) σ')∧∀ ys σ a,I vs.length ys σ→Q (.own a) ((a,.lst ys)::σ))
  (hs:∀ env x,foldedSetIterable iter env x=pure x):EV w K fn d m (.ListComp elt [⟨.Name x px,iter,[],0⟩] scope pos) σ Q:=by
 intro X z s QR E W k
 rw [eval_ListComp]
 refine wpAny_comprehension_free (use:=none) (cl:=clC) rfl (hs _) (closureFor_eq (by rw [X.hcl];exact hcl)) hk (fun y hy e=>lookup_of_mem nd (by rw [←e];exact hy))
  (comp_gen hcell hk hx h W fun D C oC m₄ s₅ ysV σ' z' sub sm W₅ hns hq=>?_)
 refine ⟨m₄,hns.ns W₅.xget,fun h'' hs''=>?_⟩
 exact k _ (.own D) _ z' _ sub (W₅.reext (tk:=s₅.toks) fun b o' ne e=>hs''.extBut b o' ne e).1 (.own D) (sm.trans ⟨rfl,rfl,rfl⟩) hq
theorem e1_assign_listcomp {elt iter:Expr}{x y:PySem.Str}{px py:Pos}{scope:Scope}{pos spos:Pos}{clC:List (PySem.Str×Addr)}{Q:Fl→Mp→St→Prop}
  (hc:fn.comp=false) (ndf:(fn.sc.names.map (·.1)).Nodup)
  (hcl:closL scope.names fn.cl []=some clC) (hcell:∀ y∈scope.names,y.2≠.cell) (hk:scope.kind=.function) (nd:(scope.names.map (·.1)).Nodup) (hx:scope.names.lookup x=some .local)
  (hy:(y,NameKind.local)∈fn.sc.names) (hkf:fn.sc.kind=.function) (hl:py.line=pos.line) (hyn:(scope.names.any fun p=>p.1 == y && (p.2 == .local || p.2 == .cell))=false)
  (h:EV w K fn d m iter σ fun it σ₁=>∃ vs,CSRC w it vs∧vs.length≤16000000∧∃ I:Nat→List V→St→Prop,I 0 [] σ₁ ∧
   (∀ i v ys σ,vs[i]?=some v→I i ys σ→EV w K (fnC fn scope clC) d (mC x v (relS scope fn.sc).names) elt σ fun y σ'=>I (i+1) (ys++[y]) σ')∧∀ ys σ a,I vs.length ys σ→∃ m₁,Put fn.sc.names m y (.own a) m₁∧Q .next m₁ ((a,.lst ys)::σ))
  (hs:∀ env x,foldedSetIterable iter env x=pure x):E1 w K fn d (.Assign [.Name y py] (.ListComp elt [⟨.Name x px,iter,[],0⟩] scope pos) spos) m σ Q:=by
 intro X z s QR E W k
 have hsw:swapsWith (.ListComp elt [⟨.Name x px,iter,[],0⟩] scope pos) (some (.Name y py)) spos.line X.env=pure true:=by
  show (pure (X.env.blockKind == .function && X.env.kindOf y == some .local && py.line == pos.line && !(scope.names.any fun p=>p.1 == y && (p.2 == .local || p.2 == .cell))):Sem Bool)=pure true
  rw [hyn,hl,kind_of ndf hy]
  have:X.env.blockKind=.function:=by unfold Env.blockKind;rw [X.hek];rfl
  rw [this];simp
 rw [exec_Assign_Name_used _ _ _ _ hsw]
 refine wpAny_bind (wpAny_standAt (wpAny_bind ?_))
 show wpAny _ _ (do let _ ←comprehension (.ListComp elt [⟨.Name x px,iter,[],0⟩] scope pos) scope X.env _ (newList []) false (eval iter X.env) (some (assign (.Name y py) X.env))) _ _ s
 refine wpAny_bind (wpAny_mono (wpAny_comprehension_free (use:=some (assign (.Name y py) X.env)) (Q:=fun _ s'=>QR .next s') (cl:=clC) rfl (hs _) (closureFor_eq (by rw [X.hcl];exact hcl)) hk (fun y hy e=>lookup_of_mem nd (by rw [←e];exact hy))
  (comp_gen hcell hk hx h W fun D C oC m₄ s₅ ysV σ' z' sub sm W₅ hns hq=>?_)) (fun _ s' hq=>wpAny_pure (wpAny_pure hq)) fun _ _ e=>e)
 refine xEAoo hq fun m₁ P hq=>?_
 show wpAny _ X.A (assign (.Name y py) X.env (.ref D)) _ _ _
 refine wpAny_assign_Name (store_local (X:=X.with C oC) W₅ hc ndf P (.own D) fun s₆ sm₆ W₆=>?_)
 refine ⟨m₄,hns.ns W₆.xget,fun h'' hs''=>?_⟩
 exact k .next .next m₁ _ z' _ sub (W₆.reext (tk:=s₆.toks) fun b o' ne e=>hs''.extBut b o' ne e).1 .next ((sm.trans sm₆).trans ⟨rfl,rfl,rfl⟩) hq
theorem csrc_lst {vs:List V}:CSRC w (.lst vs) vs:=by
 intro K fn d X m σ z s r QR E W hv k
 refine hv.i_lst fun rs a n hm hs=>?_
 ·have hl:s.heap.IsList a rs.toArray:=⟨_,W.zget hm,rfl,n,rfl⟩
  have lt:a<s.heap.objs.size:=Heap.lt_size (W.zget hm)
  have e:rs.toArray.size=vs.length:=by rw [List.size_toArray,hs.length]
  refine wpAny_pyIter_list hl (k _ [s.heap.objs.size,a] (fun i v=>rs.toArray[i]?=some v) (fun i h=>h.IsListIter s.heap.objs.size a i∧h.IsList a rs.toArray) rfl ⟨?_,?_,?_,?_,?_⟩ ⟨⟨_,Heap.get?_push_size _ rfl,rfl,rfl⟩,hl.push _⟩)
  ·rw [←e];exact Walks.list X.hh s.heap.objs.size a (Nat.ne_of_lt lt) rs.toArray
  ·rintro i h ⟨⟨o,ho,_⟩,_⟩;exact ⟨o,ho⟩
  ·intro i h h' o nw st e e' k N S
   exact LCg.list_st i h h' o nw st e e' k N (.inr ⟨_,S _ hm,rfl,_,rfl⟩)
  ·intro b hb
   rcases List.mem_cons.mp hb with e | hb
   ·exact .inl e
   ·exact .inr ⟨_,(List.mem_singleton.mp hb)▸hm⟩
  ·intro i v hi
   have hi':rs[i]?=some v:=by simpa using hi
   have hlt:i<vs.length:=by rw [hs.length];exact (List.getElem?_eq_some_iff.mp hi').1
   refine xEAoo (hs.get (i:=i) (v:=vs[i]) (List.getElem?_eq_getElem hlt)) fun r e hr=>?_
   rw [hi'] at e;cases e
   exact ⟨_,List.getElem?_eq_getElem hlt,hr⟩
theorem csrc_str {x:PySem.Str}(ha:x.cps.all (·<128)=true):CSRC w (.str x) (signsOf x):=by
 intro K fn d X m σ z s r QR E W hv k
 refine hv.i_str fun t=>?_
 ·have len:(signsOf x).length=x.cps.size:=by unfold signsOf;simp
  refine wpAny_pyIter_ascii ha (k _ [s.heap.objs.size] (SignAt x) (fun i h=>h.IsStrIter s.heap.objs.size "str_ascii_iterator" x t i) rfl ⟨?_,?_,?_,fun b hb=>.inl (List.mem_singleton.mp hb),?_⟩ ⟨_,Heap.get?_push_size _ rfl,rfl,rfl⟩)
  ·rw [len];exact Walks.strAscii X.hh _ x t
  ·rintro i h ⟨o,ho,_⟩;exact ⟨o,ho⟩
  ·rintro i h h' o nw ⟨o₁,ho₁,q⟩ e e' _ _ _
   rw [e] at ho₁;cases ho₁;exact ⟨o,e',q⟩
  ·rintro i v ⟨c,u,hc,rfl⟩
   refine ⟨.str ⟨#[c]⟩,?_,.str _ u⟩
   unfold signsOf
   rw [List.getElem?_map,Array.getElem?_toList,hc];rfl
theorem csrc_rng {b:Int}(hb' : -(2^62)<b)(hb:b<2^62):CSRC w (.rng 0 b) (rangeOf 0 b):=by
 intro K fn d X m σ z s r QR E W hv k
 refine hv.i_rng fun r t u v hm=>?_
 ·have hr:IsRange s.heap r 0 b 1 t u v:=W.zget hm
  have hsmall:Builtin.Range.small 0 b 1=true:=by
   unfold Builtin.Range.small Builtin.Range.rangeFitsLong
   rw [rangeSize_nat]
   have h1:(1:Int) > 0:=by decide
   simp only [h1,if_true,Bool.and_eq_true,Bool.or_eq_true,decide_eq_true_eq]
   refine ⟨⟨⟨⟨?_,?_⟩,?_⟩,?_⟩,.inr ?_⟩<;>omega
  have hsz:Builtin.Range.rangeSize 0 b 1=((b - 0).toNat:Int):=rangeSize_nat 0 b
  refine wpAny_pyIter_range hr hsmall (k _ [s.heap.objs.size] (fun i v=>i<(b - 0).toNat∧∃ t,v=.int ((0:Int)+i*1) t) (fun i h=>IsRangeIter h s.heap.objs.size (0+(i:Nat)*1) (((b - 0).toNat:Int) - (i:Nat)) 1) rfl ⟨?_,fun i h st=>⟨_,st⟩,fun i h h' o nw st e e' k N _=>LCg.range_st i h h' o nw st e e' k N trivial,fun b hb=>.inl (List.mem_singleton.mp hb),?_⟩ ?_)
  ·have len:(rangeOf 0 b).length=(b - 0).toNat:=by unfold rangeOf;simp
   rw [len];exact (Walks.range X.hh _ 0 1 _).bound
  ·rintro i v ⟨hi,t,rfl⟩
   refine ⟨.int (0+(i:Nat)*1),?_,.int _ t⟩
   unfold rangeOf
   rw [List.getElem?_map,List.getElem?_range hi];rfl
  ·show IsRangeIter _ _ _ _ _
   rw [hsz]
   have:=Heap.get?_push_size s.heap (o:={cls:=.type "range_iterator",dict:=none,data:=.fields #[rawInt 0,rawInt ((b - 0).toNat:Int),rawInt 1],slots:=#[]}) rfl
   simpa using this
end NN
end
section
open PySem PySem.W PySem.Calls PyProof.Rows
namespace NN
variable {w:World}{K:Frag}{fn:FnS}{d:Nat}{m:Mp}{σ:St}
mutual
noncomputable def datO:V→Option PyData
 |.none=>some .none
 |.bool b=>some (.bool b)
 |.int i=>some (.int i)
 |.str s=>some (.str s)
 |.tup vs=>(datsO vs).map .tuple
 |.lst vs=>(datsO vs).map .list
 |.own _=>none
 |.glob _=>none
 |.ty _=>none
 |.bi _=>none
 |.raw _=>none
 |.rng _ _=>none
 |.inst _ _ _=>none
 |.dct _ _ _=>none
noncomputable def datsO:List V→Option (List PyData)
 |[]=>some []
 |v::vs=>(datO v).bind fun d=>(datsO vs).map (d::·)
end
theorem datsO_cons {v:V}{vs:List V}{ds:List PyData}{G:Prop}(h:datsO (v::vs)=some ds)(k:∀ d ds',datO v=some d→datsO vs=some ds'→ds=d::ds'→G):G:=by
 replace h:((datO v).bind fun d=>(datsO vs).map (d::·))=some ds:=h
 cases q:datO v with
 |none=>rw [q] at h;cases h
 |some d=>cases q':datsO vs with
  |none=>rw [q,q'] at h;cases h
  |some ds'=>rw [q,q'] at h;exact k d ds' q q' (Option.some.inj h).symm
theorem dat_map {vs:List V}{f:List PyData→PyData}{d:PyData}{G:Prop}(h:(datsO vs).map f=some d)(k:∀ ds,datsO vs=some ds→d=f ds→G):G:=by
 cases q:datsO vs with
 |none=>rw [q] at h;cases h
 |some ds=>rw [q] at h;exact k ds q (Option.some.inj h).symm
noncomputable def rdO (h:Heap)(v:V)(r:Value):Prop:=∀ d,datO v=some d→∃ as,Reads h r d as
noncomputable def rdL (h:Heap)(vs:List V)(rs:List Value):Prop:=∀ ds,datsO vs=some ds→∃ as,ReadsAll h rs ds as
theorem rd_tup {h:Heap}{vs:List V}{rs:List Value}{a:Addr}{n:Nat}(e:h.get? a=some (tupObj rs n))(ih:rdL h vs rs):rdO h (.tup vs) (.ref a):=fun d q =>
 dat_map q fun ds q' e'=>e'▸let ⟨_,ra⟩:=ih ds q';⟨_,.tuple e rfl rfl ra⟩
theorem rd_lst {h:Heap}{vs:List V}{rs:List Value}{a:Addr}{n:Nat}(e:h.get? a=some (lstObj rs n))(ih:rdL h vs rs):rdO h (.lst vs) (.ref a):=fun d q =>
 dat_map q fun ds q' e'=>e'▸let ⟨_,ra⟩:=ih ds q';⟨_,.list e rfl rfl ra⟩
theorem rd_cons {h:Heap}{v:V}{vs:List V}{r:Value}{rs:List Value}(a:rdO h v r)(b:rdL h vs rs):rdL h (v::vs) (r::rs):=fun ds e=>datsO_cons e fun d ds' e1 e2 e3=>by
 subst e3
 refine xEo (a d e1) fun x hx=>?_
 refine xEo (b ds' e2) fun y hy=>?_
 exact ⟨_,.cons hx hy⟩
theorem rd_nil {h:Heap}:rdL h [] []:=fun ds e=>by cases e;exact ⟨_,.nil⟩
theorem reads_of {z:Led}{h:Heap}(hz:∀ p∈z,h.get? p.1=some p.2){v:V}{r:Value}{d:PyData}(H:VR z v r):datO v=some d→∃ as,Reads h r d as :=
 VR.rec (motive_1:=fun v r _=>rdO h v r) (motive_2:=fun vs rs _=>rdL h vs rs) (motive_3:=fun _ _ _ _=>True) (fun _ e=>Option.some.inj e▸⟨_,.none⟩) (fun b _ e=>Option.some.inj e▸⟨_,.bool b⟩) (fun i t _ e=>Option.some.inj e▸⟨_,.int i t⟩) (fun i t _ e=>Option.some.inj e▸⟨_,.str i t⟩)
  (fun _ _ e=>nomatch e) (fun _ _ e=>nomatch e) (fun _ _ e=>nomatch e) (fun _ _ e=>nomatch e) (fun _ _ e=>nomatch e) (fun _ _ e=>nomatch e) (fun hm _ ih=>rd_tup (hz _ hm) ih) (fun hm _ ih=>rd_lst (hz _ hm) ih) (fun _ _ _ _ _ _ e=>nomatch e) (fun _ _ _ _ _ _ e=>nomatch e) rd_nil (fun _ _ a b=>rd_cons a b) ⟨⟩ (fun _ _ _ _ _=>⟨⟩) H d
theorem readsAll_of {z:Led}{h:Heap}(hz:∀ p∈z,h.get? p.1=some p.2){vs:List V}{rs:List Value}{ds:List PyData}(H:VRs z vs rs):datsO vs=some ds→∃ as,ReadsAll h rs ds as :=
 VRs.ind (P:=fun vs rs=>rdL h vs rs) rd_nil (fun a _ ih=>rd_cons (fun _ e=>reads_of hz a e) ih) H ds
inductive DAT (σ:St):V→PyData→Prop
 |pure {v:V} {d:PyData}:datO v=some d→DAT σ v d
 |own {a:Addr} {vs:List V} {ds:List PyData}:(a,Cell.lst vs)∈σ→datsO vs=some ds→DAT σ (.own a) (.list ds)
theorem DAT.reads {v:V}{dt:PyData}(D:DAT σ v dt){X:Fx w K fn d}{z:Led}{s:Shared}(W:Wd X m σ z s){r:Value}(hv:VR z v r):∃ as,Reads s.heap r dt as:=by
 cases D with
 |pure e=>exact reads_of (fun p hp=>W.zget hp) hv e
 |own hσ e =>
  refine hv.i_own ?_
  refine xEEAoo (W.cellL hσ) fun rs n he hs=>?_
  refine xEo (readsAll_of (fun p hp=>W.zget hp) hs e) fun as ra=>?_
  exact ⟨_,.list he rfl rfl ra⟩
theorem op_eqd {a b:V}{da db:PyData}(ha:DAT σ a da)(hb:DAT σ b db)(sa:SeqAt.shaped da=true)(sb:SeqAt.shaped db=true):OP2 w K σ (compareOp .Eq) a b (.bool (da.eqv db)):=by
 intro fn d X m z ra rb s QR E W h1 h2 k
 refine xEo (ha.reads W h1) fun x hx=>?_
 refine xEo (hb.reads W h2) fun y hy=>?_
 exact eq_dataH hx hy sa sb (by have:=X.hu;show _<9900;lia) (k _ s.toks (.bool _))
theorem op_ned {a b:V}{da db:PyData}(ha:DAT σ a da)(hb:DAT σ b db)(sa:SeqAt.shaped da=true)(sb:SeqAt.shaped db=true):OP2 w K σ (compareOp .NotEq) a b (.bool (!da.eqv db)):=by
 intro fn d X m z ra rb s QR E W h1 h2 k
 refine xEo (ha.reads W h1) fun x hx=>?_
 refine xEo (hb.reads W h2) fun y hy=>?_
 exact ne_dataH hx hy sa sb (by have:=X.hu;show _<9900;lia) (k _ s.toks (.bool _))
theorem op_nins {a b:PySem.Str}:OP2 w K σ (compareOp .NotIn) (.str a) (.str b) (.bool (!(!(Builtin.Str.occurrences b a 0 b.length 1).isEmpty))):=by
 intro fn d X m z ra rb s QR E _ h1 h2 k;exact h1.i_str fun _=>h2.i_str fun _=>P.notIn_str (k _ s.toks (.bool _))
theorem emp_eq {z:Led}{vs:List V}{rs:List Value}(hs:VRs z vs rs):rs.toArray.isEmpty=vs.isEmpty:=VRs.ind (P:=fun vs rs=>rs.toArray.isEmpty=vs.isEmpty) rfl (fun _ _ _=>rfl) hs
theorem tru_tup {vs:List V}(hx:vs.length<2^60):TRU w (.tup vs) (!vs.isEmpty) σ:=by
 intro K fn d X m z s r QR E W h k
 refine h.i_tup fun rs a n hm hs=>?_
 ·have e:rs.toArray.isEmpty=vs.isEmpty:=emp_eq hs
  exact truthy_tuple ⟨_,W.zget hm,rfl,n,rfl⟩ (by rw [List.size_toArray,←hs.length];lia) (by rw [e];exact k _)
theorem tru_own {a:Addr}{vs:List V}(hσ:(a,Cell.lst vs)∈σ)(hx:vs.length<2^60):TRU w (.own a) (!vs.isEmpty) σ:=by
 intro K fn d X m z s r QR E W h k
 refine h.i_own ?_
 obtain ⟨cl,F,N,nd,S⟩:=id W
 refine xEAoo (S.mem hσ) fun os hc sub=>?_
 revert sub
 refine hc.i_lst fun rs n hr sub=>?_
 ·have he:=(N _ (List.mem_append_left _ (sub _ (.head _)))).1
  have e:rs.toArray.isEmpty=vs.isEmpty:=emp_eq hr
  exact wpAny_truthy_list ⟨_,he,rfl,n,rfl⟩ (by rw [List.size_toArray,←hr.length];lia) (by rw [e];exact k _)
noncomputable abbrev kndS (w:World):=PySem.strKind PySem.Challenge.pw_nn0413_01 w
theorem valueAt_zip {z:Led}{k:PySem.Str}{v:V}{ks:List PySem.Str}:∀ {vs:List V} {rs:List Value},VRs z vs rs→(ks.zip vs).lookup k=some v→∃ r,valueAt (ks.zip rs) k=some r∧VR z v r:=by
 induction ks with
 |nil=>intro vs rs _ h;simp at h
 |cons x ks ih =>
  intro vs rs hv h
  cases vs with
  |nil=>simp at h
  |cons u vs =>
   refine hv.i_cons fun r rs a b=>?_
   rw [List.zip_cons_cons,List.lookup_cons] at h
   unfold valueAt
   rw [List.zip_cons_cons,List.find?_cons]
   by_cases e:x=k
   ·subst e
    rw [beq_self_eq_true] at h
    simp only [decide_true]
    exact ⟨_,rfl,Option.some.inj h▸a⟩
   ·rw [beq_eq_false_iff_ne.mpr fun q=>e q.symm] at h
    simp only [e,decide_false]
    exact ih b h
theorem valueAt_some {z:Led}{k:PySem.Str}{ks:List PySem.Str}:∀ {vs:List V} {rs:List Value},VRs z vs rs→(valueAt (ks.zip rs) k).isSome=((ks.zip vs).lookup k).isSome:=by
 induction ks with
 |nil=>intro vs rs _;simp [valueAt]
 |cons x ks ih =>
  intro vs rs hv
  cases vs with
  |nil=>exact hv.i_nil (by simp [valueAt])
  |cons u vs =>
   refine hv.i_cons fun r rs a b=>?_
   have ih:=ih b
   unfold valueAt at ih ⊢
   rw [List.zip_cons_cons,List.find?_cons,List.zip_cons_cons,List.lookup_cons]
   by_cases e:x=k
   ·subst e;simp
   ·rw [beq_eq_false_iff_ne.mpr fun q=>e q.symm]
    simp only [e,decide_false]
    exact ih
theorem op_nind {k:PySem.Str}{ks:List PySem.Str}{vs:List V}:OP2 w K σ (compareOp .NotIn) (.str k) (.dct w ks vs) (.bool (!((ks.zip vs).lookup k).isSome)):=by
 intro fn d X m z ra rb s QR E W h1 h2 kk
 refine h1.i_str fun t=>h2.i_dct fun rs a o hm hs hd hv=>?_
 ··refine wpAny_notIn_of (knd:=kndS w) (strKind_is _ w k t) hs (Heap.dictOf_iff.mpr ⟨o,W.zget hm,hd⟩:s.heap.DictOf (kndS w) a _).mapOf ?_
   rw [valueAt_some hv]
   exact kk _ _ (.bool _)
theorem gi_dct {k:PySem.Str}{ks:List PySem.Str}{vs:List V}{v:V}(hl:(ks.zip vs).lookup k=some v):GI w (.dct w ks vs) (.str k) v σ:=by
 intro K fn d X m z s ro ri W ho hi
 refine hi.i_str fun t=>ho.i_dct fun rs a o hm hs hd hv=>?_
 ··have hD:s.heap.DictOf (kndS w) a (ks.zip rs):=Heap.dictOf_iff.mpr ⟨o,W.zget hm,hd⟩
   refine xEAoo (valueAt_zip hv hl) fun r e hr=>?_
   exact ⟨⟨_,_,hD.typeIs,slot_dict_getitem.lookup⟩,fun QR E kk=>wpAny_getItem_of (strKind_is _ w k t) hD.mapOf e (kk _ _ hr)⟩
structure GDct (w:World)(K:Frag)(a:Addr)(ks:List PySem.Str)(vs:List V):Prop where
 ex:∃ o rs,K.lookup a=some o∧(a == sysModules)=false∧o.IsDictOf (kndS w) (ks.zip rs)∧VRs [] vs rs
theorem op_ing {a:Addr}{k:PySem.Str}{ks:List PySem.Str}{vs:List V}(G:GDct w K a ks vs):OP2 w K σ (compareOp .In) (.str k) (.glob a) (.bool ((ks.zip vs).lookup k).isSome):=by
 intro fn d X m z ra rb s QR E W h1 h2 kk
 refine xEEAoAoAoo G.ex fun o rs e hs hd hv=>?_
 refine h1.i_str fun t=>h2.i_glob ?_
 ·refine wpAny_in_of (knd:=kndS w) (strKind_is _ w k t) hs (Heap.dictOf_iff.mpr ⟨o,W.keep _ _ e,hd⟩:s.heap.DictOf (kndS w) a _).mapOf ?_
  rw [valueAt_some hv]
  exact kk _ _ (.bool _)
noncomputable def GIK (w:World)(K:Frag)(ov iv v:V)(σ:St):Prop :=
 ∀ (fn:FnS) (d:Nat) (X:Fx w K fn d) (m:Mp) (z:Led) (s:Shared) (ro ri:Value),Wd X m σ z s→VR z ov ro→VR z iv ri →
  (∃ T id,s.TypeIs ro T∧typeLookup (.type T) "__getitem__" = pure (some (.builtin id))) ∧
  ∀ (QR:Value→Shared→Prop) (E:Value→Shared→Prop),(∀ r tk,VR z v r→QR r {s with toks:=tk})→wpAny (M w) X.A (getItem ro ri) QR E s
theorem GI.k {ov iv v:V}(h:GI w ov iv v σ):GIK w K ov iv v σ:=fun fn d X m z s ro ri W a b=>h K fn d X m z s ro ri W a b
theorem gi_glob {a:Addr}{k:PySem.Str}{ks:List PySem.Str}{vs:List V}{v:V}(G:GDct w K a ks vs)(hl:(ks.zip vs).lookup k=some v):GIK w K (.glob a) (.str k) v σ:=by
 intro fn d X m z s ro ri W ho hi
 refine xEEAoAoAoo G.ex fun o rs e hs hd hv=>?_
 refine hi.i_str fun t=>ho.i_glob ?_
 ·have hD:s.heap.DictOf (kndS w) a (ks.zip rs):=Heap.dictOf_iff.mpr ⟨o,W.keep _ _ e,hd⟩
  refine xEAoo (valueAt_zip hv hl) fun r e hr=>?_
  exact ⟨⟨_,_,hD.typeIs,slot_dict_getitem.lookup⟩,fun QR E kk=>wpAny_getItem_of (strKind_is _ w k t) hD.mapOf e (kk _ _ (hr.mono fun _ h=>absurd h List.not_mem_nil))⟩
theorem texts_of {z:Led}{xs:List PySem.Str}{rs:List Value}(h:VRs z (xs.map .str) rs):∃ l:List (PySem.Str×Tok),rs=strValues l∧l.map (·.1)=xs:=by
 induction xs generalizing rs with
 |nil=>exact h.i_nil ⟨[],rfl,rfl⟩
 |cons x xs ih=>exact h.i_cons fun r rs a b=>a.i_str fun t=>xEAoo (ih b) fun l e1 e=>⟨(x,t)::l,by rw [e1];rfl,by rw [List.map_cons,e]⟩
theorem bc_join {sep:PySem.Str}{ov:V}{xs:List PySem.Str}{Q:V→St→Prop}(hov:ov=.lst (xs.map .str)∨∃ a,ov=.own a∧(a,Cell.lst (xs.map .str))∈σ)(hok:JoinOk sep xs=true)(h:Q (.str (Txt.join sep xs)) σ):BC w (.builtin "str.join") [.str sep,ov] σ Q:=by
 intro K fn d X m z s rs QR E W hv k
 refine hv.i2 fun _ r h1 h2=>h1.i_str fun _=>?_
 ··refine xEEEAoAoo (by
    rcases hov with rfl | ⟨a,rfl,hσ⟩
    ·exact h2.i_lst fun _ _ _ hm hs=>⟨_,_,_,rfl,W.zget hm,hs⟩
    ·exact h2.i_own (xEEAoo (W.cellL hσ) fun rs' n e hs=>⟨_,_,_,rfl,e,hs⟩):∃ a rs' n,r=.ref a∧s.heap.get? a=some (lstObj rs' n)∧VRs z (xs.map .str) rs') fun a rs' n er1 he hs=>?_;subst er1
   refine xEAoo (texts_of hs) fun l er1 hl=>?_;subst er1
   exact SC.join ⟨_,he,rfl,n,rfl⟩ hl hok fun t' tk=>k _ _ σ z _ Sub.same (W.tok _) (.str _ _) Sm.tok h
theorem bc_index {x y:PySem.Str}{i:Nat}{rest:List Nat}{Q:V→St→Prop}(ho:Builtin.Str.occurrences x y 0 x.length 1=i::rest)(h:Q (.int i) σ):BC w (.builtin "str.index") [.str x,.str y] σ Q:=by
 intro K fn d X m z s rs QR E W hv k
 exact hv.i2 fun _ _ h1 h2=>h1.i_str fun _=>h2.i_str fun _=>SC.index ho (k _ _ σ z _ Sub.same (W.tok _) (.int _ _) Sm.tok h)
end NN
end
section
open PySem PySem.W PySem.Calls PyProof.Rows
namespace NN
open Sem (wp)
theorem typeCall_int_2 (a b:Value):checkTypeCall "int" ⟨[a,b],[]⟩=pure ():=by kernel_rfl
theorem newCall_int_2 (a b:Value):checkBuiltinCall "int.__new__" ⟨[.type "int",a,b],[]⟩=pure ():=by kernel_rfl
theorem initArgs_2 (obj a b:Value):argsOk "object.__init__" ⟨[obj,a,b],[]⟩:=by unfold argsOk;kernel_rfl
noncomputable def hexT:List (Nat×Nat):=[(48,0),(49,1),(50,2),(51,3),(52,4),(53,5),(54,6),(55,7),(56,8),(57,9),(97,10),(98,11),(99,12),(100,13),(101,14),(102,15)]
noncomputable def hexv (c:Nat):Option Nat:=hexT.lookup c
theorem hexv_mem {c v:Nat}:∀ {l:List (Nat×Nat)},l.lookup c=some v→(c,v)∈l
 |[],h=>by cases h
 |(a,b)::r,h=>by
  rw [List.lookup_cons] at h
  cases e:c == a with
  |true=>rw [e] at h;cases h;rw [eq_of_beq e];exact .head _
  |false=>rw [e] at h;exact .tail _ (hexv_mem h)
theorem int16_all (x:Value):∀ p∈hexT,(int_private% "intFromText") x [p.1] 16=(do return ←mkInt (p.2:Int)):=by
 unfold hexT
 simp only [List.forall_mem_cons]
 exact ⟨rfl,rfl,rfl,rfl,rfl,rfl,rfl,rfl,rfl,rfl,rfl,rfl,rfl,rfl,rfl,rfl,fun _ h=>nomatch h⟩
theorem int16_text {c v:Nat}(h:hexv c=some v)(x:Value):(int_private% "intFromText") x [c] 16=(do return ←mkInt (v:Int)):=int16_all x (c,v) (hexv_mem h)
theorem hexv_lt {c v:Nat}(h:hexv c=some v):c<128:=(by decide:∀ p∈hexT,p.1<128) (c,v) (hexv_mem h)
theorem meets_int16 {c v:Nat}(h:hexv c=some v)(t u:Tok):Meets (Builtin.«int.__new__» ⟨[.type "int",.str ⟨#[c]⟩ t,.int 16 u],[]⟩) (Made.int (v:Int)).spec :=
 Meets.of_wp fun prog w A R s hs=>by
  obtain ⟨hp,g,d,tk,os⟩:=s
  have f1:=F.conv_sub_int
  have f2:=F.madeHere_int
  have e1:(int_private% "intFromText") (.str ⟨#[c]⟩ t) [c] (Int.toNat 16)=(do return ←mkInt (v:Int)):=int16_text h (.str ⟨#[c]⟩ t)
  have e2:(int_private% "numeralText?") (.str ⟨#[c]⟩ t)=pure (some [c]):=by
   have hc:=hexv_lt h
   show (do return some (if (#[c]:Array Nat).all (·<128) then [c] else Unicode.numberText [c]))=(pure (some [c]):Sem (Option (List Nat)))
   rw [if_pos (by simp [hc])]
  unfold Builtin.«int.__new__»
  repeat (any_goals (first | assumption | rw [e1] | rw [e2] | wp_step))
  all_goals first | exact ⟨_,rfl,hs⟩ | skip
variable {w:World}{K:Frag}{fn:FnS}{d:Nat}{m:Mp}{σ:St}
theorem bc_int16 {c v:Nat}{Q:V→St→Prop}(hc:hexv c=some v)(h:Q (.int v) σ):BC w (.type "int") [.str ⟨#[c]⟩,.int 16] σ Q:=by
 intro K fn d X m z s rs QR E W hv k
 refine hv.i2 fun _ _ h1 h2=>h1.i_str fun _=>h2.i_int fun _=>?_
 ··exact callType_new F.called_int F.newNe_int (typeCall_int_2 _ _) (newCall_int_2 _ _) (fun obj=>initArgs_2 obj _ _) F.entry_int_new (meets_int16 hc _ _)
    (show (Made.int (v:Int)).post _ s from ⟨rfl,k _ _ σ z _ Sub.same (W.tok _) (.int _ _) Sm.tok h⟩)
end NN
end
section
open PySem PySem.W PySem.Calls PyProof.Rows
namespace NN
variable {w:World}{K:Frag}{fn:FnS}{d:Nat}{m:Mp}{σ:St}
theorem asc_ok {cmp:Nat→Nat→(Bool→Shared→Prop)→Shared→Prop}{I:Shared→Prop}{n:Nat}{Q:Nat→Shared→Prop}
  (hc:∀ i C s,1≤i→i<n→I s→(∀ s',I s'→C false s')→cmp i (i - 1) C s) (hq:∀ s,I s→Q n s) :
  ∀ (f i:Nat) (s:Shared),1≤i→i+f=n→I s→(kas_asc (List.toArray (List.range n)) f i).kasWp cmp Q s
 |0,i,s,_,e,h=>by
  obtain rfl:i=n:=by omega
  exact hq s h
 |f+1,i,s,h1,e,h=>by
  show cmp ((List.toArray (List.range n)).getD i 0) ((List.toArray (List.range n)).getD (i - 1) 0) _ s
  have e1:∀ j,j<n→(List.toArray (List.range n)).getD j 0=j:=by
   intro j hj
   simp [Array.getD,hj]
  rw [e1 i (by lia),e1 (i - 1) (by lia)]
  exact hc i _ s h1 (by lia) h fun s' h'=>asc_ok hc hq f (i+1) s' (by exact Nat.succ_pos _) (by lia) h'
theorem sort_ok {cmp:Nat→Nat→(Bool→Shared→Prop)→Shared→Prop}{I:Shared→Prop}{n:Nat}{G:Array Nat→Shared→Prop}(h2:2≤n)
  (hc:∀ i C s,1≤i→i<n→I s→(∀ s',I s'→C false s')→cmp i (i - 1) C s) (hq:∀ s,I s→G (List.toArray (List.range n)) s) {s:Shared} (h:I s):(kas_sort n).kasWp cmp G s:=by
 unfold kas_sort kas_count
 rw [KasT.kasWp_bind,KasT.kasWp_bind]
 refine asc_ok hc ?_ (n - 1) 1 s (Nat.le_refl _) (by lia) h
 intro s' h'
 rw [if_pos (by simp)]
 show ((if n<n then kas_bin (n - max n 1) (List.toArray (List.range n)) (max n 1) else .ret (List.toArray (List.range n))):KasT (Array Nat)).kasWp cmp G s'
 rw [if_neg (Nat.lt_irrefl _)]
 exact hq s' h'
noncomputable def tp (p:Int×Int):V:=.tup [.int p.1,.int p.2]
theorem tp_inv {z:Led}{q:Int×Int}{r:Value}{P:Value→Prop}(h:VR z (tp q) r)(k:∀ a n t u,(a,tupObj [.int q.1 t,.int q.2 u] n)∈z→P (.ref a)):P r :=
 h.i_tup fun rs a n hm hs=>hs.i2 (Ps:=fun rs=>(a,tupObj rs n)∈z→P (.ref a)) (fun r r' h1 h2=>h1.i_int fun t=>h2.i_int fun u hm=>k a n t u hm) hm
theorem tps_get {z:Led}{ps:List (Int×Int)}:∀ {rs:List Value},VRs z (ps.map tp) rs→∀ (i:Nat) (p:Int×Int),ps[i]?=some p→∃ a n t u,rs[i]?=some (.ref a)∧(a,tupObj [.int p.1 t,.int p.2 u] n)∈z:=by
 induction ps with
 |nil=>intro rs _ i p h;simp at h
 |cons q ps ih =>
  intro rs H i p h
  refine H.i_cons fun r rs a b=>?_
  cases i with
  |zero=>exact tp_inv (P:=fun r=>∃ a n t u,(r::rs)[0]?=some (.ref a)∧(a,tupObj [.int p.1 t,.int p.2 u] n)∈z) a fun x n t u hm=>⟨x,n,t,u,rfl,Option.some.inj h▸hm⟩
  |succ i=>exact ih b i p h
theorem tps_kat {z:Led}{h:Heap}(hz:∀ p∈z,h.get? p.1=some p.2){ps:List (Int×Int)}:∀ {rs:List Value},VRs z (ps.map tp) rs→∃ fs,KatTups h rs fs∧fs.length=ps.length∧∀ v∈fs,∃ i t,v=.int i t:=by
 induction ps with
 |nil=>intro rs H;exact H.i_nil ⟨[],.nil,rfl,fun _ h=>nomatch h⟩
 |cons q ps ih =>
  intro rs H
  refine H.i_cons fun r rs a b=>?_
  refine xEAoAoo (ih b) fun fs h1 h2 h3=>?_
  refine tp_inv (P:=fun r=>∃ fs,KatTups h (r::rs) fs∧fs.length=(q::ps).length∧∀ v∈fs,∃ i t,v=.int i t) a fun x n t u hm=>?_
  refine ⟨.int q.1 t::fs,.cons (hz _ hm) rfl rfl rfl h1,by simp [h2],fun v hv=>?_⟩
  rcases List.mem_cons.mp hv with e | hv
  ·exact ⟨_,_,e⟩
  ·exact h3 v hv
theorem sorted_small {prog:Program}{A:Around}{E:Value→Shared→Prop}{s:Shared}{h₀:Heap}{L:Addr}{mm:PySem.Str→Option Value}{news:Led}{l:Addr}{vs:List Value}{Q:Value→Shared→Prop}(F:Fr h₀ L s.heap mm)(N:News h₀ L s.heap news)(hl:s.heap.IsList l vs.toArray)(h2:vs.length<2)
  (h:∀ D c h',Fr h₀ L h' mm→News h₀ L h' ((D,lstObj vs c)::news)→(∀ q∈news,q.1<D)→Q (.ref D) {s with heap:=h'}):wpAny (model prog w) A (call (.builtin "sorted") [.ref l]) Q E s:=by
 refine Calls.call_function_entry kind_sorted plain_sorted entry_sorted (args_sorted1 _) ?_
 unfold Builtin.«sorted»
 refine wpAny_bind (m:=checkCount "sorted" 1 1 _) (wpAny_pure ?_)
 have sl:vs.length≤sizeLine:=Nat.le_trans (Nat.le_of_lt h2) (by decide)
 refine wpAny_bind (collect_list hl ?_ sl)
 refine wpAny_bind (wpAny_newList ?_ sl)
 refine gen ((s.heap.push (seqObj "list" #[] 0)).update s.heap.objs.size (Obj.mapSeq (·++vs.toArray))) fun H1 hH1=>?_
 have z1:H1.objs.size=s.heap.objs.size+1:=by rw [←hH1,Heap.size_update,size_push']
 have k1:∀ b o,s.heap.get? b=some o→H1.get? b=some o:=fun b o q=>by
  have hlt:b<s.heap.objs.size:=Heap.lt_size q
  rw [←hH1,Heap.get?_update_ne _ _ _ _ (Nat.ne_of_lt hlt),Heap.get?_push_ne _ _ _ (Nat.ne_of_lt hlt)]
  exact q
 show wpAny _ _ _ _ _ {s with heap:=H1.push (seqObj "list" vs.toArray 0)}
 have hD:(H1.push (seqObj "list" vs.toArray 0)).get? H1.objs.size=some (seqObj "list" vs.toArray 0):=Heap.get?_push_size _ rfl
 refine wpAny_bind (wpAny_holding (wpAny_call_entry slot_list_sort ⟨_,hD,rfl⟩ entry_list_sort ?body (args_list_sort _)))
 case body =>
  rw [list_sort_plain]
  refine wpAny_bind (listItems_at hD rfl ?_)
  refine wpAny_bind (listUpdate_at hD rfl ?_ (by rw [List.size_toArray];exact sl) (Nat.zero_le _))
  refine gen ((H1.push (seqObj "list" vs.toArray 0)).update H1.objs.size (Obj.mapSeq fun _=>(#[]:Array Value))) fun H2 hH2=>?_
  refine xEo (⟨_,hH2▸get?_update_seq hD fun _=>#[]⟩:∃ e1,H2.get? H1.objs.size=some (seqObj "list" #[] e1)) fun e1 ho1=>?_
  have k2:∀ b o,s.heap.get? b=some o→H2.get? b=some o:=fun b o q=>by
   have hlt:b<H1.objs.size:=by rw [z1];exact Nat.lt_succ_of_lt (Heap.lt_size q)
   rw [←hH2,Heap.get?_update_ne _ _ _ _ (Nat.ne_of_lt hlt),Heap.get?_push_ne _ _ _ (Nat.ne_of_lt hlt)]
   exact k1 b o q
  refine wpAny_bind (seqEpoch_at ho1 rfl ?_)
  refine wpAny_bind (wpAny_newTuple ?_ sl)
  refine wpAny_bind (wpAny_newList ?_ (Nat.zero_le _))
  refine wpAny_holding ?_
  refine gen ((H2.push (seqObj "tuple" vs.toArray 0)).push (seqObj "list" #[] 0)) fun H3 hH3=>?_
  show wpAny _ _ _ _ _ {s with heap:=H3}
  have k3:∀ b o,H2.get? b=some o→H3.get? b=some o:=fun b o q=>hH3▸Heap.get?_push_of_some _ (Heap.get?_push_of_some _ q)
  dsimp only
  have hs2:vs.toArray.size<2:=by rw [List.size_toArray];exact h2
  rw [if_pos hs2,if_pos hs2]
  refine wpAny_bind (wpAny_pure ?_)
  rw [StateT.run_pure]
  refine wpAny_bind (wpAny_pure ?_)
  dsimp only
  have hout:(arrOf (SortSt.mk' general' (vs.toArray.zip vs.toArray) #[] 7 none)).map (·.2)=vs.toArray:=by
   show (vs.toArray.zip vs.toArray).map (·.2)=vs.toArray
   apply Array.toList_inj.mp
   rw [Array.toList_map,ksk_zip]
   rcases vs with _ | ⟨x,_ | ⟨y,r⟩⟩
   ·rfl
   ·rfl
   ·exact absurd h2 (by rw [List.length_cons,List.length_cons];simp)
  rw [hout]
  refine wpAny_bind (seqEpoch_at (k3 _ _ ho1) rfl ?_)
  refine wpAny_bind (listUpdate_at (k3 _ _ ho1) rfl ?_ (Nat.zero_le _) (by rw [List.size_toArray];exact Nat.le_succ_of_le sl))
  simp only [bne_self_eq_false,Bool.false_eq_true,if_false]
  refine xEo (⟨_,get?_update_seq (k3 _ _ ho1) fun _=>vs.toArray⟩:∃ c2,(H3.update H1.objs.size (Obj.mapSeq fun _=>vs.toArray)).get? H1.objs.size=some (seqObj "list" vs.toArray c2)) fun c2 hc2=>?_
  have k4:∀ b o,s.heap.get? b=some o→(H3.update H1.objs.size (Obj.mapSeq fun _=>vs.toArray)).get? b=some o:=fun b o q=>by
   have hlt:b<H1.objs.size:=by rw [z1];exact Nat.lt_succ_of_lt (Heap.lt_size q)
   rw [Heap.get?_update_ne _ _ _ _ (Nat.ne_of_lt hlt)]
   exact k3 _ _ (k2 _ _ q)
  refine wpAny_pure ⟨_,rfl,wpAny_pure ⟨_,rfl,h H1.objs.size c2 _ (F.keeps k4) (fun p hp=>?_) fun q hq=>?_⟩⟩
  ·rcases List.mem_cons.mp hp with rfl | hp
   ·refine ⟨hc2,?_,?_⟩
    ·rw [z1];exact Nat.ne_of_gt (Nat.lt_succ_of_lt F.ns.lt)
    ·rw [z1];exact Heap.get?_none_of_le (Nat.le_trans F.above (Nat.le_succ_of_le (Nat.le_of_lt F.ns.lt)))
   ·exact ⟨k4 _ _ (N p hp).1,(N p hp).2⟩
  ·rw [z1];exact Nat.lt_succ_of_lt (Heap.lt_size (N q hq).1)
noncomputable def Asc:List (Int×Int)→Prop
 |[]=>True
 |[_]=>True
 |p::q::r=>p.1<q.1∧Asc (q::r)
theorem Asc.at:∀ {ps:List (Int×Int)},Asc ps→∀ (i:Nat) (p q:Int×Int),ps[i]?=some p→ps[i+1]?=some q→p.1<q.1
 |[],_,_,_,_,h,_=>by simp at h
 |[_],_,i,_,_,_,h=>by simp at h
 |a::b::r,h,0,p,q,h1,h2=>by simp at h1 h2;subst h1;subst h2;exact h.1
 |a::b::r,h,i+1,p,q,h1,h2=>Asc.at h.2 i p q (by simpa using h1) (by simpa using h2)
theorem Wd.pushed {X:Fx w K fn d}{z:Led}{s:Shared}(W:Wd X m σ z s):∃ m' news,Fr X.h₀ X.L s.heap m'∧News X.h₀ X.L s.heap news∧(∀ p∈z,p∈news) ∧
  ∀ h' a o,Fr X.h₀ X.L h' m'→News X.h₀ X.L h' ((a,o)::news)→(∀ q∈news,q.1<a)→Wd X m σ ((a,o)::z) {s with heap:=h'}:=by
 obtain ⟨m',⟨cl,F,N,nd,S⟩,R⟩:=W
 refine ⟨m',_,F,N,fun p hp=>List.mem_append_right _ (List.mem_append_left _ hp),fun h' a o F' N' hlt=>⟨m',⟨cl,F',fun p hp=>N' p ?_,?_,S.mono fun _ h=>.tail _ h⟩,R.mono fun _ h=>.tail _ h⟩⟩
 ·exact (List.perm_middle (l₁:=cl) (a:=(a,o)) (l₂:=z++X.ext)).mem_iff.mp hp
 ·refine ((List.perm_middle (l₁:=cl) (a:=(a,o)) (l₂:=z++X.ext)).map (·.1)).nodup_iff.mpr ?_
  rw [List.map_cons]
  exact List.nodup_cons.mpr ⟨fun hm=>by refine xEAoo (List.mem_map.mp hm) fun p hp e=>?_;exact absurd (hlt p hp) (by rw [e];exact Nat.lt_irrefl _),nd⟩
theorem bc_sorted {a:Addr}{ps:List (Int×Int)}{Q:V→St→Prop}(hσ:(a,Cell.lst (ps.map tp))∈σ)(hz:ps.length<64)(hs:Asc ps)(h:Q (.lst (ps.map tp)) σ):BC w (.builtin "sorted") [.own a] σ Q:=by
 intro K fn d X m z s rs QR E W hv k
 refine hv.i1 fun _ h1=>h1.i_own ?_
 ·refine xEEAoo (W.cellL hσ) fun vs n he hvs=>?_
  have hlen:vs.length=ps.length:=by rw [←hvs.length,List.length_map]
  have hl:s.heap.IsList a vs.toArray:=⟨_,he,rfl,n,rfl⟩
  refine xEEAoAoAoo W.pushed fun m' news F N hin go=>?_
  have fin:∀ D c h',Fr X.h₀ X.L h' m'→News X.h₀ X.L h' ((D,lstObj vs c)::news)→(∀ q∈news,q.1<D)→QR (.ref D) {s with heap:=h'}:=fun D c h' F' N' hlt =>
   k _ (.lst (ps.map tp)) σ _ _ (fun _ h=>.tail _ h) (go h' D _ F' N' hlt) (.lst (.head _) (hvs.mono fun _ h=>.tail _ h)) ⟨rfl,rfl,rfl⟩ h
  by_cases h2:vs.length<2
  ·exact sorted_small F N hl h2 fin
  ·refine kat_sorted F N hl (by exact zzm) (by lia) fun D e1 h' F' N' hlt=>?_
   have hz':∀ p∈z,h'.get? p.1=some p.2:=fun p hp=>(N' p (.tail _ (hin p hp))).1
   refine xEAoAoo (tps_kat hz' hvs) fun fs hk hfl hfi=>?_
   refine kat_kind (T:=.type "int") hk (by lia) (fun v hv=>by refine xEEo (hfi v hv) fun i t er1=>?_;subst er1;exact Looks.now) (by decide) ?_
   have U:UpdF D (seqObj "list" #[] e1) ((D,seqObj "list" #[] e1)::news) (fun o=>(D,o)::news):=UpdF.head fun p hp=>Nat.ne_of_lt (hlt p hp)
   refine sort_ok (I:=fun s'=>s'={s with heap:=h'}) (by lia) ?_ ?_ rfl
   ·rintro i C s' h1 h2 rfl hC
    refine xEo (⟨ps[i]'(by lia),List.getElem?_eq_getElem _⟩:∃ p,ps[i]?=some p) fun p hp=>?_
    refine xEo (⟨ps[i - 1]'(by lia),List.getElem?_eq_getElem _⟩:∃ q,ps[i - 1]?=some q) fun q hq=>?_
    refine xEEEEAoo (tps_get hvs i p hp) fun x nx t u ex hx=>?_
    refine xEEEEAoo (tps_get hvs (i - 1) q hq) fun y ny t' u' ey hy=>?_
    have lt:=hs.at (i - 1) q p hq (by rw [show i - 1+1=i by lia];exact hp)
    unfold kas_ask
    rw [show vs.getD i Value.none=.ref x by simp [List.getD,ex],show vs.getD (i - 1) Value.none=.ref y by simp [List.getD,ey]]
    refine kat_lt (hz' _ hx) rfl (hz' _ hy) rfl ?_
    refine kat_cons (wpAny_eqBool_int ?_)
    rw [show (p.1 == q.1)=false from beq_eq_false_iff_ne.mpr (by lia)]
    refine kat_no ?_
    refine oneLt_int ?_
    rw [decide_eq_false (by lia)]
    exact hC _ rfl
   ·rintro s' rfl
    refine KasFin.intro F' N' U fun h'' c F'' N''=>?_
    have e:((List.toArray (List.range vs.length)).toList.map fun i=>vs.getD i Value.none)=vs:=by
     refine List.ext_getElem? fun i=>?_
     rw [List.getElem?_map]
     by_cases hi:i<vs.length
     ·simp [hi]
     ·simp [hi]
    rw [e] at N''
    exact fin D c h'' F'' N'' hlt
end NN
end
section
open PySem PySem.W PySem.Calls PyProof.Rows
namespace NN
variable {w:World}{K:Frag}{fn:FnS}{d:Nat}{m:Mp}{σ:St}
theorem e1_assign_tuple {t₁ t₂ value:Expr}{k₀:Nat}{tpos pos:Pos}{Q:Fl→Mp→St→Prop}
  (h:EV w K fn d m value σ fun v σ'=>AS w K fn d (.Tuple [t₁,t₂] k₀ tpos) v m σ' fun m₁ σ₁=>Q .next m₁ σ₁)
  (h1:∀ env,swapsWithSole [Expr.Tuple [t₁,t₂] k₀ tpos] value pos.line env=pure false) (h2:∀ env,swappedStores [Expr.Tuple [t₁,t₂] k₀ tpos] value env=pure none) :
  E1 w K fn d (.Assign [.Tuple [t₁,t₂] k₀ tpos] value pos) m σ Q:=by
 intro X z s QR E W k
 refine Assign_Tuple (h X z s _ E W ?_) (h1 _) (h2 _)
 intro r v σ' z' s' sub W' hv sm hq
 exact hq X z' s' r (fun _ s₂=>QR .next s₂) E W' hv fun m₁ σ₁ z₁ s₁ a b c e=>k .next .next m₁ σ₁ z₁ s₁ (sub.trans a) b .next (sm.trans c) e
theorem ev_str {x:PySem.Str}{k:Nat}{pos:Pos}{Q:V→St→Prop}(h:Q (.str x) σ):EV w K fn d m (.Constant (.str x) k pos) σ Q :=
 fun _ _ s _ _ W kk=>wpAny_Constant_str (kk _ _ _ _ _ Sub.same (W.tok _) (.str x s.toks) Sm.tok h)
theorem ev_dict2 {x₁ x₂:PySem.Str}{c₁ c₂:Nat}{p₁ p₂ pos:Pos}{e₁ e₂:Expr}{Q:V→St→Prop}(hne:x₁≠x₂)
  (h:EV w K fn d m e₁ σ fun a σ₁=>EV w K fn d m e₂ σ₁ fun b σ₂=>Q (.dct w [x₁,x₂] [a,b]) σ₂) :
  EV w K fn d m (.Dict [some (.Constant (.str x₁) c₁ p₁),some (.Constant (.str x₂) c₂ p₂)] [e₁,e₂] pos) σ Q:=by
 intro X z s QR E W k
 obtain ⟨m',⟨cl,F,N,nd,S⟩,R⟩:=id W
 refine kdn_eval (knd:=kndS w) F N X.T.nolimit rfl rfl (by simp) (by show 2≤15;exact Nat.le_add_left _ _) fun D h' o F' N' lt lo hd=>?_
 have W₁:∀ tk,Wd (X.with D o) m σ z {s with heap:=h',toks:=tk}:=fun tk =>
  ⟨m',⟨cl,F',fun p hp=>N' p (perm3.mem_iff.mp hp),nodup3 nd fun p hp=>Nat.ne_of_lt (lt p hp),S⟩,R.r,R.c⟩
 refine evalPairs_cons (Constant_str ?_)
 refine wpAny_bind (h (X.with D o) z _ _ E (W₁ _) ?_)
 intro ra a σ₁ z₁ s₁ sub₁ W₁' va sm₁ h₁
 refine wpAny_bind (wpAny_standAt (wpAny_pure ?_))
 refine evalPairs_cons (Constant_str ?_)
 refine wpAny_bind (h₁ (X.with D o) z₁ _ _ E (W₁'.tok _) ?_)
 intro rb b σ₂ z₂ s₂ sub₂ W₂ vb sm₂ h₂
 refine wpAny_bind (wpAny_standAt (wpAny_pure ?_))
 refine evalPairs_nil ?_
 obtain ⟨m'',⟨cl₂,F₂,N₂,nd₂,S₂⟩,R₂⟩:=W₂
 have nd₃:=(perm3.map (·.1)).nodup_iff.mp nd₂
 rw [List.map_cons,List.nodup_cons] at nd₃
 have hne₂:∀ p∈cl₂++(z₂++X.ext),p.1≠D:=fun p hp e=>nd₃.1 (List.mem_map.mpr ⟨p,hp,e⟩)
 have N₂':News X.h₀ X.L s₂.heap ((D,o)::(cl₂++(z₂++X.ext))):=fun p hp=>N₂ p (perm3.mem_iff.mpr hp)
 have U:UpdF D o ((D,o)::(cl₂++(z₂++X.ext))) (fun o'=>(D,o')::(cl₂++(z₂++X.ext))):=UpdF.head hne₂
 refine kdn_made_str (o:=o) (news:=(D,o)::(cl₂++(z₂++X.ext))) (g:=fun o'=>(D,o')::(cl₂++(z₂++X.ext))) F₂ N₂' U hd rfl ?_ fun h₃ o' F₃ N₃ hd'=>?_
 ·show [x₁,x₂].Nodup
  simp [hne]
 ·have sub₃:Sub z₂ ((D,o')::z₂):=fun _ h=>.tail _ h
  refine k _ _ σ₂ ((D,o')::z₂) _ ((sub₁.trans sub₂).trans sub₃) ⟨m'',⟨cl₂,F₃,fun p hp=>N₃ p ?_,?_,S₂.mono sub₃⟩,R₂.r.mono sub₃,R₂.c⟩ (.dct (rs:=[ra,rb]) (.head _) lo hd' (.cons ((va.mono sub₂).mono sub₃) (.cons (vb.mono sub₃) .nil))) (((⟨rfl,rfl,rfl⟩:Sm s {s with heap:=h',toks:=s.toks+1}).trans sm₁).trans ((⟨sm₂.gens,sm₂.drawn,sm₂.os⟩:Sm s₁ s₂).trans ⟨rfl,rfl,rfl⟩)) h₂
  ·exact (List.perm_middle (l₁:=cl₂) (a:=(D,o')) (l₂:=z₂++X.ext)).mem_iff.mp hp
  ·refine ((List.perm_middle (l₁:=cl₂) (a:=(D,o')) (l₂:=z₂++X.ext)).map (·.1)).nodup_iff.mpr ?_
   exact List.nodup_cons.mpr nd₃
end NN
end
section
open PySem PySem.W PySem.Calls PyProof.Rows
namespace NN
variable {w:World}{K:Frag}{fn:FnS}{d:Nat}{m:Mp}{σ:St}
theorem ev_chain2 {l r₁ r₂:Expr}{op₁ op₂:CmpOp}{pos:Pos}{Q:V→St→Prop}
  (h:EV w K fn d m l σ fun a σ₁=>EV w K fn d m r₁ σ₁ fun b σ₂=>∃ c,OP2 w K σ₂ (compareOp op₁) a b (.bool c) ∧
   (c=true→EV w K fn d m r₂ σ₂ fun b' σ₃=>∃ c',OP2 w K σ₃ (compareOp op₂) b b' (.bool c')∧Q (.bool c') σ₃)∧(c=false→Q (.bool false) σ₂))
  (hm:lastMarks [op₁,op₂] [r₁,r₂]=false):EV w K fn d m (.Compare l [op₁,op₂] [r₁,r₂] pos) σ Q:=by
 intro X z s QR E W k
 refine Compare_chain (h X z s _ E W ?_) hm
 intro ra a σ₁ z₁ s₁ sub₁ W₁ va sm₁ h₁
 refine chain_link (h₁ X z₁ s₁ _ E W₁ ?_)
 rintro rb b σ₂ z₂ s₂ sub₂ W₂ vb sm₂ ⟨c,ho,ht,hf⟩
 refine ho fn d X m z₂ ra rb s₂ _ E W₂ (va.mono sub₂) vb fun r tk hv=>?_
 refine hv.i_bool (wpAny_truthy_bool ?_)
 cases c with
 |false=>exact k _ _ σ₂ z₂ _ (sub₁.trans sub₂) (W₂.tok tk) (.bool _) ((sm₁.trans sm₂).trans Sm.tok) (hf rfl)
 |true =>
  refine chain_last (ht rfl X z₂ _ _ E (W₂.tok tk) ?_)
  rintro rc b' σ₃ z₃ s₃ sub₃ W₃ vc sm₃ ⟨c',ho',hq⟩
  refine ho' fn d X m z₃ rb rc s₃ _ E W₃ (vb.mono sub₃) vc fun r tk' hv=>?_
  exact k _ _ σ₃ z₃ _ ((sub₁.trans sub₂).trans sub₃) (W₃.tok tk') hv ((((sm₁.trans sm₂).trans Sm.tok).trans sm₃).trans Sm.tok) hq
theorem fmc {α β:Type}{f g:α→Option β}:∀ {l:List α},(∀ x∈l,f x=g x)→l.filterMap f=l.filterMap g
 |[],_=>rfl
 |x::l,h=>by rw [List.filterMap_cons,List.filterMap_cons,h x (.head _),fmc fun y hy=>h y (.tail _ hy)]
theorem fm_from (a:Nat){α:Type}(l:List α):∀ k,k+a=l.length→((List.range k).map fun i=>a+i).filterMap (l[·]?)=l.drop a:=by
 intro k hk
 rw [List.filterMap_map]
 refine List.ext_getElem? fun i=>?_
 have e:(fun i=>l[a+i]?)=fun i=>(l.drop a)[i]?:=by funext i;rw [List.getElem?_drop]
 have e2:List.filterMap ((fun x=>l[x]?)∘fun i=>a+i) (List.range k)=l.drop a:=by
  show List.filterMap (fun i=>l[a+i]?) (List.range k)=_
  rw [e]
  have hl:(l.drop a).length=k:=by rw [List.length_drop];lia
  rw [←hl]
  generalize l.drop a=u
  clear hl e hk
  induction u with
  |nil=>rfl
  |cons x u ih =>
   rw [List.length_cons,List.range_succ_eq_map,List.filterMap_cons]
   simp only [List.getElem?_cons_zero,List.filterMap_map]
   congr 1
 rw [e2]
theorem pick_from {α:Type}{n:Nat}:∃ f:List Nat,(∀ l:List α,l.length=n→f.filterMap (l[·]?)=l.drop 1)∧(∀ rs:List Value,rs.length=n→slicePick rs.toArray (some 1) none none=(f.filterMap (rs[·]?)).toArray)∧∀ i∈f,i<n:=by
 refine ⟨(List.range (n - 1)).map fun i=>1+i,fun l hl=>?_,fun rs hr=>?_,fun i hi=>?_⟩
 ·rcases l with _ | ⟨x,l⟩
  ·subst hl;rfl
  ·exact fm_from 1 (x::l) (n - 1) (by rw [←hl];simp)
 ·unfold slicePick
  have e:sliceRange (sliceBounds (some 1) none none rs.toArray.size).1 (sliceBounds (some 1) none none rs.toArray.size).2.1 (sliceBounds (some 1) none none rs.toArray.size).2.2=(List.range (n - 1)).map fun i=>1+i:=by
   rw [List.size_toArray,hr]
   unfold sliceBounds sliceRange
   simp only [Option.getD_none,show (1:Int) > 0 by decide,if_true,show ¬ ((1:Int)<0) by decide,if_false]
   rcases n with _ | n
   ·rfl
   ·rw [show max 0 (min (1:Int) ((n+1:Nat):Int))=1 by lia]
    by_cases hn:n=0
    ·subst hn;rfl
    ·rw [if_pos (by lia),show ((((n+1:Nat):Int) - 1+1 - 1) / 1).toNat=n+1 - 1 by rw [Int.ediv_one];simp]
     refine List.map_congr_left fun i _=>?_
     lia
  rw [e]
  congr 1
  refine fmc fun i _=>?_
  simp
 ·refine xEAoo (List.mem_map.mp hi) fun j hj er1=>?_;subst er1
  have:=List.mem_range.mp hj
  omega
theorem pick_to {α:Type}{n:Nat}(k:Nat):∃ f:List Nat,(∀ l:List α,l.length=n→f.filterMap (l[·]?)=l.take k)∧(∀ rs:List Value,rs.length=n→slicePick rs.toArray none (some (k:Int)) none=(f.filterMap (rs[·]?)).toArray)∧∀ i∈f,i<n:=by
 refine ⟨(List.range (min k n)).map fun i=>0+i,fun l hl=>?_,fun rs hr=>?_,fun i hi=>?_⟩
 ·have:=fm_from 0 (l.take k) (min k n) (by rw [List.length_take,hl];rfl)
  rw [List.drop_zero] at this
  rw [←this]
  refine fmc fun i hi=>?_
  refine xEAoo (List.mem_map.mp hi) fun j hj er1=>?_;subst er1
  have:=List.mem_range.mp hj
  rw [List.getElem?_take_of_lt (by lia)]
 ·unfold slicePick
  have e:sliceRange (sliceBounds none (some (k:Int)) none rs.toArray.size).1 (sliceBounds none (some (k:Int)) none rs.toArray.size).2.1 (sliceBounds none (some (k:Int)) none rs.toArray.size).2.2=(List.range (min k n)).map fun i=>0+i:=by
   rw [List.size_toArray,hr]
   unfold sliceBounds sliceRange
   simp only [Option.getD_none,show (1:Int) > 0 by decide,if_true,show ¬ ((k:Int)<0) by simp,if_false]
   rw [show max 0 (min (k:Int) (n:Int))=((min k n:Nat):Int) by lia]
   by_cases hn:min k n=0
   ·rw [hn];rfl
   ·rw [if_pos (by lia),show ((((min k n:Nat):Int) - 0+1 - 1) / 1).toNat=min k n by rw [Int.ediv_one];simp]
    refine List.map_congr_left fun i _=>?_
    simp
  rw [e]
  congr 1
  refine fmc fun i _=>?_
  simp
 ·refine xEAoo (List.mem_map.mp hi) fun j hj er1=>?_;subst er1
  have:=List.mem_range.mp hj
  lia
end NN
end
section
open PySem PySem.W PySem.Calls PyProof.Rows
namespace NN
inductive Lf (p:Prop):Prop where
 |mk (h:p)
theorem Lf.out {p:Prop}:Lf p→p | ⟨h⟩=>h
theorem blt_lt {a b:Nat}(h:Nat.blt a b=true):a<b:=Nat.le_of_ble_eq_true h
noncomputable def encL:List Nat→Nat
 |[]=>1
 |c::l=>bif (Nat.blt c 128 && Nat.blt 0 (encL l)) then encL l*128+c else 0
noncomputable def enc (s:PySem.Str):Nat:=encL s.cps.toList
theorem encL_cons {c:Nat}{l:List Nat}(h:encL (c::l)≠0):c<128∧0<encL l∧encL (c::l)=encL l*128+c:=by
 have e:encL (c::l)=bif (Nat.blt c 128 && Nat.blt 0 (encL l)) then encL l*128+c else 0:=rfl
 cases q:(Nat.blt c 128 && Nat.blt 0 (encL l)) with
 |false=>rw [q] at e;exact absurd e h
 |true=>rw [q] at e;rw [Bool.and_eq_true] at q;exact ⟨blt_lt q.1,blt_lt q.2,e⟩
theorem encL_inj {a:List Nat}:∀ {b:List Nat},encL a=encL b→encL a≠0→a=b:=by
 induction a with
 |nil =>
  intro b h h0
  cases b with
  |nil=>rfl
  |cons c l =>
   have q:=encL_cons (h▸h0)
   exact absurd (q.2.2.symm.trans h.symm) (by have:encL []=1:=rfl;have:=q.2.1;lia)
 |cons c l ih =>
  intro b h h0
  have p:=encL_cons h0
  cases b with
  |nil=>exact absurd (p.2.2.symm.trans h) (by have:encL []=1:=rfl;have:=p.2.1;lia)
  |cons c' l' =>
   have q:=encL_cons (h▸h0)
   have e:encL l*128+c=encL l'*128+c':=p.2.2.symm.trans (h.trans q.2.2)
   have e2:encL l=encL l':=by have:=p.1;have:=q.1;lia
   have e1:c=c':=by lia
   rw [e1,ih e2 (Nat.ne_of_gt p.2.1)]
theorem enc_inj {a b:PySem.Str}(h:enc a=enc b)(h0:enc a≠0):a=b:=by
 obtain ⟨⟨x⟩⟩:=a;obtain ⟨⟨y⟩⟩:=b
 have:=encL_inj (a:=x) (b:=y) h h0
 rw [this]
noncomputable def lk {α:Type}:List (Nat×α)→Nat→Option α
 |[],_=>none
 |(a,x)::r,n=>bif Nat.beq a n then some x else lk r n
noncomputable abbrev NmsE:=List (Nat×NameKind)
noncomputable def kindE (ns:NmsE)(n:Nat):Option NameKind:=lk ns n
noncomputable abbrev encN (ns:Nms):NmsE:=ns.map fun p=>(enc p.1,p.2)
theorem beq_enc {x y:PySem.Str}(h:enc y≠0):Nat.beq (enc y) (enc x)=(x == y):=by
 by_cases e:x=y
 ·subst e;rw [Nat.beq_refl,beq_self_eq_true]
 ·rw [beq_eq_false_iff_ne.mpr e]
  cases q:Nat.beq (enc y) (enc x) with
  |false=>rfl
  |true=>exact absurd (enc_inj (Nat.eq_of_beq_eq_true q) h).symm e
theorem lk_eq {β:Type}{x:PySem.Str}{l:List (PySem.Str×β)}(h0:∀ p∈l,enc p.1≠0):lk (l.map fun p=>(enc p.1,p.2)) (enc x)=l.lookup x:=by
 induction l with
 |nil=>rfl
 |cons p r ih =>
  show (bif Nat.beq (enc p.1) (enc x) then some p.2 else lk (r.map fun p=>(enc p.1,p.2)) (enc x))=List.lookup x ((p.1,p.2)::r)
  rw [List.lookup_cons,beq_enc (h0 _ (.head _)),ih fun p hp=>h0 p (.tail _ hp)]
  cases x == p.1<;>rfl
theorem mem_lookup {β:Type}{x:PySem.Str}{k:β}{l:List (PySem.Str×β)}(h:l.lookup x=some k):(x,k)∈l:=by
 induction l with
 |nil=>cases h
 |cons p r ih =>
  replace h:List.lookup x ((p.1,p.2)::r)=some k:=h
  rw [List.lookup_cons] at h
  cases e:x == p.1 with
  |true=>rw [e] at h;rw [eq_of_beq e,←Option.some.inj h];exact .head _
  |false=>rw [e] at h;exact .tail _ (ih h)
theorem kindE_use {x:PySem.Str}{k:NameKind}{ns:Nms}(h0:∀ p∈ns,enc p.1≠0)(h:kindE (encN ns) (enc x)=some k):(x,k)∈ns:=mem_lookup ((lk_eq h0).symm.trans h)
noncomputable def okB:Expr→Bool
 |.Call (.Name id _) [] [] _=>id != ("super" : PySem.Str)
 |_=>true
theorem attributeBase_eq {o:Expr}{x:PySem.Str}{env:Env}{whole:Sem Value}(h:okB o=true):attributeBase o x env whole=whole:=by
 cases o with
 |Call f args kws p =>
  cases f with
  |Name id q =>
   cases args with
   |cons a as=>rfl
   |nil =>
    cases kws with
    |cons a as=>rfl
    |nil =>
     show (if id != "super" || x == "__class__" || env.kindOf "super" != some .globalImplicit || env.kindOf "__class__" != some .free then _ else _)=_
     rw [show (id != ("super" : PySem.Str))=true from h]
     rfl
  |_=>rfl
 |_=>rfl
noncomputable def notStar:Expr→Bool
 |.Starred _ _=>false
 |_=>true
theorem star_cons {e:Expr}{es:List Expr}{env:Env}(h:notStar e=true):starEach (e::es) env=(false,eval e env)::starEach es env:=by
 cases e<;>first | rfl | cases h
theorem star_any {pos:Pos}{env:Env}{es:List Expr}:es.all notStar=true→((backTo pos (starEach es env)).any (·.1))=false:=by
 induction es with
 |nil=>intro _;rfl
 |cons e es ih =>
  intro h
  rw [List.all_cons,Bool.and_eq_true] at h
  rw [star_cons h.1]
  exact ih h.2
theorem star_all {pos:Pos}{env:Env}{es:List Expr}(h:es.all notStar=true):((backTo pos (starEach es env)).all (!·.1))=true:=by
 have:=star_any (pos:=pos) (env:=env) h
 rw [List.any_eq_false] at this
 rw [List.all_eq_true]
 intro p hp
 have:=this p hp
 simpa using this
noncomputable def okM (o:Expr)(args:List Expr)(apos pos:Pos):Bool:=okB o && (args.all notStar && (Nat.blt args.length 30 && Nat.beq apos.endLine pos.line))
theorem call_attr_eq {o:Expr}{x:PySem.Str}{apos pos:Pos}{args:List Expr}(h:okM o args apos pos=true)(env:Env):eval (.Call (.Attribute o x apos) args [] pos) env=(do
   let ov ←eval o env
   standAt apos.atName
   let (f,first) ←holding [ov] (getMethod ov x (do return (←importBound o env).getD true))
   callWith pos f first (backTo pos (starEach args env)) []):=by
 unfold okM at h
 rw [Bool.and_eq_true,Bool.and_eq_true,Bool.and_eq_true] at h
 refine xAoAoAoo h fun h1 h2 h3 h4=>?_
 have hf:methodCallForm (args.length+0) (backTo pos (starEach args env)) (backToKw pos (keywordEach [] env))=true:=by
  unfold methodCallForm
  rw [star_all h2]
  have:args.length<30:=blt_lt h3
  rw [show backToKw pos (keywordEach [] env)=[] from rfl]
  simp [this]
 have hp:(apos.endLine == pos.line)=true:=by rw [Nat.eq_of_beq_eq_true h4];simp
 show (do
  let ov ←attributeBase o x env (eval o env)
  standAt apos.atName
  methodCall o x apos pos env ov (args.length+0) (backTo pos (starEach args env)) (backToKw pos (keywordEach [] env)))=_
 rw [attributeBase_eq h1]
 unfold methodCall
 rw [hf]
 unfold calleeOf methodCallPos
 simp only [Bool.not_true,Bool.false_or,hp,if_true,pure_bind]
 rfl
end NN
end
section
open PySem PySem.W PySem.Calls PyProof.Rows
namespace NN
inductive BI where
 |len | ord | chr | abs | int | min | max | range | str | tuple | sorted
inductive LM where
 |append | pop | reverse | join | index
structure Tb where
 gl:List (Nat×V)
 bi:List (Nat×BI)
 nsl:Addr→List PySem.Str
 fld:Addr→List (Nat×Nat)
 cla:Addr→List (Nat×V)
 meth:Addr→List (Nat×Addr)
 stat:Addr→List (Nat×Addr)
 lm:List (Nat×LM)
 gd:List (Nat×List PySem.Str×List V)
 kp:List (Nat×Unit)
structure Cx where
 w:World
 K:Frag
 T:Tb
 d:Nat
 ns:NmsE
 cl:List (Nat×Addr)
 comp:Bool
noncomputable def apS (x y:PySem.Str):PySem.Str:=⟨(x.cps.toList++y.cps.toList).toArray⟩
noncomputable def V.sel (v:V)(fi:Int→Prop)(fs:PySem.Str→Prop)(fo:Addr→Prop)(fl ft:List V→Prop):Prop :=
 V.casesOn (motive_1:=fun _=>Prop) v False (fun _=>False) fi fs fo (fun _=>False) (fun _=>False) (fun _=>False) ft fl (fun _ _ _=>False) (fun _ _ _=>False) (fun _=>False) (fun _ _=>False)
theorem V.sel_use {v:V}{fi:Int→Prop}{fs:PySem.Str→Prop}{fo:Addr→Prop}{fl ft:List V→Prop}(h:v.sel fi fs fo fl ft){P:V→Prop}(k1:∀ i,fi i→P (.int i))(k2:∀ i,fs i→P (.str i))(k3:∀ i,fo i→P (.own i))(k4:∀ i,fl i→P (.lst i))(k5:∀ i,ft i→P (.tup i)):P v:=by
 cases v with
 |int i=>exact k1 _ h
 |str i=>exact k2 _ h
 |own i=>exact k3 _ h
 |lst i=>exact k4 _ h
 |tup i=>exact k5 _ h
 |_=>exact h.elim
noncomputable def V.asI (v:V)(f:Int→Prop):Prop:=v.sel f (fun _=>False) (fun _=>False) (fun _=>False) (fun _=>False)
noncomputable def V.asS (v:V)(f:PySem.Str→Prop):Prop:=v.sel (fun _=>False) f (fun _=>False) (fun _=>False) (fun _=>False)
noncomputable def V.asO (v:V)(f:Addr→Prop):Prop:=v.sel (fun _=>False) (fun _=>False) f (fun _=>False) (fun _=>False)
theorem V.asI_use {v:V}{f:Int→Prop}(h:v.asI f){P:V→Prop}(k:∀ i,f i→P (.int i)):P v:=V.sel_use h k (fun _ h=>h.elim) (fun _ h=>h.elim) (fun _ h=>h.elim) fun _ h=>h.elim
theorem V.asS_use {v:V}{f:PySem.Str→Prop}(h:v.asS f){P:V→Prop}(k:∀ i,f i→P (.str i)):P v:=V.sel_use h (fun _ h=>h.elim) k (fun _ h=>h.elim) (fun _ h=>h.elim) fun _ h=>h.elim
theorem V.asO_use {v:V}{f:Addr→Prop}(h:v.asO f){P:V→Prop}(k:∀ i,f i→P (.own i)):P v:=V.sel_use h (fun _ h=>h.elim) (fun _ h=>h.elim) k (fun _ h=>h.elim) fun _ h=>h.elim
noncomputable def one (vs:List V)(f:V→Prop):Prop:=match vs with
 |[v]=>f v
 |_=>False
noncomputable def two (vs:List V)(f:V→V→Prop):Prop:=match vs with
 |[u,v]=>f u v
 |_=>False
theorem one_use {vs:List V}{f:V→Prop}(h:one vs f){P:List V→Prop}(k:∀ v,f v→P [v]):P vs:=by
 rcases vs with _ | ⟨v,_ | ⟨u,r⟩⟩
 ·exact h.elim
 ·exact k v h
 ·exact h.elim
theorem two_use {vs:List V}{f:V→V→Prop}(h:two vs f){P:List V→Prop}(k:∀ u v,f u v→P [u,v]):P vs:=by
 rcases vs with _ | ⟨v,_ | ⟨u,_ | ⟨x,r⟩⟩⟩
 ·exact h.elim
 ·exact h.elim
 ·exact k v u h
 ·exact h.elim
noncomputable def onI (vs:List V)(f:Int→Prop):Prop:=one vs fun v=>v.asI f
noncomputable def onS (vs:List V)(f:PySem.Str→Prop):Prop:=one vs fun v=>v.asS f
noncomputable def onO (vs:List V)(f:Addr→Prop):Prop:=one vs fun v=>v.asO f
noncomputable def abI (a b:V)(f:Int→Int→Prop):Prop:=a.asI fun x=>b.asI fun y=>f x y
noncomputable def twI (vs:List V)(f:Int→Int→Prop):Prop:=two vs fun a b=>abI a b f
theorem onI_use {vs:List V}{f:Int→Prop}(h:onI vs f){P:List V→Prop}(k:∀ x,f x→P [.int x]):P vs:=one_use h fun v h=>V.asI_use (P:=fun v=>P [v]) h k
theorem onS_use {vs:List V}{f:PySem.Str→Prop}(h:onS vs f){P:List V→Prop}(k:∀ x,f x→P [.str x]):P vs:=one_use h fun v h=>V.asS_use (P:=fun v=>P [v]) h k
theorem onO_use {vs:List V}{f:Addr→Prop}(h:onO vs f){P:List V→Prop}(k:∀ x,f x→P [.own x]):P vs:=one_use h fun v h=>V.asO_use (P:=fun v=>P [v]) h k
theorem abI_use {a b:V}{f:Int→Int→Prop}(h:abI a b f){P:V→V→Prop}(k:∀ x y,f x y→P (.int x) (.int y)):P a b:=V.asI_use (P:=fun a=>P a b) h fun x h=>V.asI_use (P:=fun b=>P (.int x) b) h fun y h=>k x y h
theorem twI_use {vs:List V}{f:Int→Int→Prop}(h:twI vs f){P:List V→Prop}(k:∀ x y,f x y→P [.int x,.int y]):P vs:=two_use h fun u v h=>abI_use (P:=fun u v=>P [u,v]) h k
noncomputable def optP {α:Type}(o:Option α)(f:α→Prop)(d:Prop):Prop:=match o with
 |some a=>f a
 |none=>d
theorem optP_use {α:Type}{o:Option α}{f:α→Prop}{d G:Prop}(h:optP o f d)(k:∀ a,o=some a→f a→G)(k':o=none→d→G):G:=by
 cases o with
 |none=>exact k' rfl h
 |some a=>exact k a rfl h
theorem optP_i {α:Type}{o:Option α}{f:α→Prop}{d:Prop}{a:α}(e:o=some a)(h:f a):optP o f d:=by rw [e];exact h
theorem optP_n {α:Type}{o:Option α}{f:α→Prop}{d:Prop}(e:o=none)(h:d):optP o f d:=by rw [e];exact h
noncomputable def bcV (b:BI)(vs:List V)(σ:St)(Q:V→St→Prop):Prop:=match b with
 |.len=>one vs fun v=>v.sel (fun _=>False) (fun x=>Lf (x.length<2^60)∧Q (.int x.length) σ) (fun a=>∃ us,Lf ((a,Cell.lst us)∈σ)∧Lf (us.length≤16384)∧Q (.int us.length) σ)
   (fun us=>Lf (us.length≤16384)∧Q (.int us.length) σ) fun us=>Lf (us.length≤16384)∧Q (.int us.length) σ
 |.ord=>onS vs fun x=>∃ c,Lf (x=⟨#[c]⟩)∧Q (.int (c:Nat)) σ
 |.chr=>onI vs fun i=>Lf (0≤i∧i≤1114111)∧Q (.str ⟨#[i.toNat]⟩) σ
 |.abs=>onI vs fun i=>∃ r,Lf (r=if i<0 then -i else i)∧Q (.int r) σ
 |.int=>match vs with
  |[v]=>v.asI fun i=>Q (.int i) σ
  |vs=>two vs fun u v=>u.asS fun x=>v.asI fun b=>∃ c v,Lf (x=⟨#[c]⟩∧b=16∧hexv c=some v)∧Q (.int (v:Nat)) σ
 |.min=>twI vs fun a b=>∃ r,Lf (r=if b<a then b else a)∧Q (.int r) σ
 |.max=>twI vs fun a b=>∃ r,Lf (r=if b > a then b else a)∧Q (.int r) σ
 |.range=>match vs with
  |[v]=>v.asI fun n=>Q (.rng 0 n) σ
  |vs=>twI vs fun a b=>Q (.rng a b) σ
 |.str=>onI vs fun a=>Lf (a.natAbs.log2<1920)∧∃ r,Lf (r=PySem.Str.ofString (toString a))∧Q (.str r) σ
 |.tuple=>one vs fun v=>v.sel (fun _=>False) (fun _=>False) (fun a=>∃ us,Lf ((a,Cell.lst us)∈σ)∧Lf (us.length≤1000000)∧Q (.tup us) σ) (fun us=>Lf (us.length≤1000000)∧Q (.tup us) σ) fun _=>False
 |.sorted=>onO vs fun a=>∃ ps:List (Int×Int),Lf ((a,Cell.lst (ps.map tp))∈σ)∧Lf (ps.length<64∧Asc ps)∧Q (.lst (ps.map tp)) σ
noncomputable def nil0 (vs:List V)(p:Prop):Prop:=match vs with
 |[]=>p
 |_::_=>False
theorem nil0_use {vs:List V}{p:Prop}(h:nil0 vs p){P:List V→Prop}(k:p→P []):P vs:=by
 cases vs with
 |nil=>exact k h
 |cons a b=>exact h.elim
noncomputable def lmV (b:LM)(ov:V)(vs:List V)(σ:St)(Q:V→St→Prop):Prop:=match b with
 |.append=>ov.asO fun a=>one vs fun v=>∃ us σ',Lf (Upc a (.lst us) (.lst (us++[v])) σ σ')∧Lf (us.length≤16000000)∧Q .none σ'
 |.pop=>ov.asO fun a=>nil0 vs (∃ us v σ',Lf (Upc a (.lst (us++[v])) (.lst us) σ σ')∧Lf (us.length≤16000000)∧Q v σ')
 |.reverse=>ov.asO fun a=>nil0 vs (∃ us σ',Lf (Upc a (.lst us) (.lst us.reverse) σ σ')∧Lf (us.length≤16000000)∧Q .none σ')
 |.join=>ov.asS fun s=>one vs fun v=>v.sel (fun _=>False) (fun _=>False) (fun a=>∃ xs:List PySem.Str,Lf ((a,Cell.lst (xs.map .str))∈σ)∧Lf (JoinOk s xs=true)∧∃ r,Lf (r=Txt.join s xs)∧Q (.str r) σ)
   (fun us=>∃ xs:List PySem.Str,Lf (us=xs.map .str)∧Lf (JoinOk s xs=true)∧∃ r,Lf (r=Txt.join s xs)∧Q (.str r) σ) fun _=>False
 |.index=>ov.asS fun x=>onS vs fun y=>∃ (i:Nat) (rest:List Nat),Lf (Builtin.Str.occurrences x y 0 x.length 1=i::rest)∧Q (.int i) σ
noncomputable def binV (op:Operator)(a b:V)(Q:V→Prop):Prop:=match op with
 |.Add=>a.sel (fun x=>b.asI fun y=>Q (.int (x+y))) (fun x=>b.asS fun y=>Lf (x.length+y.length≤sizeLine)∧Q (.str (apS x y))) (fun _=>False) (fun _=>False) fun _=>False
 |.Sub=>abI a b fun x y=>Q (.int (x - y))
 |.Mult=>abI a b fun x y=>Lf (IntMulOk x y)∧Q (.int (x*y))
 |.Mod=>abI a b fun x y=>Lf (y≠0)∧∃ r,Lf (r=Int.fmod x y)∧Q (.int r)
 |.FloorDiv=>abI a b fun x y=>Lf (y≠0∧Builtin.divisionGoesByPylong x y=false)∧∃ r,Lf (r=Int.fdiv x y)∧Q (.int r)
 |.Pow=>abI a b fun x y=>Lf (0≤y∧(Builtin.Int.intBits x:Int)*y≤2^27)∧∃ r,Lf (r=x^y.toNat)∧Q (.int r)
 |_=>False
noncomputable def datV (σ:St)(a b:V)(Q:Bool→Prop):Prop:=∃ da db,Lf (DAT σ a da∧DAT σ b db∧SeqAt.shaped da=true∧SeqAt.shaped db=true)∧Q (da.eqv db)
noncomputable def intO (v:V):Option Int:=match v with
 |.int i=>some i
 |_=>none
noncomputable def strV (v:V):Option PySem.Str:=match v with
 |.str i=>some i
 |_=>none
theorem intO_eq {v:V}{i:Int}(h:intO v=some i):v=.int i:=by
 cases v with
 |int j=>cases h;rfl
 |_=>exact nomatch h
theorem strV_eq {v:V}{i:PySem.Str}(h:strV v=some i):v=.str i:=by
 cases v with
 |str j=>cases h;rfl
 |_=>exact nomatch h
noncomputable def eqT (a b:V)(f:Int→Int→Prop)(g:PySem.Str→PySem.Str→Prop)(d:Prop):Prop :=
 optP (intO a) (fun x=>optP (intO b) (fun y=>f x y) d) (optP (strV a) (fun x=>optP (strV b) (fun y=>g x y) d) d)
theorem eqT_use {a b:V}{f:Int→Int→Prop}{g:PySem.Str→PySem.Str→Prop}{d:Prop}(h:eqT a b f g d){P:V→V→Prop}(k1:∀ x y,f x y→P (.int x) (.int y))(k2:∀ x y,g x y→P (.str x) (.str y))(k3:d→P a b):P a b :=
 optP_use h (fun x e h=>optP_use h (fun y e' h=>by rw [intO_eq e,intO_eq e'];exact k1 x y h) fun _=>k3) fun _ h=>optP_use h (fun x e h=>optP_use h (fun y e' h=>by rw [strV_eq e,strV_eq e'];exact k2 x y h) fun _=>k3) fun _=>k3
noncomputable def eqV (σ:St)(a b:V)(Q:Bool→Prop):Prop:=eqT a b (fun x y=>Q (x == y)) (fun x y=>Q (x == y)) (datV σ a b Q)
noncomputable def neV (σ:St)(a b:V)(Q:Bool→Prop):Prop:=eqT a b (fun x y=>Q (x != y)) (fun x y=>Q (x != y)) (datV σ a b fun c=>Q (!c))
noncomputable def inS (a b:PySem.Str):Bool := !(Builtin.Str.occurrences b a 0 b.length 1).isEmpty
noncomputable def notRaw:V→Bool
 |.raw _=>false
 |_=>true
noncomputable def cmpV (c:Cx)(op:CmpOp)(a b:V)(σ:St)(Q:Bool→Prop):Prop:=match op with
 |.Eq=>eqV σ a b Q
 |.NotEq=>neV σ a b Q
 |.Lt=>abI a b fun x y=>Q (decide (x<y))
 |.LtE=>abI a b fun x y=>Q (decide (x≤y))
 |.Gt=>abI a b fun x y=>Q (decide (x > y))
 |.GtE=>abI a b fun x y=>Q (decide (x ≥ y))
 |.In=>a.asS fun x=>(match b with
  |.str y=>Q (inS x y)
  |.glob g=>optP (lk c.T.gd g) (fun p=>Q ((p.1.zip p.2).lookup x).isSome) False
  |_=>False)
 |.NotIn=>a.asS fun x=>(match b with
  |.str y=>Q (!inS x y)
  |.dct W ks vs=>Lf (W=c.w)∧Q (!((ks.zip vs).lookup x).isSome)
  |_=>False)
 |.Is=>match b with
  |.none=>(bif notRaw a then Q a.isNone else False)
  |_=>False
 |.IsNot=>match b with
  |.none=>(bif notRaw a then Q (!a.isNone) else False)
  |_=>False
noncomputable def truV (v:V)(σ:St)(Q:Bool→Prop):Prop:=match v with
 |.bool b=>Q b
 |.int i=>Q (i != 0)
 |.none=>Q false
 |.tup vs=>Lf (vs.length<2^60)∧Q (!vs.isEmpty)
 |.own a=>∃ vs,Lf ((a,Cell.lst vs)∈σ)∧Lf (vs.length<2^60)∧Q (!vs.isEmpty)
 |_=>False
noncomputable def itemAt (vs:List V)(k:Int)(v:V):Prop:=(∃ i:Nat,k=i∧vs[i]?=some v∧(i:Int)<2^62)∨(k = -1∧∃ us,vs=us++[v]∧us.length<2^60)
noncomputable def tupAt (vs:List V)(k:Int)(v:V):Prop:=(-(2^63)≤k∧k<2^63)∧∃ j,seqIndex? k vs.length=some j∧vs[j]?=some v
noncomputable def strAt (x:PySem.Str)(k:Int)(c:Nat):Prop:=(-(2^63)≤k∧k<2^63)∧((seqIndex? k x.length).bind fun j=>x.cps[j]?)=some c
noncomputable def getI (c:Cx)(ov iv:V)(σ:St)(Q:V→Prop):Prop:=match ov with
 |.lst vs=>iv.asI fun k=>∃ v,Lf (∃ i:Nat,k=i∧vs[i]?=some v∧(i:Int)<2^62)∧Q v
 |.own a=>iv.asI fun k=>∃ vs v,Lf ((a,Cell.lst vs)∈σ)∧Lf (itemAt vs k v)∧Q v
 |.tup vs=>iv.asI fun k=>∃ v,Lf (tupAt vs k v)∧Q v
 |.str x=>iv.asI fun k=>∃ ch,Lf (strAt x k ch)∧Q (.str ⟨#[ch]⟩)
 |.dct W ks vs=>iv.asS fun x=>∃ v,Lf (W=c.w∧(ks.zip vs).lookup x=some v)∧Q v
 |.glob g=>iv.asS fun x=>optP (lk c.T.gd g) (fun p=>∃ v,Lf ((p.1.zip p.2).lookup x=some v)∧Q v) False
 |_=>False
noncomputable def nthV:List V→Nat→Option V
 |v::_,0=>some v
 |_::vs,n+1=>nthV vs n
 |[],_=>none
noncomputable def fldV (c:Cx)(C:Addr)(vs:List V)(n:Nat)(Q:V→Prop):Prop:=optP (lk (c.T.fld C) n) (fun i=>optP (nthV vs i) Q False) (optP (lk (c.T.cla C) n) Q False)
noncomputable def okV:V→Bool
 |.raw _=>false
 |.bi _=>false
 |_=>true
noncomputable def getA (c:Cx)(ov:V)(n:Nat)(σ:St)(Q:V→Prop):Prop:=match ov with
 |.inst C ns vs=>Lf (ns=c.T.nsl C)∧fldV c C vs n fun v=>bif okV v then Q v else False
 |.own a=>∃ C vs,Lf ((a,Cell.ins C (c.T.nsl C) vs)∈σ)∧optP (lk (c.T.fld C) n) (fun i=>optP (nthV vs i) (fun v=>bif okV v then Q v else False) False) False
 |_=>False
noncomputable def stV:List V→Nat→V→(List V→Prop)→Prop
 |[],0,v,f=>f [v]
 |[],_+1,_,_=>False
 |_::vs,0,v,f=>f (v::vs)
 |u::vs,n+1,v,f=>stV vs n v fun vs'=>f (u::vs')
noncomputable def nameO:Expr→Option PySem.Str
 |.Name x _=>some x
 |_=>none
noncomputable def sliceO:Expr→Option (Option Expr×Option Expr×Option Expr)
 |.Slice lo hi st _=>some (lo,hi,st)
 |_=>none
noncomputable def genO:List Comprehension→Option (PySem.Str×Expr)
 |[g]=>(match g.ifs,g.is_async with
  |[],0=>(match nameO g.target with | some x=>some (x,g.iter) | none=>none)
  |_,_=>none)
 |_=>none
noncomputable def relE (ns:NmsE)(outer:NmsE):NmsE:=ns.map fun (n,k)=>if (k == .free && kindE outer n == some .cell) then (n,.cell) else (n,k)
noncomputable def closE:NmsE→List (Nat×Addr)→List (Nat×Addr)→Option (List (Nat×Addr))
 |[],_,acc=>some acc
 |(n,k)::r,cs,acc=>if k == .free then match lk cs n with
   |some a=>closE r cs ((n,a)::acc)
   |none=>none
  else closE r cs acc
noncomputable def noSet:Expr→Bool
 |.Set _ _ _=>false
 |_=>true
noncomputable def okC (scope:Scope)(x:PySem.Str):Bool:=scope.kind == .function && ((encN scope.names).all fun p=>p.1 != 0 && p.2 != .cell) && (decide ((encN scope.names).map (·.1)).Nodup) && (kindE (encN scope.names) (enc x) == some .local) && (scope.names.all fun p=>p.1 != ("__debug__" : PySem.Str))
noncomputable def strO:Const→Option PySem.Str
 |.str x=>some x
 |_=>none
noncomputable def keyE:Expr→Option PySem.Str
 |.Constant k _ _=>strO k
 |_=>none
noncomputable def keyO:Option Expr→Option PySem.Str
 |some e=>keyE e
 |none=>none
noncomputable def noComp:Expr→Bool
 |.ListComp _ _ _ _=>false
 |.SetComp _ _ _ _=>false
 |.DictComp _ _ _ _ _=>false
 |_=>true
noncomputable def isTup:Expr→Bool
 |.Tuple _ _ _=>true
 |_=>false
noncomputable def isCall:Expr→Bool
 |.Call _ _ _ _=>true
 |_=>false
noncomputable def compO:Expr→Option (Expr×List Comprehension×Scope×Pos)
 |.ListComp elt gens scope pos=>some (elt,gens,scope,pos)
 |_=>none
noncomputable def srcV (it:V)(vs:List V):Prop:=match it with
 |.lst us=>vs=us
 |.tup us=>vs=us
 |.str x=>vs=signsOf x
 |.rng a b=>(0≤a∧a<2^62 ∧ -(2^62)<b∧b<2^62)∧vs=rangeOf a b
 |_=>False
noncomputable def srcC (it:V)(vs:List V):Prop:=match it with
 |.lst us=>vs=us
 |.str x=>x.cps.all (·<128)=true∧vs=signsOf x
 |.rng a b=>(a=0 ∧ -(2^62)<b∧b<2^62)∧vs=rangeOf 0 b
 |_=>False
end NN
end
section
open PySem PySem.W PySem.Calls PyProof.Rows
namespace NN
noncomputable def bval:BI→Value
 |.len=>.builtin "len" | .ord=>.builtin "ord" | .chr=>.builtin "chr" | .abs=>.builtin "abs" | .int=>.type "int" | .min=>.builtin "min"
 |.max=>.builtin "max" | .range=>.type "range" | .str=>.type "str" | .tuple=>.type "tuple" | .sorted=>.builtin "sorted"
structure TbOK (w:World)(K:Frag)(T:Tb):Prop where
 gl:∀ x v,lk T.gl (enc x)=some v→notDebug x∧∃ a,nsIn K mainGlobals x=some (some a)∧VR [] v a
 bi:∀ x b,lk T.bi (enc x)=some b→notDebug x∧nsIn K mainGlobals x=some none∧bootBuiltins x=some (bval b)∧x ≠ "__name__"
 fld:∀ C x i,lk (T.fld C) (enc x)=some i→FieldIn K C x∧SetIn K C x∧(T.nsl C)[i]?=some x
 nsl:∀ C,(T.nsl C).Nodup∧(T.nsl C).length≤900
 cla:∀ C x v,lk (T.fld C) (enc x)=none→lk (T.cla C) (enc x)=some v→x∉T.nsl C∧∃ a,ClsAttr K C x a∧VR [] v a
 meth:∀ C x f,lk (T.meth C) (enc x)=some f→MethIn K C x f∧x∉T.nsl C
 stat:∀ C x f,lk (T.stat C) (enc x)=some f→StatIn K C x f
 lm:∀ x b,lk T.lm (enc x)=some b→match b with
  |.append=>BiMeth "list" x "list.append" | .pop=>BiMeth "list" x "list.pop" | .reverse=>BiMeth "list" x "list.reverse"
  |.join=>BiMeth "str" x "str.join" | .index=>BiMeth "str" x "str.index"
 gd:∀ g ks vs,lk T.gd g=some (ks,vs)→GDct w K g ks vs
 kp:∀ a,lk T.kp a=some ()→keepIn K (.ref a)=true
structure CxOK (fn:FnS)(c:Cx):Prop where
 ns:encN fn.sc.names=c.ns
 nd:(fn.sc.names.map (·.1)).Nodup
 n0:∀ p∈fn.sc.names,enc p.1≠0
 dbg:∀ p∈fn.sc.names,notDebug p.1
 kind:fn.sc.kind=.function
 comp:fn.comp=c.comp
 cl:fn.cl.map (fun p=>(enc p.1,p.2))=c.cl
 cl0:∀ p∈fn.cl,enc p.1≠0
 T:TbOK c.w c.K c.T
theorem cnd {b:Bool}{p:Prop}(h:bif b then p else False):b=true∧p:=by
 cases b with
 |true=>exact ⟨rfl,h⟩
 |false=>exact h.elim
theorem lk_use {x:PySem.Str}{a:Addr}{cl:List (PySem.Str×Addr)}(h0:∀ p∈cl,enc p.1≠0)(h:lk (cl.map fun p=>(enc p.1,p.2)) (enc x)=some a):cl.lookup x=some a:=(lk_eq h0).symm.trans h
theorem kindE_eq {x:PySem.Str}{ns:Nms}(h0:∀ p∈ns,enc p.1≠0):kindE (encN ns) (enc x)=ns.lookup x:=lk_eq h0
theorem closE_eq {cl:List (PySem.Str×Addr)}(hc:∀ p∈cl,enc p.1≠0){ns:Nms}:∀ {acc:List (PySem.Str×Addr)} {r:List (Nat×Addr)},closE (encN ns) (cl.map fun p=>(enc p.1,p.2)) (acc.map fun p=>(enc p.1,p.2))=some r →
  ∃ clC,closL ns cl acc=some clC∧clC.map (fun p=>(enc p.1,p.2))=r∧∀ p∈clC,p∈acc∨∃ k,(p.1,k)∈ns:=by
 induction ns with
 |nil=>intro acc r h;cases h;exact ⟨acc,rfl,rfl,fun p hp=>.inl hp⟩
 |cons q ns ih =>
  intro acc r h
  obtain ⟨n,k⟩:=q
  replace h:(if k == .free then match lk (cl.map fun p=>(enc p.1,p.2)) (enc n) with | some a=>closE (encN ns) (cl.map fun p=>(enc p.1,p.2)) ((enc n,a)::acc.map fun p=>(enc p.1,p.2)) | none=>none
   else closE (encN ns) (cl.map fun p=>(enc p.1,p.2)) (acc.map fun p=>(enc p.1,p.2)))=some r:=h
  show ∃ clC,(if k == .free then match cl.lookup n with | some a=>closL ns cl ((n,a)::acc) | none=>none else closL ns cl acc)=some clC∧_
  by_cases hk:(k == .free)=true
  ·rw [if_pos hk] at h ⊢
   rw [lk_eq hc] at h
   cases hl:cl.lookup n with
   |none=>rw [hl] at h;cases h
   |some a =>
    rw [hl] at h
    refine xEAoAoo (ih (acc:=(n,a)::acc) h) fun clC h1 h2 h3=>?_
    refine ⟨clC,h1,h2,fun p hp=>?_⟩
    rcases h3 p hp with h | ⟨k',h⟩
    ·rcases List.mem_cons.mp h with e | h
     ·exact .inr ⟨k,by rw [e];exact .head _⟩
     ·exact .inl h
    ·exact .inr ⟨k',.tail _ h⟩
  ·rw [if_neg hk] at h ⊢
   refine xEAoAoo (ih h) fun clC h1 h2 h3=>?_
   exact ⟨clC,h1,h2,fun p hp=>(h3 p hp).imp id fun ⟨k',q⟩=>⟨k',.tail _ q⟩⟩
theorem relS_enc {scope sc:Scope}(h0:∀ p∈sc.names,enc p.1≠0)(hk:sc.kind=.function):encN (relS scope sc).names=relE (encN scope.names) (encN sc.names):=by
 unfold relS relE encN
 rw [List.map_map,List.map_map]
 refine List.map_congr_left fun p hp=>?_
 obtain ⟨n,k⟩:=p
 simp only [Function.comp_apply,hk]
 rw [show kindE (sc.names.map fun p=>(enc p.1,p.2)) (enc n)=sc.names.lookup n from kindE_eq h0]
 simp only [beq_self_eq_true,Bool.and_true]
 split<;>rfl
theorem mC_enc {x:PySem.Str}{v:V}{ns:Nms}(h0:∀ p∈ns,enc p.1≠0):((encN ns).map fun p=>bif Nat.beq p.1 (enc x) then some v else none)=mC x v ns:=by
 unfold encN mC
 rw [List.map_map]
 refine List.map_congr_left fun p hp=>?_
 show (bif Nat.beq (enc p.1) (enc x) then some v else none)=_
 rw [beq_enc (h0 p hp)]
 by_cases e:p.1=x
 ·rw [if_pos e,e,beq_self_eq_true];rfl
 ·rw [if_neg e,beq_eq_false_iff_ne.mpr fun q=>e q.symm];rfl
theorem mC_rel {x:PySem.Str}{v:V}{scope sc:Scope}:mC x v (relS scope sc).names=mC x v scope.names:=by
 unfold mC relS
 rw [List.map_map]
 refine List.map_congr_left fun p hp=>?_
 obtain ⟨n,k⟩:=p
 simp only [Function.comp_apply]
 split<;>rfl
end NN
end
section
open PySem PySem.W PySem.Calls PyProof.Rows
namespace NN
variable {fn:FnS}{c:Cx}{m:Mp}{σ:St}
theorem bcV_ok {b:BI}{vs:List V}{w:World}{Q:V→St→Prop}(h:bcV b vs σ Q):BC w (bval b) vs σ Q:=by
 cases b with
 |len=>exact one_use (P:=fun vs=>BC w (bval .len) vs σ Q) h fun v h=>V.sel_use (P:=fun v=>BC w (bval .len) [v] σ Q) h (fun _ h=>h.elim) (fun _ h=>bc_len_str h.1.out h.2) (fun _ h=>let ⟨_,h1,h2,h3⟩:=h;bc_len_own h1.out h2.out h3) (fun _ h=>bc_len_lst h.1.out h.2) fun _ h=>bc_len_tup h.1.out h.2
 |ord=>exact onS_use (P:=fun vs=>BC w (bval .ord) vs σ Q) h fun x h=>let ⟨_,e,h⟩:=h;e.out▸bc_ord h
 |chr=>exact onI_use (P:=fun vs=>BC w (bval .chr) vs σ Q) h fun x h=>bc_chr h.1.out.1 h.1.out.2 h.2
 |abs=>exact onI_use (P:=fun vs=>BC w (bval .abs) vs σ Q) h fun x h=>let ⟨_,e,h⟩:=h;bc_abs (e.out▸h)
 |int =>
  have k:∀ {vs:List V},(two vs fun u v=>u.asS fun x=>v.asI fun b=>∃ c v,Lf (x=⟨#[c]⟩∧b=16∧hexv c=some v)∧Q (.int (v:Nat)) σ)→BC w (bval .int) vs σ Q:=fun {vs} h =>
   two_use (P:=fun vs=>BC w (bval .int) vs σ Q) h fun u v h=>V.asS_use (P:=fun u=>BC w (bval .int) [u,v] σ Q) h fun x h=>V.asI_use (P:=fun v=>BC w (bval .int) [.str x,v] σ Q) h fun b h=>by
    refine xEEAoo h fun c v h1 h2=>?_
    refine xAoAoo h1.out fun e1 e2 hv=>?_
    subst e1;subst e2
    exact bc_int16 hv h2
  rcases vs with _ | ⟨v,_ | ⟨u,r⟩⟩
  ·exact k h
  ·exact V.asI_use (P:=fun v=>BC w (bval .int) [v] σ Q) h fun x h=>bc_int h
  ·exact k h
 |min=>exact twI_use (P:=fun vs=>BC w (bval .min) vs σ Q) h fun x y h=>let ⟨_,e,h⟩:=h;bc_min (e.out▸h)
 |max=>exact twI_use (P:=fun vs=>BC w (bval .max) vs σ Q) h fun x y h=>let ⟨_,e,h⟩:=h;bc_max (e.out▸h)
 |range =>
  have k:∀ {vs:List V},(twI vs fun a b=>Q (.rng a b) σ)→BC w (bval .range) vs σ Q:=fun h=>twI_use (P:=fun vs=>BC w (bval .range) vs σ Q) h fun x y h=>bc_range2 h
  rcases vs with _ | ⟨v,_ | ⟨u,r⟩⟩
  ·exact k h
  ·exact V.asI_use (P:=fun v=>BC w (bval .range) [v] σ Q) h fun x h=>bc_range1 h
  ·exact k h
 |str=>exact onI_use (P:=fun vs=>BC w (bval .str) vs σ Q) h fun x h=>let ⟨h1,_,e,h⟩:=h;bc_str h1.out (e.out▸h)
 |tuple=>exact one_use (P:=fun vs=>BC w (bval .tuple) vs σ Q) h fun v h=>V.sel_use (P:=fun v=>BC w (bval .tuple) [v] σ Q) h (fun _ h=>h.elim) (fun _ h=>h.elim) (fun _ h=>let ⟨_,h1,h2,h3⟩:=h;bc_tuple (.inr ⟨_,rfl,h1.out⟩) h2.out h3) (fun _ h=>bc_tuple (.inl rfl) h.1.out h.2) fun _ h=>h.elim
 |sorted=>exact onO_use (P:=fun vs=>BC w (bval .sorted) vs σ Q) h fun a h=>let ⟨_,h1,h2,h3⟩:=h;bc_sorted h1.out h2.out.1 h2.out.2 h3
noncomputable def lmid:LM→String
 |.append => "list.append" | .pop => "list.pop" | .reverse => "list.reverse" | .join => "str.join" | .index => "str.index"
theorem lmV_ok {b:LM}{ov:V}{vs:List V}{w:World}{Q:V→St→Prop}(h:lmV b ov vs σ Q):BC w (.builtin (lmid b)) (ov::vs) σ Q:=by
 cases b with
 |append=>exact V.asO_use (P:=fun ov=>BC w (.builtin "list.append") (ov::vs) σ Q) h fun a h=>one_use (P:=fun vs=>BC w (.builtin "list.append") (.own a::vs) σ Q) h fun v h=>let ⟨_,_,h1,h2,h3⟩:=h;bc_append h1.out h2.out h3
 |pop=>exact V.asO_use (P:=fun ov=>BC w (.builtin "list.pop") (ov::vs) σ Q) h fun a h=>nil0_use (P:=fun vs=>BC w (.builtin "list.pop") (.own a::vs) σ Q) h fun h=>let ⟨_,_,_,h1,h2,h3⟩:=h;bc_pop h1.out h2.out h3
 |reverse=>exact V.asO_use (P:=fun ov=>BC w (.builtin "list.reverse") (ov::vs) σ Q) h fun a h=>nil0_use (P:=fun vs=>BC w (.builtin "list.reverse") (.own a::vs) σ Q) h fun h=>let ⟨_,_,h1,h2,h3⟩:=h;bc_reverse h1.out h2.out h3
 |join=>exact V.asS_use (P:=fun ov=>BC w (.builtin "str.join") (ov::vs) σ Q) h fun a h=>one_use (P:=fun vs=>BC w (.builtin "str.join") (.str a::vs) σ Q) h fun v h=>V.sel_use (P:=fun v=>BC w (.builtin "str.join") [.str a,v] σ Q) h (fun _ h=>h.elim) (fun _ h=>h.elim) (fun _ h=>let ⟨_,h1,h2,_,e,h3⟩:=h;bc_join (.inr ⟨_,rfl,h1.out⟩) h2.out (e.out▸h3)) (fun _ h=>let ⟨_,e1,h2,_,e,h3⟩:=h;bc_join (.inl (congrArg V.lst e1.out)) h2.out (e.out▸h3)) fun _ h=>h.elim
 |index=>exact V.asS_use (P:=fun ov=>BC w (.builtin "str.index") (ov::vs) σ Q) h fun a h=>onS_use (P:=fun vs=>BC w (.builtin "str.index") (.str a::vs) σ Q) h fun x h=>let ⟨_,_,h2,h3⟩:=h;bc_index h2.out h3
theorem apS_eq {x y:PySem.Str}:apS x y=x++y:=by
 show _=PySem.Str.append x y
 unfold apS PySem.Str.append
 congr 1
 simp
theorem binV_ok {op:Operator}{a b:V}{w:World}{K:Frag}{Q:V→Prop}(h:binV op a b Q):∃ v,OP2 w K σ (binaryOp op) a b v∧Q v:=by
 have key:∀ {f:Int→Int→Prop},abI a b f→(∀ x y,f x y→∃ v,OP2 w K σ (binaryOp op) (.int x) (.int y) v∧Q v)→∃ v,OP2 w K σ (binaryOp op) a b v∧Q v:=fun h k=>abI_use (P:=fun a b=>∃ v,OP2 w K σ (binaryOp op) a b v∧Q v) h k
 cases op with
 |Add=>exact V.sel_use (P:=fun a=>∃ v,OP2 w K σ (binaryOp .Add) a b v∧Q v) h (fun x h=>V.asI_use (P:=fun b=>∃ v,OP2 w K σ (binaryOp .Add) (.int x) b v∧Q v) h fun y h=>⟨_,op_add,h⟩) (fun x h=>V.asS_use (P:=fun b=>∃ v,OP2 w K σ (binaryOp .Add) (.str x) b v∧Q v) h fun y h=>⟨_,op_adds h.1.out,apS_eq▸h.2⟩) (fun _ h=>h.elim) (fun _ h=>h.elim) fun _ h=>h.elim
 |Sub=>exact key h fun x y h=>⟨_,op_sub,h⟩
 |Mult=>exact key h fun x y h=>⟨_,op_mul h.1.out,h.2⟩
 |Mod=>exact key h fun x y h=>let ⟨h1,_,e,h2⟩:=h;⟨_,op_mod h1.out,e.out▸h2⟩
 |FloorDiv=>exact key h fun x y h=>let ⟨h1,_,e,h2⟩:=h;⟨_,op_div h1.out.1 h1.out.2,e.out▸h2⟩
 |Pow=>exact key h fun x y h=>let ⟨h1,_,e,h2⟩:=h;⟨_,op_pow h1.out.1 h1.out.2,e.out▸h2⟩
 |_=>exact h.elim
theorem raw_of {a:V}(h:notRaw a=true):∀ u,a≠.raw u:=by rintro u rfl;cases h
theorem cmpV_ok {op:CmpOp}{a b:V}{Q:Bool→Prop}(T:TbOK c.w c.K c.T)(h:cmpV c op a b σ Q):∃ t,OP2 c.w c.K σ (compareOp op) a b (.bool t)∧Q t:=by
 have key:∀ {f:Int→Int→Prop},abI a b f→(∀ x y,f x y→∃ t,OP2 c.w c.K σ (compareOp op) (.int x) (.int y) (.bool t)∧Q t)→∃ t,OP2 c.w c.K σ (compareOp op) a b (.bool t)∧Q t:=fun h k=>abI_use (P:=fun a b=>∃ t,OP2 c.w c.K σ (compareOp op) a b (.bool t)∧Q t) h k
 cases op with
 |Eq=>exact eqT_use (P:=fun a b=>∃ t,OP2 c.w c.K σ (compareOp .Eq) a b (.bool t)∧Q t) h (fun _ _ h=>⟨_,op_eq,h⟩) (fun _ _ h=>⟨_,op_eqs,h⟩) fun ⟨da,db,h1,h⟩=>⟨_,op_eqd h1.out.1 h1.out.2.1 h1.out.2.2.1 h1.out.2.2.2,h⟩
 |NotEq=>exact eqT_use (P:=fun a b=>∃ t,OP2 c.w c.K σ (compareOp .NotEq) a b (.bool t)∧Q t) h (fun _ _ h=>⟨_,op_ne,h⟩) (fun _ _ h=>⟨_,op_nes,h⟩) fun ⟨da,db,h1,h⟩=>⟨_,op_ned h1.out.1 h1.out.2.1 h1.out.2.2.1 h1.out.2.2.2,h⟩
 |Lt=>exact key h fun x y h=>⟨_,op_lt,h⟩
 |LtE=>exact key h fun x y h=>⟨_,op_le,h⟩
 |Gt=>exact key h fun x y h=>⟨_,op_gt,h⟩
 |GtE=>exact key h fun x y h=>⟨_,op_ge,h⟩
 |In =>
  refine V.asS_use (P:=fun a=>∃ t,OP2 c.w c.K σ (compareOp .In) a b (.bool t)∧Q t) h fun x h=>?_
  clear key
  cases b with
  |str y=>exact ⟨_,op_ins,h⟩
  |glob g=>exact optP_use h (fun p e h=>⟨_,op_ing (T.gd _ _ _ e),h⟩) fun _ h=>h.elim
  |_=>exact h.elim
 |NotIn =>
  refine V.asS_use (P:=fun a=>∃ t,OP2 c.w c.K σ (compareOp .NotIn) a b (.bool t)∧Q t) h fun x h=>?_
  clear key
  cases b with
  |str y=>exact ⟨_,op_nins,h⟩
  |dct W ks vs=>exact ⟨_,h.1.out▸op_nind,h.2⟩
  |_=>exact h.elim
 |Is =>
  clear key
  cases b with
  |none=>exact ⟨_,op_is_none (raw_of (cnd h).1),(cnd h).2⟩
  |_=>exact h.elim
 |IsNot =>
  clear key
  cases b with
  |none=>exact ⟨_,op_isnot_none (raw_of (cnd h).1),(cnd h).2⟩
  |_=>exact h.elim
theorem truV_ok {v:V}{w:World}{Q:Bool→Prop}(h:truV v σ Q):∃ b,TRU w v b σ∧Q b:=by
 cases v with
 |bool b=>exact ⟨_,tru_bool,h⟩
 |int i=>exact ⟨_,tru_int,h⟩
 |none=>exact ⟨_,tru_none,h⟩
 |tup vs=>exact ⟨_,tru_tup h.1.out,h.2⟩
 |own a=>exact let ⟨vs,h1,h2,h3⟩:=h;⟨_,tru_own h1.out h2.out,h3⟩
 |_=>exact h.elim
theorem ev_subK {w:World}{K:Frag}{d:Nat}{o i:Expr}{pos:Pos}{Q:V→St→Prop}(h:EV w K fn d m o σ fun ov σ₁=>EV w K fn d m i σ₁ fun iv σ₂=>∃ v,GIK w K ov iv v σ₂∧Q v σ₂)
  (hs:∀ o' i',∃ ops,subscripted i false o' i'=operate ops (getItem o' i')):EV w K fn d m (.Subscript o i pos) σ Q:=by
 intro X z s QR E W k
 refine Subscript_ (h X z s _ E W ?_)
 intro ro ov σ₁ z₁ s₁ sub₁ W₁ vo sm₁ h₁
 refine h₁ X z₁ s₁ _ E W₁ ?_
 rintro ri iv σ₂ z₂ s₂ sub₂ W₂ vi sm₂ ⟨v,g,hq⟩
 refine xAEEAooo (g fn d X m z₂ s₂ ro ri W₂ (vo.mono sub₂) vi) fun T id hT hl g=>?_
 refine xEo (hs ro ri) fun ops hops=>?_
 exact tail_any hT hl (g _ E fun r tk hv=>k r v σ₂ z₂ _ (sub₁.trans sub₂) (W₂.tok tk) hv ((sm₁.trans sm₂).trans Sm.tok) hq) hops
theorem getI_ok {ov iv:V}{Q:V→Prop}(T:TbOK c.w c.K c.T)(h:getI c ov iv σ Q):∃ v,GIK c.w c.K ov iv v σ∧Q v:=by
 cases ov with
 |lst vs=>exact V.asI_use (P:=fun iv=>∃ v,GIK c.w c.K (.lst vs) iv v σ∧Q v) h fun k h=>let ⟨v,⟨i,h1,h2,h3⟩,h⟩:=h;⟨v,(gi_lst h1 h2 h3).k,h⟩
 |own a =>
  refine V.asI_use (P:=fun iv=>∃ v,GIK c.w c.K (.own a) iv v σ∧Q v) h fun k h=>?_
  refine xEEAoAoo h fun vs v hm hi hq=>?_
  rcases hi.out with ⟨i,h1,h2,h3⟩ | ⟨e1,us,e2,h3⟩
  ·exact ⟨v,(gi_own hm.out h1 h2 h3).k,hq⟩
  ·subst e1;subst e2;exact ⟨v,(gi_own_last hm.out h3).k,hq⟩
 |tup vs=>exact V.asI_use (P:=fun iv=>∃ v,GIK c.w c.K (.tup vs) iv v σ∧Q v) h fun k h=>let ⟨v,⟨⟨h1,h2⟩,j,h3,h4⟩,h⟩:=h;⟨v,(gi_tup h1 h2 h3 h4).k,h⟩
 |str x=>exact V.asI_use (P:=fun iv=>∃ v,GIK c.w c.K (.str x) iv v σ∧Q v) h fun k h=>let ⟨ch,⟨⟨h1,h2⟩,h3⟩,h⟩:=h;⟨_,(gi_str h1 h2 h3).k,h⟩
 |dct W ks vs=>exact V.asS_use (P:=fun iv=>∃ v,GIK c.w c.K (.dct W ks vs) iv v σ∧Q v) h fun x h=>let ⟨v,h1,h⟩:=h;⟨v,h1.out.1▸(gi_dct h1.out.2).k,h⟩
 |glob g=>exact V.asS_use (P:=fun iv=>∃ v,GIK c.w c.K (.glob g) iv v σ∧Q v) h fun x h=>optP_use h (fun p e h=>let ⟨v,h1,h⟩:=h;⟨v,gi_glob (T.gd _ _ _ e) h1.out,h⟩) fun _ h=>h.elim
 |_=>exact h.elim
theorem nthV_loc' {x:PySem.Str}{v:V}:∀ {ns:List PySem.Str} {vs:List V} {i:Nat},ns[i]?=some x→nthV vs i=some v→Loc ns vs x v
 |[],_,_,h,_=>by simp at h
 |_::_,[],_,_,h=>by cases h
 |y::ns,u::vs,0,h1,h2=>by simp at h1;subst h1;cases h2;exact .head
 |y::ns,u::vs,i+1,h1,h2=>.tail (nthV_loc' (by simpa using h1) h2)
theorem okV_bi {v:V}(h:okV v=true):∀ n,v≠.bi n:=by rintro n rfl;cases h
theorem okV_raw {v:V}(h:okV v=true):∀ n,v≠.raw n:=by rintro n rfl;cases h
theorem getA_ok {ov:V}{x:PySem.Str}{Q:V→Prop}(T:TbOK c.w c.K c.T)(h:getA c ov (enc x) σ Q):∃ v,GA c.w c.K σ ov x v∧Q v:=by
 cases ov with
 |inst C ns vs =>
  have e:=h.1.out
  subst e
  exact optP_use h.2 (fun i e h=>optP_use h (fun v e' h=>⟨v,ga_inst (nthV_loc' (T.fld _ _ _ e).2.2 e') (T.fld _ _ _ e).1 (okV_bi (cnd h).1) (okV_raw (cnd h).1),(cnd h).2⟩) fun _ h=>h.elim)
   fun e h=>optP_use h (fun v e' h=>let ⟨f1,a,f2,f3⟩:=T.cla _ _ _ e e';⟨v,ga_cls_inst f1 f2 f3 (okV_bi (cnd h).1) (okV_raw (cnd h).1),(cnd h).2⟩) fun _ h=>h.elim
 |own a =>
  exact let ⟨C,vs,hm,h⟩:=h;optP_use h (fun i e h=>optP_use h (fun v e' h=>⟨v,ga_own hm.out (nthV_loc' (T.fld _ _ _ e).2.2 e') (T.fld _ _ _ e).1 (okV_bi (cnd h).1) (okV_raw (cnd h).1),(cnd h).2⟩) fun _ h=>h.elim) fun _ h=>h.elim
 |_=>exact h.elim
theorem stV_use {x:PySem.Str}{v:V}:∀ {ns:List PySem.Str} {vs:List V} {i:Nat} {f:List V→Prop},ns[i]?=some x→stV vs i v f→∃ vs',Sto ns vs x v vs'∧f vs'
 |[],_,_,_,h,_=>by simp at h
 |y::ns,[],0,f,h,k=>by simp at h;subst h;exact ⟨_,.new,k⟩
 |y::ns,[],_+1,f,h,k=>k.elim
 |y::ns,u::vs,0,f,h,k=>by simp at h;subst h;exact ⟨_,.head,k⟩
 |y::ns,u::vs,i+1,f,h,k=>by
  refine xEAoo (stV_use (f:=fun vs'=>f (u::vs')) (by simpa using h) k) fun vs' h1 h2=>?_
  exact ⟨_,.tail h1,h2⟩
theorem ev_weak {w:World}{K:Frag}{d:Nat}{e:Expr}{Q:V→St→Prop}(h:EV w K fn d m e σ fun v σ'=>∃ v' σ'',Lf (Wk v σ' v' σ'')∧Q v' σ''):EV w K fn d m e σ Q :=
 ev_back (h.mono fun v σ ⟨v',σ'',a,b⟩=>⟨v',σ'',a.out,b⟩)
theorem srcV_ok {w:World}{it:V}{vs:List V}(h:srcV it vs):ITR w it vs:=by
 cases it with
 |lst us=>exact (show vs=us from h)▸itr_lst
 |tup us=>exact (show vs=us from h)▸itr_tup
 |str x=>exact (show vs=signsOf x from h)▸itr_str
 |rng a b=>refine xAAoAoAooo h fun h1 h2 h3 h4 er1=>?_;subst er1;exact itr_rng h1 h2 h3 h4
 |_=>exact h.elim
theorem srcC_ok {w:World}{it:V}{vs:List V}(h:srcC it vs):CSRC w it vs:=by
 cases it with
 |lst us=>exact (show vs=us from h)▸csrc_lst
 |str x=>exact h.2▸csrc_str h.1
 |rng a b=>refine xAAoAooo h fun er1 h3 h4 er2=>?_;subst er1;subst er2;exact csrc_rng h3 h4
 |_=>exact h.elim
theorem loop_of {w:World}{K:Frag}{d:Nat}{t:Expr}{body:List Stmt}{vs:List V}{Q:Fl→Mp→St→Prop}{I:Nat→Mp→St→Prop}
  (step:∀ i v m σ,vs[i]?=some v→I i m σ→AS w K fn d t v m σ fun m₁ σ₁=>EX w K fn d body m₁ σ₁ fun f m₂ σ₂=>(match f with
    |.next=>I (i+1) m₂ σ₂
    |.cont=>I (i+1) m₂ σ₂
    |.brk=>Q .next m₂ σ₂
    |.ret v=>Q (.ret v) m₂ σ₂)) (hend:∀ m σ,I vs.length m σ→Q .next m σ):∀ (us:List V) (i:Nat) (m:Mp) (σ:St),vs.drop i=us→i+us.length=vs.length→I i m σ→LOOP w K fn d t body us m σ Q
 |[],i,m,σ,hd,hl,h=>hend m σ (by rw [←hl];simpa using h)
 |u::us,i,m,σ,hd,hl,h=>by
  refine xAoo (drop_head hd) fun h1 h2=>?_
  show AS w K fn d t u m σ _
  intro X z s r QR E W hv k
  refine step i u m σ h1 h X z s r QR E W hv ?_
  intro m₁ σ₁ z₁ s₁ sub W₁ sm hx
  refine k m₁ σ₁ z₁ s₁ sub W₁ sm (hx.mono ?_)
  intro f m₂ σ₂ hf
  cases f with
  |next=>exact loop_of step hend us (i+1) m₂ σ₂ h2 (by simp only [List.length_cons] at hl;omega) hf
  |cont=>exact loop_of step hend us (i+1) m₂ σ₂ h2 (by simp only [List.length_cons] at hl;omega) hf
  |brk=>exact hf
  |ret v=>exact hf
theorem noSet_ok {e:Expr}(h:noSet e=true)(env:Env)(x:Value):foldedSetIterable e env x=pure x:=by
 cases e<;>first | rfl | cases h
end NN
end
section
open PySem PySem.W PySem.Calls PyProof.Rows
namespace NN
set_option genCtorIdx false in
inductive RX where
 |val (v:V) | loc (i:Nat) | cel (a:Addr)
 |attr (o:RX) (n:Nat) | item (o i:RX) | slc (o:RX) (lo hi:Option RX) | slcN (i:Nat) (lo hi:Option RX)
 |bin (op:Operator) (l r:RX) | cmp (op:CmpOp) (l r:RX) | cmp2 (o₁ o₂:CmpOp) (l r₁ r₂:RX)
 |and (a b:RX) | or (a b:RX) | not (a:RX) | neg (a:RX) | ite (t a b:RX)
 |list (es:List RX) | tup (es:List RX) | comp (elt:RX) (mask:List Bool) (iter:RX) | dict (k₁ k₂:PySem.Str) (a b:RX)
 |bi (b:BI) (as:List RX) | call (f:Addr) (as:List RX) | meth (o:RX) (n:Nat) (as:List RX)
inductive RT where
 |loc (i:Nat) | two (a b:RT)
set_option genCtorIdx false in
inductive RS where
 |ret (e:RX) | expr (e:RX) | asg (t:RT) (e:RX) | asgC (a:Addr) (e:RX) | asgL (i:Nat) (elt:RX) (mask:List Bool) (iter:RX)
 |sat (o:RX) (n:Nat) (e:RX) | sit (o i:RX) (e:RX) | ifs (t:RX) (a b:List RS) | whl (t:RX) (b:List RS) | fors (t:RT) (it:RX) (b:List RS) | tr (b:List RS) | bad
inductive Fi where
 |list | tup | bi (b:BI) | call (f:Addr) | obj (ov:V) (f:Addr) | lm (f:LM) (ov:V)
set_option genCtorIdx false in
inductive Fr where
 |bin1 (op:Operator) (r:RX) | bin2 (op:Operator) (a:V) | cmp1 (op:CmpOp) (r:RX) | cmp2 (op:CmpOp) (a:V)
 |ch1 (o₁ o₂:CmpOp) (r₁ r₂:RX) | ch2 (o₁ o₂:CmpOp) (a:V) (r₂:RX)
 |boolV | tru | notB | andB (b:RX) | orB (b:RX) | andV (b:RX) | orV (b:RX) | neg | iteE (a b:RX) | attr (n:Nat)
 |item1 (i:RX) | item2 (ov:V) | slcO (nm:Bool) (lo hi:Option RX) | slcL (nm:Bool) (ov:V) (hi:Option RX) | slcH (nm:Bool) (ov:V) (l:Option Int)
 |arg (todo:List RX) (done:List V) (f:Fi) | mth (n:Nat) (as:List RX) | dic1 (k₁ k₂:PySem.Str) (b:RX) | dic2 (k₁ k₂:PySem.Str) (a:V)
 |cmpI (elt:RX) (mask:List Bool) | cmpA (i:Nat) (elt:RX) (mask:List Bool)
 |ret | expr | asg (t:RT) | asgC (a:Addr) | sat1 (o:RX) (n:Nat) | sat2 (n:Nat) (v:V) | sit1 (o i:RX) | sit2 (i:RX) (v:V) | sit3 (v ov:V)
 |forI (t:RT) (b:List RS) | ifS (a b:List RS) | whT (b:List RS) | seq (r:List RS) | wh (I:Nat→Mp→St→Prop) (n:Nat) | frr (I:Nat→Mp→St→Prop) (i:Nat)
 |body (b:List RS) | tgt (t:RT) (v:V) | fin (Q:Fl→Mp→St→Prop) | finV (Q:V→St→Prop)
noncomputable def idxE:NmsE→Nat→Option (Nat×NameKind)
 |[],_=>none
 |(a,k)::r,n=>bif Nat.beq a n then some (0,k) else (idxE r n).map fun p=>(p.1+1,p.2)
noncomputable def guardO {α:Type}(b:Bool)(o:Option α):Option α:=bif b then o else none
noncomputable def maskE (ns:NmsE)(x:Nat):List Bool:=ns.map fun p=>Nat.beq p.1 x
noncomputable def cvAll (f:Expr→Option RX):List Expr→Option (List RX)
 |[]=>some []
 |e::es=>guardO (notStar e) ((f e).bind fun r=>(cvAll f es).bind fun rs=>some (r::rs))
noncomputable def cvO (f:Expr→Option RX):Option Expr→Option (Option RX)
 |none=>some none
 |some e=>(f e).bind fun r=>some (some r)
noncomputable def cvConst:Const→Option RX
 |.int i=>some (.val (.int i))
 |.str s=>some (.val (.str s))
 |.bool b=>some (.val (.bool b))
 |.none=>some (.val .none)
 |_=>none
noncomputable def cvName (c:Cx)(x:Nat):Option RX:=(idxE c.ns x).bind fun p=>match p.2 with
 |.local=>some (.loc p.1)
 |.globalImplicit=>(lk c.T.gl x).bind fun v=>some (.val v)
 |.cell=>(lk c.cl x).bind fun a=>some (.cel a)
 |_=>none
noncomputable def cvBool (f:Expr→Option RX)(op:BoolOp):List Expr→Option RX
 |[]=>none
 |[x]=>f x
 |x::y::r=>(f x).bind fun a=>(cvBool f op (y::r)).bind fun b=>match op with
  |.And=>some (.and a b)
  |.Or=>some (.or a b)
noncomputable def cvCmp (f:Expr→Option RX)(l:Expr)(ops:List CmpOp)(rs:List Expr):Option RX:=match ops,rs with
 |[op],[r]=>guardO (!behindInMarks op r) ((f l).bind fun a=>(f r).bind fun b=>some (.cmp op a b))
 |[op₁,op₂],[r₁,r₂]=>guardO (!behindInMarks op₂ r₂) ((f l).bind fun a=>(f r₁).bind fun b=>(f r₂).bind fun b'=>some (.cmp2 op₁ op₂ a b b'))
 |_,_=>none
noncomputable abbrev cxC (c:Cx)(scope:Scope)(cl:List (Nat×Addr)):Cx:={c with ns:=relE (encN scope.names) c.ns,cl:=cl,comp:=true}
noncomputable def cvComp (f:Cx→Expr→Option RX)(c:Cx)(elt:Expr)(gens:List Comprehension)(scope:Scope):Option (RX×List Bool×RX) :=
 (genO gens).bind fun g=>guardO (okC scope g.1 && noSet g.2) ((closE (encN scope.names) c.cl []).bind fun cl=>(f (cxC c scope cl) elt).bind fun e=>(f c g.2).bind fun it =>
  some (e,maskE (encN scope.names) (enc g.1),it))
noncomputable def cvDict (f:Expr→Option RX)(ks:List (Option Expr))(es:List Expr):Option RX:=match ks,es with
 |[k₁,k₂],[e₁,e₂]=>(keyO k₁).bind fun x₁=>(keyO k₂).bind fun x₂=>guardO (x₁ != x₂) ((f e₁).bind fun a=>(f e₂).bind fun b=>some (.dict x₁ x₂ a b))
 |_,_=>none
noncomputable def cvSub (f:Expr→Option RX)(c:Cx)(o i:Expr):Option RX:=match sliceO i with
 |some (lo,hi,none)=>(cvO f lo).bind fun lo=>(cvO f hi).bind fun hi=>(match nameO o with
  |some x=>(idxE c.ns (enc x)).bind fun p=>guardO (p.2 == .local) (some (.slcN p.1 lo hi))
  |none=>(f o).bind fun o=>some (.slc o lo hi))
 |some (_,_,some _)=>none
 |none=>(f o).bind fun o=>(f i).bind fun i=>some (.item o i)
noncomputable def cvCallN (f:Expr→Option RX)(c:Cx)(x:Nat)(args:List Expr):Option RX:=guardO (kindE c.ns x == some .globalImplicit) ((cvAll f args).bind fun as=>match lk c.T.bi x with
 |some b=>some (.bi b as)
 |none=>(lk c.T.gl x).bind fun g=>match g with
  |.glob a=>(lk c.T.kp a).bind fun _=>some (.call a as)
  |_=>none)
noncomputable def cvCall (f:Expr→Option RX)(c:Cx)(g:Expr)(args:List Expr)(kws:List Keyword)(pos:Pos):Option RX:=match kws with
 |[]=>(match g with
  |.Attribute o x apos=>guardO (okM o args apos pos) ((f o).bind fun o=>(cvAll f args).bind fun as=>some (.meth o (enc x) as))
  |.Name x _=>cvCallN f c (enc x) args
  |_=>none)
 |_::_=>none
noncomputable def cvE:Nat→Cx→Expr→Option RX
 |0,_,_=>none
 |n+1,c,e=>match e with
  |.Constant k _ _=>cvConst k
  |.Name x _=>cvName c (enc x)
  |.Attribute o x _=>guardO (okB o) ((cvE n c o).bind fun o=>some (.attr o (enc x)))
  |.Subscript o i _=>cvSub (cvE n c) c o i
  |.BinOp l op r _=>(cvE n c l).bind fun a=>(cvE n c r).bind fun b=>some (.bin op a b)
  |.Compare l ops rs _=>cvCmp (cvE n c) l ops rs
  |.BoolOp op vs _=>guardO (Nat.ble 2 vs.length) (cvBool (cvE n c) op vs)
  |.UnaryOp op x _=>(match op with
   |.USub=>(cvE n c x).bind fun a=>some (.neg a)
   |.Not=>(cvE n c x).bind fun a=>some (.not a)
   |_=>none)
  |.IfExp t a b _=>(cvE n c t).bind fun t=>(cvE n c a).bind fun a=>(cvE n c b).bind fun b=>some (.ite t a b)
  |.List es _=>(cvAll (cvE n c) es).bind fun es=>some (.list es)
  |.Tuple es _ _=>(cvAll (cvE n c) es).bind fun es=>some (.tup es)
  |.ListComp elt gens scope _=>(cvComp (cvE n) c elt gens scope).bind fun t=>some (.comp t.1 t.2.1 t.2.2)
  |.Dict ks es _=>cvDict (cvE n c) ks es
  |.Call f args kws pos=>cvCall (cvE n c) c f args kws pos
  |_=>none
noncomputable def cvT:Nat→Cx→Expr→Option RT
 |0,_,_=>none
 |n+1,c,e=>match e with
  |.Name x _=>guardO (!c.comp) ((idxE c.ns (enc x)).bind fun p=>guardO (p.2 == .local) (some (.loc p.1)))
  |.Tuple ts _ _=>(match ts with
   |[a,b]=>guardO (notStar a && notStar b) ((cvT n c a).bind fun a=>(cvT n c b).bind fun b=>some (.two a b))
   |_=>none)
  |_=>none
noncomputable def cvName1 (c:Cx)(x:PySem.Str)(p:Pos)(value:Expr):Option RS:=guardO (!c.comp) ((idxE c.ns (enc x)).bind fun q=>match compO value with
 |some (elt,gens,scope,lpos)=>guardO (q.2 == .local && Nat.beq p.line lpos.line && !(scope.names.any fun q=>q.1 == x && (q.2 == .local || q.2 == .cell))) ((cvComp (cvE 60) c elt gens scope).bind fun t=>some (.asgL q.1 t.1 t.2.1 t.2.2))
 |none=>guardO (noComp value) ((cvE 60 c value).bind fun e=>match q.2 with
  |.local=>some (.asg (.loc q.1) e)
  |.cell=>(lk c.cl (enc x)).bind fun a=>some (.asgC a e)
  |_=>none))
noncomputable def cvAsg (c:Cx)(t value:Expr):Option RS:=match t with
 |.Name x p=>cvName1 c x p value
 |.Attribute o x _=>guardO (noComp value) ((cvE 60 c value).bind fun e=>(cvE 60 c o).bind fun o=>some (.sat o (enc x) e))
 |.Subscript o i _=>guardO (noComp value) ((cvE 60 c value).bind fun e=>(cvE 60 c o).bind fun o=>(cvE 60 c i).bind fun i=>some (.sit o i e))
 |.Tuple ts k p=>(match ts with
  |[_,_]=>guardO (noComp value && !isTup value) ((cvE 60 c value).bind fun e=>(cvT 9 c (.Tuple ts k p)).bind fun t=>some (.asg t e))
  |_=>none)
 |_=>none
noncomputable def cvS:Nat→Cx→List Stmt→Option (List RS)
 |0,_,_=>none
 |n+1,c,b=>match b with
  |[]=>some []
  |s::rest=>(match s with
   |.Return e _=>(match e with
    |some e=>(cvE 60 c e).bind fun e=>some (.ret e)
    |none=>none)
   |.Expr e _=>guardO (isCall e) ((cvE 60 c e).bind fun e=>some (.expr e))
   |.Assign ts value _=>(match ts with
    |[t]=>cvAsg c t value
    |_=>none)
   |.If t a b _=>(cvE 60 c t).bind fun t=>(cvS n c a).bind fun a=>(cvS n c b).bind fun b=>some (.ifs t a b)
   |.While t b orelse _=>(match orelse with
    |[]=>(cvE 60 c t).bind fun t=>(cvS n c b).bind fun b=>some (.whl t b)
    |_::_=>none)
   |.For t it b orelse _=>(match orelse with
    |[]=>guardO (noSet it) ((cvT 9 c t).bind fun t=>(cvE 60 c it).bind fun it=>(cvS n c b).bind fun b=>some (.fors t it b))
    |_::_=>none)
   |.Try b hs orelse fin _=>(match hs,orelse,fin with
    |_::_,[],[]=>(cvS n c b).bind fun b=>some (.tr b)
    |_,_,_=>none)
   |.Raise _ _ _=>some .bad
   |_=>none:Option RS).bind fun s=>(cvS n c rest).bind fun rest=>some (s::rest)
end NN
end
section
open PySem PySem.W PySem.Calls PyProof.Rows
namespace NN
structure Mc where
 E:RX→List Fr→Mp→St→Prop
 T:RX→List Fr→Mp→St→Prop
 A:RT→V→List Fr→Mp→St→Prop
 L:List RX→List V→Fi→List Fr→Mp→St→Prop
 V:List Fr→V→Mp→St→Prop
 B:List Fr→Bool→Mp→St→Prop
 S:List RS→List Fr→Mp→St→Prop
 F:List Fr→Fl→Mp→St→Prop
noncomputable def nthO:Mp→Nat→Option V
 |o::_,0=>o
 |_::m,n+1=>nthO m n
 |[],_=>none
noncomputable def setM:Mp→Nat→V→(Mp→Prop)→Prop
 |_::m,0,v,f=>f (some v::m)
 |o::m,n+1,v,f=>setM m n v fun m'=>f (o::m')
 |[],_,_,_=>False
noncomputable def stepE (M:Mc)(e:RX)(K:List Fr)(m:Mp)(σ:St):Prop:=match e with
 |.val v=>M.V K v m σ
 |.loc i=>(match nthO m i with | some v=>M.V K v m σ | none=>False)
 |.cel a=>∃ v,Lf ((a,Cell.cel (some v))∈σ)∧M.V K v m σ
 |.attr o n=>M.E o (.attr n::K) m σ
 |.item o i=>M.E o (.item1 i::K) m σ
 |.slc o lo hi=>M.E o (.slcO false lo hi::K) m σ
 |.slcN i lo hi=>(match nthO m i with | some v=>M.V (.slcO true lo hi::K) v m σ | none=>False)
 |.bin op l r=>M.E l (.bin1 op r::K) m σ
 |.cmp op l r=>M.E l (.cmp1 op r::.boolV::K) m σ
 |.cmp2 o₁ o₂ l r₁ r₂=>M.E l (.ch1 o₁ o₂ r₁ r₂::.boolV::K) m σ
 |.and a b=>M.E a (.andV b::K) m σ
 |.or a b=>M.E a (.orV b::K) m σ
 |.not _=>False
 |.neg a=>M.E a (.neg::K) m σ
 |.ite t a b=>M.T t (.iteE a b::K) m σ
 |.list es=>M.L es [] .list K m σ
 |.tup es=>M.L es [] .tup K m σ
 |.comp elt mask it=>M.E it (.cmpI elt mask::K) m σ
 |.dict k₁ k₂ a b=>M.E a (.dic1 k₁ k₂ b::K) m σ
 |.bi b as=>M.L as [] (.bi b) K m σ
 |.call f as=>M.L as [] (.call f) K m σ
 |.meth o n as=>M.E o (.mth n as::K) m σ
noncomputable def stepT (M:Mc)(e:RX)(K:List Fr)(m:Mp)(σ:St):Prop:=match e with
 |.not a=>M.T a (.notB::K) m σ
 |.and a b=>M.T a (.andB b::K) m σ
 |.or a b=>M.T a (.orB b::K) m σ
 |.cmp op l r=>M.E l (.cmp1 op r::K) m σ
 |.cmp2 o₁ o₂ l r₁ r₂=>M.E l (.ch1 o₁ o₂ r₁ r₂::K) m σ
 |.loc i=>M.E (.loc i) (.tru::K) m σ
 |.attr o n=>M.E (.attr o n) (.tru::K) m σ
 |.call f as=>M.E (.call f as) (.tru::K) m σ
 |.meth o n as=>M.E (.meth o n as) (.tru::K) m σ
 |.item o i=>M.E (.item o i) (.tru::K) m σ
 |_=>False
noncomputable def stepA (M:Mc)(t:RT)(v:V)(K:List Fr)(m:Mp)(σ:St):Prop:=match t with
 |.loc i=>setM m i v fun m'=>M.F K .next m' σ
 |.two a b=>(match v with
  |.tup vs=>(match vs with
   |[x,y]=>M.A a x (.tgt b y::K) m σ
   |_=>False)
  |_=>False)
noncomputable def finL (c:Cx)(f:Fi)(vs:List V)(σ:St)(Q:V→St→Prop):Prop:=match f with
 |.list=>bif Nat.ble vs.length 1000 then ∀ a,∃ v' σ'',Lf (Wk (.own a) ((a,.lst vs)::σ) v' σ'')∧Q v' σ'' else False
 |.tup=>bif Nat.ble vs.length 1000 then Q (.tup vs) σ else False
 |.bi b=>bcV b vs σ Q
 |.call f=>Lf (CALL c.w c.K c.d (.ref f) vs σ Q)
 |.obj ov f=>Lf (CALL c.w c.K c.d (.ref f) (ov::vs) σ Q)
 |.lm f ov=>lmV f ov vs σ Q
noncomputable def stepL (M:Mc)(c:Cx)(es:List RX)(done:List V)(f:Fi)(K:List Fr)(m:Mp)(σ:St):Prop:=match es with
 |[]=>finL c f done.reverse σ fun v σ'=>M.V K v m σ'
 |e::es=>M.E e (.arg es done f::K) m σ
noncomputable def sliceV (nm:Bool)(ov:V)(l u:Option Int)(Q:V→Prop):Prop:=match ov with
 |.str x=>∃ r,Lf (r=Txt.slice x l u)∧Q (.str r)
 |.lst vs=>bif nm then (match l,u with
  |some i,none=>Lf (i=1)∧Q (.lst (vs.drop 1))
  |none,some j=>Lf (0≤j)∧Q (.lst (vs.take j.toNat))
  |_,_=>False) else False
 |_=>False
noncomputable def sliceOk (nm:Bool)(ov:V):Prop:=match ov with
 |.str x=>Lf (x.length≤16777216)
 |.lst vs=>bif nm then Lf (vs.length≤1000000) else False
 |_=>False
noncomputable def slcHi (M:Mc)(nm:Bool)(hi:Option RX)(ov:V)(l:Option Int)(K:List Fr)(m:Mp)(σ:St):Prop:=match hi with
 |some e=>M.E e (.slcH nm ov l::K) m σ
 |none=>sliceV nm ov l none fun v=>M.V K v m σ
noncomputable def mthV (M:Mc)(c:Cx)(ov:V)(n:Nat)(as:List RX)(K:List Fr)(m:Mp)(σ:St):Prop:=match ov with
 |.inst C ns vs=>Lf (ns=c.T.nsl C)∧(match lk (c.T.meth C) n with | some f=>M.L as [] (.obj (.inst C ns vs) f) K m σ | none=>False)
 |.own a=>∃ cell,Lf ((a,cell)∈σ)∧(match cell with
  |.ins C ns vs=>Lf (ns=c.T.nsl C)∧(match lk (c.T.meth C) n with | some f=>M.L as [] (.obj (.own a) f) K m σ | none=>False)
  |.lst _=>(match lk c.T.lm n with | some f=>(match f with | .join=>False | .index=>False | f=>M.L as [] (.lm f (.own a)) K m σ) | none=>False)
  |.cel _=>False)
 |.glob C=>(match lk (c.T.stat C) n with | some f=>M.L as [] (.call f) K m σ | none=>False)
 |.str s=>(match lk c.T.lm n with | some f=>(match f with | .join=>M.L as [] (.lm .join (.str s)) K m σ | .index=>M.L as [] (.lm .index (.str s)) K m σ | _=>False) | none=>False)
 |_=>False
noncomputable def cmpM (M:Mc)(it:V)(elt:RX)(mask:List Bool)(σ:St)(QE:List V→St→Addr→Prop):Prop :=
 ∃ vs,Lf (srcC it vs)∧Lf (vs.length≤16000000)∧∃ I:Nat→List V→St→Prop,Lf (I 0 [] σ) ∧
  (∀ i v ys σ,vs[i]?=some v→I i ys σ→M.E elt [.finV fun y σ'=>I (i+1) (ys++[y]) σ'] (mask.map fun b=>bif b then some v else none) σ) ∧
  ∀ ys σ a,I vs.length ys σ→QE ys σ a
noncomputable def satV (M:Mc)(c:Cx)(n:Nat)(v ov:V)(K:List Fr)(m:Mp)(σ:St):Prop:=match ov with
 |.own a=>∃ C vs,Lf ((a,Cell.ins C (c.T.nsl C) vs)∈σ)∧(match lk (c.T.fld C) n with
  |some i=>stV vs i v fun vs'=>∃ σ₃,Lf (Upc a (.ins C (c.T.nsl C) vs) (.ins C (c.T.nsl C) vs') σ σ₃)∧M.F K .next m σ₃
  |none=>False)
 |_=>False
noncomputable def sitV (M:Mc)(v ov iv:V)(K:List Fr)(m:Mp)(σ:St):Prop:=match ov with
 |.own a=>(match iv with
  |.int k=>∃ vs j σ₄,Lf (seqIndex? k vs.length=some j∧j<vs.length ∧ -(2^62)<k∧k<2^62)∧Lf (Upc a (.lst vs) (.lst (vs.set j v)) σ σ₄)∧M.F K .next m σ₄
  |_=>False)
 |_=>False
noncomputable def frV (M:Mc)(c:Cx)(f:Fr)(K:List Fr)(v:V)(m:Mp)(σ:St):Prop:=match f with
 |.bin1 op r=>M.E r (.bin2 op v::K) m σ
 |.bin2 op a=>binV op a v fun r=>M.V K r m σ
 |.cmp1 op r=>M.E r (.cmp2 op v::K) m σ
 |.cmp2 op a=>cmpV c op a v σ fun t=>M.B K t m σ
 |.ch1 o₁ o₂ r₁ r₂=>M.E r₁ (.ch2 o₁ o₂ v r₂::K) m σ
 |.ch2 o₁ o₂ a r₂=>cmpV c o₁ a v σ fun t=>(t=true→M.E r₂ (.cmp2 o₂ v::K) m σ)∧(t=false→M.B K false m σ)
 |.tru=>truV v σ fun b=>M.B K b m σ
 |.andV b=>truV v σ fun t=>(t=true→M.E b K m σ)∧(t=false→M.V K v m σ)
 |.orV b=>truV v σ fun t=>(t=true→M.V K v m σ)∧(t=false→M.E b K m σ)
 |.neg=>(match v with | .int i=>M.V K (.int (-i)) m σ | _=>False)
 |.attr n=>getA c v n σ fun r=>M.V K r m σ
 |.item1 i=>M.E i (.item2 v::K) m σ
 |.item2 ov=>getI c ov v σ fun r=>M.V K r m σ
 |.slcO nm lo hi=>sliceOk nm v∧(match lo with
  |some e=>M.E e (.slcL nm v hi::K) m σ
  |none=>slcHi M nm hi v none K m σ)
 |.slcL nm ov hi=>(match v with | .int i=>slcHi M nm hi ov (some i) K m σ | _=>False)
 |.slcH nm ov l=>(match v with | .int j=>sliceV nm ov l (some j) fun r=>M.V K r m σ | _=>False)
 |.arg es done f=>M.L es (v::done) f K m σ
 |.mth n as=>mthV M c v n as K m σ
 |.dic1 k₁ k₂ b=>M.E b (.dic2 k₁ k₂ v::K) m σ
 |.dic2 k₁ k₂ a=>M.V K (.dct c.w [k₁,k₂] [a,v]) m σ
 |.cmpI elt mask=>cmpM M v elt mask σ fun ys σ' a=>∃ v' σ'',Lf (Wk (.own a) ((a,.lst ys)::σ') v' σ'')∧M.V K v' m σ''
 |.cmpA i elt mask=>cmpM M v elt mask σ fun ys σ' a=>setM m i (.own a) fun m₁=>M.F K .next m₁ ((a,.lst ys)::σ')
 |.ret=>M.F K (.ret v) m σ
 |.expr=>bif v.flat then M.F K .next m σ else False
 |.asg t=>M.A t v K m σ
 |.asgC a=>∃ u σ'',Lf (Upc a (.cel u) (.cel (some v)) σ σ'')∧M.F K .next m σ''
 |.sat1 o n=>M.E o (.sat2 n v::K) m σ
 |.sat2 n u=>satV M c n u v K m σ
 |.sit1 o i=>M.E o (.sit2 i v::K) m σ
 |.sit2 i u=>M.E i (.sit3 u v::K) m σ
 |.sit3 u ov=>sitV M u ov v K m σ
 |.forI t b=>∃ vs,Lf (srcV v vs)∧∃ I:Nat→Mp→St→Prop,Lf (I 0 m σ)∧(∀ i u m σ,vs[i]?=some u→I i m σ→M.A t u (.body b::.frr I i::K) m σ)∧∀ m σ,I vs.length m σ→M.F K .next m σ
 |.finV Q=>Q v σ
 |_=>False
noncomputable def stepV (M:Mc)(c:Cx)(K:List Fr)(v:V)(m:Mp)(σ:St):Prop:=match K with
 |f::K=>frV M c f K v m σ
 |[]=>False
noncomputable def stepB (M:Mc)(K:List Fr)(b:Bool)(m:Mp)(σ:St):Prop:=match K with
 |[]=>False
 |f::K=>(match f with
  |.boolV=>M.V K (.bool b) m σ
  |.notB=>M.B K (!b) m σ
  |.andB e=>(b=true→M.T e K m σ)∧(b=false→M.B K false m σ)
  |.orB e=>(b=true→M.B K true m σ)∧(b=false→M.T e K m σ)
  |.iteE x y=>(b=true→M.E x K m σ)∧(b=false→M.E y K m σ)
  |.ifS x y=>(b=true→M.S x K m σ)∧(b=false→M.S y K m σ)
  |.whT x=>(b=true→M.S x K m σ)∧(b=false→(match K with | _::K'=>M.F K' .next m σ | []=>False))
  |_=>False)
noncomputable def stepS (M:Mc)(b:List RS)(K:List Fr)(m:Mp)(σ:St):Prop:=match b with
 |[]=>M.F K .next m σ
 |s::rest=>(match s with
  |.ret e=>M.E e (.ret::.seq rest::K) m σ
  |.expr e=>M.E e (.expr::.seq rest::K) m σ
  |.asg t e=>M.E e (.asg t::.seq rest::K) m σ
  |.asgC a e=>M.E e (.asgC a::.seq rest::K) m σ
  |.asgL i elt mask it=>M.E it (.cmpA i elt mask::.seq rest::K) m σ
  |.sat o n e=>M.E e (.sat1 o n::.seq rest::K) m σ
  |.sit o i e=>M.E e (.sit1 o i::.seq rest::K) m σ
  |.ifs t x y=>M.T t (.ifS x y::.seq rest::K) m σ
  |.whl t x=>∃ (I:Nat→Mp→St→Prop) (n:Nat),Lf (I n m σ)∧∀ n m σ,I n m σ→M.T t (.whT x::.wh I n::.seq rest::K) m σ
  |.fors t it x=>M.E it (.forI t x::.seq rest::K) m σ
  |.tr x=>M.S x (.seq rest::K) m σ
  |.bad=>False)
noncomputable def stepF (M:Mc)(K:List Fr)(f:Fl)(m:Mp)(σ:St):Prop:=match K with
 |[]=>False
 |k::K=>(match k with
  |.seq rest=>(match f with | .next=>M.S rest K m σ | f=>M.F K f m σ)
  |.wh I n=>(match f with
   |.next=>∃ n',n'<n∧I n' m σ
   |.cont=>∃ n',n'<n∧I n' m σ
   |.brk=>M.F K .next m σ
   |.ret v=>M.F K (.ret v) m σ)
  |.frr I i=>(match f with
   |.next=>I (i+1) m σ
   |.cont=>I (i+1) m σ
   |.brk=>M.F K .next m σ
   |.ret v=>M.F K (.ret v) m σ)
  |.body b=>(match f with | .next=>M.S b K m σ | _=>False)
  |.tgt t v=>(match f with | .next=>M.A t v K m σ | _=>False)
  |.fin Q=>Q f m σ
  |_=>False)
noncomputable def mach (c:Cx):Nat→Mc
 |0=>⟨fun _ _ _ _=>False,fun _ _ _ _=>False,fun _ _ _ _ _=>False,fun _ _ _ _ _ _=>False,fun _ _ _ _=>False,fun _ _ _ _=>False,fun _ _ _ _=>False,fun _ _ _ _=>False⟩
 |n+1=>⟨stepE (mach c n),stepT (mach c n),stepA (mach c n),stepL (mach c n) c,stepV (mach c n) c,stepB (mach c n),stepS (mach c n),stepF (mach c n)⟩
end NN
end
section
open PySem PySem.W PySem.Calls PyProof.Rows
namespace NN
noncomputable abbrev nrm (c:Cx):Cx:=⟨c.w,c.K,c.T,c.d,[],[],false⟩
variable {fn:FnS}{c₀ c:Cx}{m:Mp}{σ:St}{n:Nat}{K:List Fr}
structure Gd (c₀:Cx)(n:Nat):Prop where
 E:∀ {fn c},CxOK fn c→nrm c=c₀→∀ {k e rx K m σ} {Q:V→St→Prop},cvE k c e=some rx→(mach c₀ n).E rx K m σ→(∀ v σ' j,j<n→(mach c₀ j).V K v m σ'→Q v σ')→EV c.w c.K fn c.d m e σ Q
 T:∀ {fn c},CxOK fn c→nrm c=c₀→∀ {k e rx K m σ} {Q:Bool→St→Prop},cvE k c e=some rx→(mach c₀ n).T rx K m σ→(∀ b σ' j,j<n→(mach c₀ j).B K b m σ'→Q b σ')→TS c.w c.K fn c.d m e σ Q
 A:∀ {fn c},CxOK fn c→nrm c=c₀→∀ {k t rt v K m σ} {Q:Mp→St→Prop},cvT k c t=some rt→(mach c₀ n).A rt v K m σ→(∀ m' σ' j,j<n→(mach c₀ j).F K .next m' σ'→Q m' σ')→AS c.w c.K fn c.d t v m σ Q
 L:∀ {fn c},CxOK fn c→nrm c=c₀→∀ {k es rs done f K m σ} {Q:List V→St→Prop},cvAll (cvE k c) es=some rs→(mach c₀ n).L rs done f K m σ→(∀ vs σ' j,j<n→finL c₀ f (done.reverse++vs) σ' (fun v σ''=>(mach c₀ j).V K v m σ'')→Q vs σ')→EVs c.w c.K fn c.d m es σ Q
 S:∀ {fn c},CxOK fn c→nrm c=c₀→∀ {k b rs K m σ} {Q:Fl→Mp→St→Prop},cvS k c b=some rs→(mach c₀ n).S rs K m σ→(∀ f m' σ' j,j<n→(mach c₀ j).F K f m' σ'→Q f m' σ')→EX c.w c.K fn c.d b m σ Q
section
variable (ih:∀ j,j≤n→Gd (nrm c) j)(C:CxOK fn c){j:Nat}(hj:j≤n){k:Nat}{f:Fr}
include ih C hj
theorem eK {e:Expr}{rx:RX}{Q:V→St→Prop}(hc:cvE k c e=some rx)(h:(mach (nrm c) j).E rx K m σ)(q:∀ v σ' i,i≤n→(mach (nrm c) i).V K v m σ'→Q v σ'):EV c.w c.K fn c.d m e σ Q :=
 (ih j hj).E C rfl hc h fun v σ' i hi h=>q v σ' i (Nat.le_trans (Nat.le_of_lt hi) hj) h
theorem eL {e:Expr}{rx:RX}{Q:V→St→Prop}(hc:cvE k c e=some rx)(h:(mach (nrm c) j).E rx (f::K) m σ)(q:∀ v σ' i,i≤n→frV (mach (nrm c) i) (nrm c) f K v m σ'→Q v σ'):EV c.w c.K fn c.d m e σ Q :=
 eK ih C hj hc h fun v σ' i hi h=>by
  cases i with
  |zero=>exact h.elim
  |succ i=>exact q v σ' i (Nat.le_of_succ_le hi) h
theorem tK {e:Expr}{rx:RX}{Q:Bool→St→Prop}(hc:cvE k c e=some rx)(h:(mach (nrm c) j).T rx K m σ)(q:∀ b σ' i,i≤n→(mach (nrm c) i).B K b m σ'→Q b σ'):TS c.w c.K fn c.d m e σ Q :=
 (ih j hj).T C rfl hc h fun v σ' i hi h=>q v σ' i (Nat.le_trans (Nat.le_of_lt hi) hj) h
theorem tL {e:Expr}{rx:RX}{Q:Bool→St→Prop}(hc:cvE k c e=some rx)(h:(mach (nrm c) j).T rx (f::K) m σ)(q:∀ b σ' i,i≤n→stepB (mach (nrm c) i) (f::K) b m σ'→Q b σ'):TS c.w c.K fn c.d m e σ Q :=
 tK ih C hj hc h fun v σ' i hi h=>by
  cases i with
  |zero=>exact h.elim
  |succ i=>exact q v σ' i (Nat.le_of_succ_le hi) h
theorem aK {t:Expr}{rt:RT}{v:V}{Q:Mp→St→Prop}(hc:cvT k c t=some rt)(h:(mach (nrm c) j).A rt v K m σ)(q:∀ m' σ' i,i≤n→(mach (nrm c) i).F K .next m' σ'→Q m' σ'):AS c.w c.K fn c.d t v m σ Q :=
 (ih j hj).A C rfl hc h fun v σ' i hi h=>q v σ' i (Nat.le_trans (Nat.le_of_lt hi) hj) h
theorem aL {t:Expr}{rt:RT}{v:V}{Q:Mp→St→Prop}(hc:cvT k c t=some rt)(h:(mach (nrm c) j).A rt v (f::K) m σ)(q:∀ m' σ' i,i≤n→stepF (mach (nrm c) i) (f::K) .next m' σ'→Q m' σ'):AS c.w c.K fn c.d t v m σ Q :=
 aK ih C hj hc h fun v σ' i hi h=>by
  cases i with
  |zero=>exact h.elim
  |succ i=>exact q v σ' i (Nat.le_of_succ_le hi) h
theorem lK {es:List Expr}{rs:List RX}{done:List V}{fi:Fi}{Q:List V→St→Prop}(hc:cvAll (cvE k c) es=some rs)(h:(mach (nrm c) j).L rs done fi K m σ)(q:∀ vs σ' i,i≤n→finL (nrm c) fi (done.reverse++vs) σ' (fun v σ''=>(mach (nrm c) i).V K v m σ'')→Q vs σ'):EVs c.w c.K fn c.d m es σ Q :=
 (ih j hj).L C rfl hc h fun v σ' i hi h=>q v σ' i (Nat.le_trans (Nat.le_of_lt hi) hj) h
theorem sK {b:List Stmt}{rs:List RS}{Q:Fl→Mp→St→Prop}(hc:cvS k c b=some rs)(h:(mach (nrm c) j).S rs K m σ)(q:∀ x m' σ' i,i≤n→(mach (nrm c) i).F K x m' σ'→Q x m' σ'):EX c.w c.K fn c.d b m σ Q :=
 (ih j hj).S C rfl hc h fun x m' σ' i hi h=>q x m' σ' i (Nat.le_trans (Nat.le_of_lt hi) hj) h
theorem sL {b:List Stmt}{rs:List RS}{Q:Fl→Mp→St→Prop}(hc:cvS k c b=some rs)(h:(mach (nrm c) j).S rs (f::K) m σ)(q:∀ x m' σ' i,i≤n→stepF (mach (nrm c) i) (f::K) x m' σ'→Q x m' σ'):EX c.w c.K fn c.d b m σ Q :=
 sK ih C hj hc h fun x m' σ' i hi h=>by
  cases i with
  |zero=>exact h.elim
  |succ i=>exact q x m' σ' i (Nat.le_of_succ_le hi) h
end
section
variable {α β γ δ:Type}{G:Prop}
theorem gO {b:Bool}{o:Option α}{x:α}(h:guardO b o=some x)(k:b=true→o=some x→G):G:=by
 cases b with
 |true=>exact k rfl h
 |false=>cases h
theorem bO {o:Option α}{f:α→Option β}{x:β}(h:o.bind f=some x)(k:∀ a,o=some a→f a=some x→G):G:=by
 cases o with
 |none=>cases h
 |some a=>exact k a rfl h
variable {P:δ→Prop}{x:δ}
theorem b0 {y:δ}(h:some y=some x)(p:P x)(k:P y→G):G:=by cases h;exact k p
theorem b1 {o:Option α}{F:α→δ}(h:(o.bind fun a=>some (F a))=some x)(p:P x)(k:∀ a,o=some a→P (F a)→G):G:=bO h fun a e h=>b0 h p (k a e)
theorem b2 {o:Option α}{o':Option β}{F:α→β→δ}(h:(o.bind fun a=>o'.bind fun b=>some (F a b))=some x)(p:P x)(k:∀ a b,o=some a→o'=some b→P (F a b)→G):G:=bO h fun a e h=>b1 h p fun b e' h=>k a b e e' h
theorem b3 {o:Option α}{o':Option β}{o₂:Option γ}{F:α→β→γ→δ}(h:(o.bind fun a=>o'.bind fun b=>o₂.bind fun d=>some (F a b d))=some x)(p:P x)(k:∀ a b d,o=some a→o'=some b→o₂=some d→P (F a b d)→G):G:=bO h fun a e h=>b2 h p fun b d e' e₂ h=>k a b d e e' e₂ h
variable {M:Mc}{rs:List RS}{x:RX}
theorem eB0 {y:RX}(h:some y=some x)(p:stepE M x K m σ)(k:stepE M y K m σ→G):G:=b0 (P:=fun x=>stepE M x K m σ) h p k
theorem eB1 {o:Option α}{F:α→RX}(h:(o.bind fun a=>some (F a))=some x)(p:stepE M x K m σ)(k:∀ a,o=some a→stepE M (F a) K m σ→G):G:=b1 (P:=fun x=>stepE M x K m σ) h p k
theorem eB2 {o:Option α}{o':Option β}{F:α→β→RX}(h:(o.bind fun a=>o'.bind fun b=>some (F a b))=some x)(p:stepE M x K m σ)(k:∀ a b,o=some a→o'=some b→stepE M (F a b) K m σ→G):G:=b2 (P:=fun x=>stepE M x K m σ) h p k
theorem eB3 {o:Option α}{o':Option β}{o₂:Option γ}{F:α→β→γ→RX}(h:(o.bind fun a=>o'.bind fun b=>o₂.bind fun d=>some (F a b d))=some x)(p:stepE M x K m σ)(k:∀ a b d,o=some a→o'=some b→o₂=some d→stepE M (F a b d) K m σ→G):G:=b3 (P:=fun x=>stepE M x K m σ) h p k
theorem tB1 {o:Option α}{F:α→RX}(h:(o.bind fun a=>some (F a))=some x)(p:stepT M x K m σ)(k:∀ a,o=some a→stepT M (F a) K m σ→G):G:=b1 (P:=fun x=>stepT M x K m σ) h p k
theorem tB2 {o:Option α}{o':Option β}{F:α→β→RX}(h:(o.bind fun a=>o'.bind fun b=>some (F a b))=some x)(p:stepT M x K m σ)(k:∀ a b,o=some a→o'=some b→stepT M (F a b) K m σ→G):G:=b2 (P:=fun x=>stepT M x K m σ) h p k
theorem tB3 {o:Option α}{o':Option β}{o₂:Option γ}{F:α→β→γ→RX}(h:(o.bind fun a=>o'.bind fun b=>o₂.bind fun d=>some (F a b d))=some x)(p:stepT M x K m σ)(k:∀ a b d,o=some a→o'=some b→o₂=some d→stepT M (F a b d) K m σ→G):G:=b3 (P:=fun x=>stepT M x K m σ) h p k
theorem sB1 {x:RS}{o:Option α}{F:α→RS}(h:(o.bind fun a=>some (F a))=some x)(p:stepS M (x::rs) K m σ)(k:∀ a,o=some a→stepS M ((F a)::rs) K m σ→G):G:=b1 (P:=fun x=>stepS M (x::rs) K m σ) h p k
theorem sB2 {x:RS}{o:Option α}{o':Option β}{F:α→β→RS}(h:(o.bind fun a=>o'.bind fun b=>some (F a b))=some x)(p:stepS M (x::rs) K m σ)(k:∀ a b,o=some a→o'=some b→stepS M ((F a b)::rs) K m σ→G):G:=b2 (P:=fun x=>stepS M (x::rs) K m σ) h p k
theorem sB3 {x:RS}{o:Option α}{o':Option β}{o₂:Option γ}{F:α→β→γ→RS}(h:(o.bind fun a=>o'.bind fun b=>o₂.bind fun d=>some (F a b d))=some x)(p:stepS M (x::rs) K m σ)(k:∀ a b d,o=some a→o'=some b→o₂=some d→stepS M ((F a b d)::rs) K m σ→G):G:=b3 (P:=fun x=>stepS M (x::rs) K m σ) h p k
end
theorem star_of {f:Expr→Option RX}:∀ {es:List Expr} {rs:List RX},cvAll f es=some rs→es.all notStar=true
 |[],_,_=>rfl
 |e::es,_,h=>by
  refine gO h fun h1 h=>?_
  refine bO h fun r _ h=>?_
  refine bO h fun rs h2 _=>?_
  rw [List.all_cons,h1,star_of h2];rfl
theorem idxE_has {x:PySem.Str}{k:NameKind}{ns:Nms}(h0:∀ p∈ns,enc p.1≠0):∀ {i:Nat},idxE (encN ns) (enc x)=some (i,k)→(x,k)∈ns∧(k=.local→∀ {m:Mp} {v:V},nthO m i=some v→Has ns m x v)∧(k=.local→∀ {m:Mp} {v:V} {f:Mp→Prop},setM m i v f→∃ m₁,Put ns m x v m₁∧f m₁):=by
 induction ns with
 |nil=>intro i h;cases h
 |cons p r ih =>
  intro i h
  obtain ⟨y,k'⟩:=p
  replace h:(bif Nat.beq (enc y) (enc x) then some (0,k') else (idxE (encN r) (enc x)).map fun p=>(p.1+1,p.2))=some (i,k):=h
  rw [beq_enc (h0 _ (.head _))] at h
  cases e:x == y with
  |true =>
   rw [e] at h
   have e2:=Prod.mk.inj (Option.some.inj h)
   rw [←eq_of_beq e,←e2.1,←e2.2]
   clear h e2 ih
   refine ⟨.head _,fun hk m v hn=>?_,fun hk m v f hs=>?_⟩
   ·subst hk
    cases m with
    |nil=>cases hn
    |cons o m=>rw [show o=some v from hn];exact .head
   ·subst hk
    cases m with
    |nil=>exact hs.elim
    |cons o m=>exact ⟨_,.head,hs⟩
  |false =>
   rw [e] at h
   refine xEAoo (Option.map_eq_some_iff.mp h) fun q hq e'=>?_
   obtain ⟨j,kk⟩:=q
   have e2:=Prod.mk.inj e'
   rw [show kk=k from e2.2] at hq
   rw [←e2.1]
   refine xAoAoo (ih (fun p hp=>h0 p (.tail _ hp)) hq) fun h1 h2 h3=>?_
   clear h ih
   refine ⟨.tail _ h1,fun hk m v hn=>?_,fun hk m v f hs=>?_⟩
   ·cases m with
    |nil=>cases hn
    |cons o m=>exact .tail (h2 hk hn)
   ·cases m with
    |nil=>exact hs.elim
    |cons o m=>exact let ⟨_,p1,p2⟩:=h3 hk hs;⟨_,.tail p1,p2⟩
end NN
end
section
open PySem PySem.W PySem.Calls PyProof.Rows
namespace NN
variable {fn:FnS}{c:Cx}{m:Mp}{σ:St}{n:Nat}{K:List Fr}
theorem nO {o:Option V}{f:V→Prop}{G:Prop}(h:match o with | some v=>f v | none=>False)(k:∀ v,o=some v→f v→G):G:=by
 cases o with
 |none=>exact h.elim
 |some v=>exact k v rfl h
theorem EVp.mono {w:World}{K:Frag}{d:Nat}{e:Option Expr}{Q Q':Option Int→St→Prop}(h:EVp w K fn d m e σ Q)(hq:∀ v σ,Q v σ→Q' v σ):EVp w K fn d m e σ Q':=by
 cases e with
 |none=>exact hq _ _ h
 |some e=>exact EV.mono h fun v σ ⟨i,a,b⟩=>⟨i,a,hq _ _ b⟩
theorem nameO_eq {o:Expr}{x:PySem.Str}(h:nameO o=some x):∃ p,o=.Name x p:=by
 have key:∀ {P:Expr→Prop},(∀ a b,P (.Name a b))→(∀ e,nameO e=none→P e)→P o:=by
  intro P k1 k2
  clear h
  cases o with
  |Name y p=>exact k1 _ _
  |_=>exact k2 _ rfl
 exact key (P:=fun o=>nameO o=some x→∃ p,o=.Name x p) (fun a b h=>⟨b,by rw [show a=x from Option.some.inj h]⟩) (fun e k h=>by rw [k] at h;cases h) h
theorem slice_cases {P:Expr→Prop}(e:Expr)(k1:∀ a b c p,P (.Slice a b c p))(k2:∀ e,sliceO e=none→(∀ o' i',∃ ops,subscripted e false o' i'=operate ops (getItem o' i'))→P e):P e:=by
 cases e with
 |Slice a b c p=>exact k1 _ _ _ _
 |_=>exact k2 _ rfl fun o' i'=>⟨[o',i'],rfl⟩
theorem sliceO_eq {i:Expr}{lo hi st:Option Expr}:sliceO i=some (lo,hi,st)→∃ p,i=.Slice lo hi st p :=
 slice_cases (P:=fun i=>sliceO i=some (lo,hi,st)→∃ p,i=.Slice lo hi st p) i (fun a b c p h=>⟨p,by cases h;rfl⟩) fun e k _ h=>by rw [k] at h;cases h
theorem subscripted_plain {i:Expr}:sliceO i=none→∀ (o' i':Value),∃ ops,subscripted i false o' i'=operate ops (getItem o' i') :=
 slice_cases (P:=fun i=>sliceO i=none→∀ (o' i':Value),∃ ops,subscripted i false o' i'=operate ops (getItem o' i')) i (fun a b c p h=>by cases h) fun e _ k _=>k
theorem genO_eq {gens:List Comprehension}{x:PySem.Str}{iter:Expr}(h:genO gens=some (x,iter)):∃ p,gens=[⟨.Name x p,iter,[],0⟩]:=by
 rcases gens with _ | ⟨⟨t,it,ifs,as⟩,_ | ⟨g,r⟩⟩
 ·cases h
 ·cases ifs with
  |cons a b=>cases h
  |nil =>
   by_cases ha:as=0
   ·subst ha
    cases hn:nameO t with
    |none=>unfold genO at h;dsimp only at h;rw [hn] at h;cases h
    |some y =>
     refine xEo (nameO_eq hn) fun p er1=>?_;subst er1
     cases h
     exact ⟨p,rfl⟩
   ·exfalso
    unfold genO at h
    dsimp only at h
    cases as with
    |ofNat n=>cases n with
     |zero=>exact ha rfl
     |succ n=>cases h
    |negSucc n=>cases h
 ·cases h
theorem strO_eq {k:Const}{x:PySem.Str}(h:strO k=some x):k=.str x:=by
 cases k with
 |str y=>cases h;rfl
 |_=>cases h
theorem keyE_eq {e:Expr}{x:PySem.Str}(h:keyE e=some x):∃ n p,e=.Constant (.str x) n p:=by
 have key:∀ {P:Expr→Prop},(∀ a b d,P (.Constant a b d))→(∀ e,keyE e=none→P e)→P e:=by
  intro P k1 k2
  clear h
  cases e with
  |Constant k n p=>exact k1 _ _ _
  |_=>exact k2 _ rfl
 exact key (P:=fun e=>keyE e=some x→∃ n p,e=.Constant (.str x) n p) (fun a b d h=>⟨b,d,by rw [strO_eq (k:=a) h]⟩) (fun e k h=>by rw [k] at h;cases h) h
theorem keyO_eq {k:Option Expr}{x:PySem.Str}(h:keyO k=some x):∃ n p,k=some (.Constant (.str x) n p):=by
 cases k with
 |none=>cases h
 |some e=>refine xEEo (keyE_eq (e:=e) h) fun n p er1=>?_;subst er1;exact ⟨n,p,rfl⟩
section E
variable (ih:∀ j,j≤n→Gd (nrm c) j)(C:CxOK fn c)
include ih C
theorem q_cmp {k:Nat}{l r:Expr}{l' r':RX}{op:CmpOp}{R:V→V→St→Prop}(hl:cvE k c l=some l')(hr:cvE k c r=some r')(h:(mach (nrm c) n).E l' (.cmp1 op r'::K) m σ)
  (q:∀ a b t σ₂ j,j≤n→OP2 c.w c.K σ₂ (compareOp op) a b (.bool t)→(mach (nrm c) j).B K t m σ₂→R a b σ₂):EV c.w c.K fn c.d m l σ fun a σ₁=>EV c.w c.K fn c.d m r σ₁ fun b σ₂=>R a b σ₂ :=
 eL ih C (Nat.le_refl _) hl h fun a σ₁ j hj h₁=>eL ih C hj hr h₁ fun b σ₂ i hi h₂=>let ⟨t,o,h₂⟩:=cmpV_ok (c:=nrm c) C.T h₂;q a b t σ₂ i hi o h₂
theorem q_chain {k:Nat}{l r₁ r₂:Expr}{l' r₁' r₂':RX}{o₁ o₂:CmpOp}{R:Bool→St→Prop}(hl:cvE k c l=some l')(hr₁:cvE k c r₁=some r₁')(hr₂:cvE k c r₂=some r₂')(h:(mach (nrm c) n).E l' (.ch1 o₁ o₂ r₁' r₂'::K) m σ)
  (q:∀ t σ₃ j,j≤n→(mach (nrm c) j).B K t m σ₃→R t σ₃) :
  EV c.w c.K fn c.d m l σ fun a σ₁=>EV c.w c.K fn c.d m r₁ σ₁ fun b σ₂=>∃ t,OP2 c.w c.K σ₂ (compareOp o₁) a b (.bool t) ∧
   (t=true→EV c.w c.K fn c.d m r₂ σ₂ fun b' σ₃=>∃ t',OP2 c.w c.K σ₃ (compareOp o₂) b b' (.bool t')∧R t' σ₃)∧(t=false→R false σ₂) :=
 eL ih C (Nat.le_refl _) hl h fun a σ₁ j hj h₁=>eL ih C hj hr₁ h₁ fun b σ₂ i hi h₂=>let ⟨t,o,h2,h3⟩:=cmpV_ok (c:=nrm c) C.T h₂
  ⟨t,o,fun e=>eL ih C hi hr₂ (h2 e) fun b' σ₃ p hp h₄=>let ⟨t',o',h₄⟩:=cmpV_ok (c:=nrm c) C.T h₄;⟨t',o',q t' σ₃ p hp h₄⟩,fun e=>q _ _ _ hi (h3 e)⟩
omit ih in
theorem q_name {x:PySem.Str}{p:Pos}{rx:RX}{Q:V→St→Prop}(hc:cvName c (enc x)=some rx)(h:stepE (mach (nrm c) n) rx K m σ)(q:∀ v σ j,j≤n→(mach (nrm c) j).V K v m σ→Q v σ):EV c.w c.K fn c.d m (.Name x p) σ Q:=by
 refine bO hc fun p h1 h2=>?_
 obtain ⟨i,k⟩:=p
 rw [←C.ns] at h1
 refine xAoAoo (idxE_has C.n0 h1) fun hm hh _=>?_
 cases k with
 |«local» =>
  refine eB0 h2 h fun h=>?_
  refine nO h fun v hv h=>?_
  exact ev_local C.nd rfl (hh rfl hv) (C.dbg _ hm) (q _ _ _ (Nat.le_refl _) h)
 |globalImplicit =>
  refine eB1 h2 h fun v e h=>?_
  refine xAoEAoo (C.T.gl _ _ e) fun h1 a h2 h3=>?_
  exact ev_global C.nd rfl hm h2 h3 h1 (q _ _ _ (Nat.le_refl _) h)
 |cell =>
  refine eB1 h2 h fun a e h=>?_
  rw [←C.cl] at e
  exact let ⟨v,⟨hv⟩,h⟩:=h;ev_cell C.nd hm (lk_use C.cl0 e) hv (C.dbg _ hm) (q _ _ _ (Nat.le_refl _) h)
 |_=>cases h2
theorem q_bnd {k:Nat}{e:Option Expr}{e':Option RX}(he:cvO (cvE k c) e=some e'){Q:Option Int→St→Prop}
  (h0:e'=none→Q none σ) (h1:∀ x x',e'=some x'→cvE k c x=some x'→EV c.w c.K fn c.d m x σ fun v σ'=>∃ i,v=.int i∧Q (some i) σ'):EVp c.w c.K fn c.d m e σ Q:=by
 cases e with
 |none=>cases he;exact h0 rfl
 |some x=>exact b1 (P:=fun e'=>∀ x x',e'=some x'→cvE k c x=some x'→EV c.w c.K fn c.d m x σ fun v σ'=>∃ i,v=.int i∧Q (some i) σ') he h1 fun a e h1=>h1 _ _ rfl e
omit ih C in
theorem slc_up {nm:Bool}{ov:V}{l u:Option Int}{P P':V→Prop}(h:sliceV nm ov l u P)(hp:∀ v,P v→P' v):sliceV nm ov l u P':=by
 cases ov with
 |str x=>exact let ⟨r,e,h⟩:=h;⟨r,e,hp _ h⟩
 |lst vs =>
  cases nm with
  |false=>exact h.elim
  |true =>
   cases l with
   |none=>cases u with
    |none=>exact h.elim
    |some j=>exact ⟨h.1,hp _ h.2⟩
   |some i=>cases u with
    |none=>exact ⟨h.1,hp _ h.2⟩
    |some j=>exact h.elim
 |_=>exact h.elim
theorem q_slc {k:Nat}{nm:Bool}{lo hi:Option Expr}{lo' hi':Option RX}{ov:V}(hlo:cvO (cvE k c) lo=some lo')(hhi:cvO (cvE k c) hi=some hi'){j:Nat}(hj:j≤n)(h:frV (mach (nrm c) j) (nrm c) (.slcO nm lo' hi') K ov m σ)
  {Q:V→St→Prop} (q:∀ v σ j,j≤n→(mach (nrm c) j).V K v m σ→Q v σ) :
  sliceOk nm ov∧EVp c.w c.K fn c.d m lo σ fun l σ₂=>EVp c.w c.K fn c.d m hi σ₂ fun u σ₃=>sliceV nm ov l u fun r=>Q r σ₃:=by
 refine ⟨h.1,?_⟩
 replace h:=h.2
 have hiP:∀ (i:Nat),i≤n→∀ (l:Option Int) (σ₂:St),slcHi (mach (nrm c) i) nm hi' ov l K m σ₂→EVp c.w c.K fn c.d m hi σ₂ fun u σ₃=>sliceV nm ov l u fun r=>Q r σ₃:=by
  intro i hi l σ₂ h₂
  refine q_bnd ih C hhi (fun e2=>?_) fun x x' e2 e3=>?_
  ·subst e2
   exact slc_up (show sliceV nm ov l none fun v=>(mach (nrm c) i).V K v m σ₂ from h₂) fun v hv=>q _ _ i hi hv
  ·subst e2
   refine eL ih C hi e3 h₂ fun v σ₃ p hp h₃=>?_
   cases v with
   |int i'=>exact ⟨i',rfl,slc_up (show sliceV nm ov l (some i') fun v=>(mach (nrm c) p).V K v m σ₃ from h₃) fun v hv=>q _ _ p hp hv⟩
   |_=>exact h₃.elim
 refine q_bnd ih C hlo (fun e2=>?_) fun x x' e2 e3=>?_
 ·subst e2
  exact hiP j hj none σ h
 ·subst e2
  refine eL ih C hj e3 h fun v σ₂ i hi h₂=>?_
  cases v with
  |int i'=>exact ⟨i',rfl,hiP i hi _ _ h₂⟩
  |_=>exact h₂.elim
omit ih C in
theorem q_lst {lo hi:Option Expr}{vs:List V}{o:Expr}{p pos:Pos}{Q:V→St→Prop}(ho:EV c.w c.K fn c.d m o σ fun v σ'=>v=.lst vs∧σ'=σ)
  (ht:∀ o' r,letTemporaryGo o o' r=pure ()) (h:EVp c.w c.K fn c.d m lo σ fun l σ₂=>EVp c.w c.K fn c.d m hi σ₂ fun u σ₃=>sliceV true (.lst vs) l u fun r=>Q r σ₃) (hl:vs.length≤1000000) :
  EV c.w c.K fn c.d m (.Subscript o (.Slice lo hi none p) pos) σ Q:=by
 refine ev_slice_lst (ho.mono ?_) ht
 rintro _ _ ⟨rfl,rfl⟩
 refine ⟨vs,.inl rfl,hl,h.mono fun l σ₂ h₂=>h₂.mono fun u σ₃ h₃=>⟨fun a e=>(by cases e),?_⟩⟩
 cases l with
 |some i=>cases u with
  |none =>
   obtain ⟨⟨rfl⟩,h₃⟩:=h₃
   refine xEAoAoo (pick_from (α:=V) (n:=vs.length)) fun f f1 f2 f3=>?_
   exact ⟨vs.drop 1,fun rs hr=>⟨f,f2 rs hr,(f1 vs rfl).symm,f3⟩,h₃⟩
  |some j=>exact h₃.elim
 |none=>cases u with
  |none=>exact h₃.elim
  |some j =>
   obtain ⟨⟨hj⟩,h₃⟩:=h₃
   obtain ⟨f,f1,f2,f3⟩:=pick_to (α:=V) (n:=vs.length) j.toNat
   refine ⟨vs.take j.toNat,fun rs hr=>⟨f,?_,(f1 vs rfl).symm,f3⟩,h₃⟩
   have:=f2 rs hr
   rwa [Int.toNat_of_nonneg hj] at this
end E
end NN
end
section
open PySem PySem.W PySem.Calls PyProof.Rows
namespace NN
variable {fn:FnS}{c:Cx}{m:Mp}{σ:St}{n:Nat}{K:List Fr}
theorem BC.mono {w:World}{f:Value}{vs:List V}{Q Q':V→St→Prop}(h:BC w f vs σ Q)(hq:∀ v σ,Q v σ→Q' v σ):BC w f vs σ Q' :=
 fun K fn d X m z s rs QR E W hv k=>h K fn d X m z s rs QR E W hv fun r v σ' z' s' a b c e q=>k r v σ' z' s' a b c e (hq _ _ q)
theorem bval_V (b:BI):(∃ id,bval b=.builtin id∧VR [] (.bi id) (bval b))∨∃ T,bval b=.type T∧VR [] (.ty T) (bval b):=by
 cases b<;>first | exact .inl ⟨_,rfl,.bi _⟩ | exact .inr ⟨_,rfl,.ty _⟩
theorem plainArgs_of {args:List Expr}(h:args.all notStar=true):plainArgs args:=by
 intro env e rest he
 rw [he,List.all_cons,Bool.and_eq_true] at h
 exact star_cons h.1
noncomputable def MT (w:World)(K:Frag)(fn:FnS)(d:Nat)(m:Mp)(x:PySem.Str)(pos:Pos)(args:List Expr)(pl:Env→Sem Bool)(ov:V)(σ:St)(Q:V→St→Prop):Prop :=
 ∀ (X:Fx w K fn d) (z:Led) (s:Shared) (ro:Value) (QR:Value→Shared→Prop) (E:Value→Shared→Prop),Wd X m σ z s→VR z ov ro →
  (∀ r v σ' z' s',Sub z z'→Wd X m σ' z' s'→VR z' v r→Sm s s'→Q v σ'→QR r s') →
  wpAny (M w) X.A (getMethod ro x (pl X.env)) (fun fx s₂=>wpAny (M w) X.A (callWith pos fx.1 fx.2 (backTo pos (starEach args X.env)) []) QR E s₂) E s
section MT
variable {w:World}{K:Frag}{d:Nat}{x:PySem.Str}{pos:Pos}{args:List Expr}{pl:Env→Sem Bool}{ov:V}{Q:V→St→Prop}
theorem ev_methodG {o:Expr}{apos:Pos}(h:EV w K fn d m o σ fun ov σ₁=>MT w K fn d m x pos args pl ov σ₁ Q)
  (he:∀ env,eval (.Call (.Attribute o x apos) args [] pos) env=(do
   let ov ←eval o env
   standAt apos.atName
   let (f,first) ←holding [ov] (getMethod ov x (pl env))
   callWith pos f first (backTo pos (starEach args env)) [])):EV w K fn d m (.Call (.Attribute o x apos) args [] pos) σ Q:=by
 intro X z s QR E W k
 refine MethodCall_ (h X z s _ E W ?_) (he _)
 intro ro ov σ₁ z₁ s₁ sub₁ W₁ hov sm₁ h₁
 exact h₁ X z₁ s₁ ro QR E W₁ hov fun r v σ' z' s' a b c e q=>k r v σ' z' s' (sub₁.trans a) b c (sm₁.trans e) q
theorem mt_inst {C f:Addr}{ns:List PySem.Str}(I:IsObj σ ov C ns)(hm:MethIn K C x f)(hx:x∉ns)(h:EVs w K fn d m args σ fun vs σ₂=>CALL w K d (.ref f) (ov::vs) σ₂ Q)(hn:noStar args):MT w K fn d m x pos args pl ov σ Q:=by
 intro X z s ro QR E hJ hov k
 refine fo fun Gx gx=>?_
 obtain ⟨m',W₁,R₁⟩:=hJ
 refine gx ?_
 refine xEEEEEAoAoo (I.at W₁ hov) fun xa ox es n vs₀ er1 IA ER₁=>?_;subst er1
 refine method_inst W₁.fr X.X IA hm.p hm.fd hm.t (ER₁.none_of hx) ?_
 refine callWith_any W₁.keep hm.k (h pos X z s _ E ⟨m',W₁,R₁⟩ ?_) (hn _ _)
 intro rs vs σ₂ z₂ s₂ sub₂ W₂ hvs sm₂ h₂
 exact ⟨W₂.keep,h₂.use W₂ (.cons (hov.mono sub₂) hvs) fun r v σ' z' s' a b c e q=>k r v σ' z' s' (sub₂.trans a) b c (sm₂.trans e) q⟩
theorem mt_static {C f:Addr}(hm:StatIn K C x f)(h:EVs w K fn d m args σ fun vs σ₂=>CALL w K d (.ref f) vs σ₂ Q)(hn:noStar args):MT w K fn d m x pos args pl (.glob C) σ Q:=by
 intro X z s ro QR E hJ hov k
 refine fo fun Gx gx=>?_
 obtain ⟨m',W₁,R₁⟩:=hJ
 refine gx ?_
 cases hov
 have fin:∀ tk,wpAny (M w) X.A (callWith pos (.ref f) [] (backTo pos (starEach args X.env)) []) QR E {s with toks:=tk}:=by
  intro tk
  have W₂:Wd X m σ z {s with toks:=tk}:=⟨m',W₁.tok tk,R₁⟩
  refine callWith_any W₂.keep hm.k (h pos X z _ _ E W₂ ?_) (hn _ _)
  intro rs vs σ₂ z₂ s₂ sub₂ W₂ hvs sm₂ h₂
  exact ⟨W₂.keep,h₂.use W₂ hvs fun r v σ' z' s' a b c e q=>k r v σ' z' s' (sub₂.trans a) b c ((Sm.tok.trans sm₂).trans e) q⟩
 refine method_of_cls W₁.fr X.X hm.g ?_
 obtain ⟨mc,t1,t2,t3 | ⟨p,rest,t3,t4⟩⟩:=hm.ex
 ·exact cls_val W₁.fr X.X t1 t2 t3 rfl (fin _)
 ·exact cls_sm W₁.fr X.X t1 t2 t3 t4 rfl (fin _)
theorem mt_bi {T id:String}(I:TyAt σ ov T)(hm:BiMeth T x id)(h:EVs w K fn d m args σ fun vs σ₂=>BC w (.builtin id) (ov::vs) σ₂ Q)(hn:noStar args)(hq:plainArgs args):MT w K fn d m x pos args pl ov σ Q:=by
 intro X z s ro QR E hJ hov k
 refine fo fun Gx gx=>?_
 obtain ⟨m',W₁,R₁⟩:=hJ
 refine gx ?_
 refine xAoo (I.at W₁ hov) fun hT hd=>?_
 refine getMethod_builtin hT hm.p hm.s hm.t hd ?_
 refine callWith_bi (.inl ⟨id,rfl⟩) (h pos X z s _ E ⟨m',W₁,R₁⟩ ?_) hn hq
 intro rs vs σ₂ z₂ s₂ sub₂ W₂ hvs sm₂ h₂
 exact h₂ K fn d X m z₂ s₂ (ro::rs) QR E W₂ (.cons (hov.mono sub₂) hvs) fun r v σ' z' s' a b c e q=>k r v σ' z' s' (sub₂.trans a) b c (sm₂.trans e) q
end MT
theorem sO {o:Option Addr}{f:Addr→Prop}{G:Prop}(h:match o with | some v=>f v | none=>False)(k:∀ v,o=some v→f v→G):G:=by
 cases o with
 |none=>exact h.elim
 |some v=>exact k v rfl h
theorem sL' {o:Option LM}{f:LM→Prop}{G:Prop}(h:match o with | some v=>f v | none=>False)(k:∀ v,o=some v→f v→G):G:=by
 cases o with
 |none=>exact h.elim
 |some v=>exact k v rfl h
section E
variable (ih:∀ j,j≤n→Gd (nrm c) j)(C:CxOK fn c)
include ih C
theorem q_meth {k:Nat}{x:PySem.Str}{args:List Expr}{as:List RX}{pos:Pos}{pl:Env→Sem Bool}{ov:V}(ha:cvAll (cvE k c) args=some as){j:Nat}(hj:j≤n)(h:mthV (mach (nrm c) j) (nrm c) ov (enc x) as K m σ)
  {Q:V→St→Prop} (q:∀ v σ j,j≤n→(mach (nrm c) j).V K v m σ→Q v σ):MT c.w c.K fn c.d m x pos args pl ov σ Q:=by
 have hst:noStar args:=fun _ _=>star_any (star_of ha)
 have calls:∀ {f:Addr} {ov:V},(mach (nrm c) j).L as [] (.obj ov f) K m σ→EVs c.w c.K fn c.d m args σ fun vs σ₂=>CALL c.w c.K c.d (.ref f) (ov::vs) σ₂ Q:=fun h =>
  lK ih C hj ha h fun vs σ₂ i hi h₂=>(Lf.out h₂).mono fun v σ' hv=>q v σ' i hi hv
 have lms:∀ {f:LM} {T:String},BiMeth T x (lmid f)→TyAt σ ov T→(mach (nrm c) j).L as [] (.lm f ov) K m σ→MT c.w c.K fn c.d m x pos args pl ov σ Q:=fun {f _} hl I h =>
  mt_bi I hl (lK ih C hj ha h fun vs σ₂ i hi h₂=>BC.mono (lmV_ok (b:=f) (ov:=ov) (vs:=vs) (Q:=fun v σ''=>(mach (nrm c) i).V K v m σ'') h₂) fun v σ' hv=>q v σ' i hi hv) hst (plainArgs_of (star_of ha))
 cases ov with
 |inst Cl ns vs =>
  obtain ⟨⟨er⟩,h⟩:=h
  subst er
  refine sO h fun f hf h=>?_
  exact mt_inst .inst (C.T.meth _ _ _ hf).1 (C.T.meth _ _ _ hf).2 (calls h) hst
 |own a =>
  obtain ⟨cell,⟨hc⟩,h⟩:=h
  cases cell with
  |ins Cl ns vs =>
   obtain ⟨⟨er⟩,h⟩:=h
   subst er
   refine sO h fun f hf h=>?_
   exact mt_inst (.own hc) (C.T.meth _ _ _ hf).1 (C.T.meth _ _ _ hf).2 (calls h) hst
  |lst us =>
   refine sL' h fun f hf h=>?_
   have hl:=C.T.lm _ _ hf
   cases f with
   |append=>exact lms hl (.own hc) h
   |pop=>exact lms hl (.own hc) h
   |reverse=>exact lms hl (.own hc) h
   |join=>exact h.elim
   |index=>exact h.elim
  |cel _=>exact h.elim
 |glob Cl =>
  refine sO h fun f hf h=>?_
  exact mt_static (C.T.stat _ _ _ hf) (lK ih C hj ha h fun vs σ₂ i hi h₂=>(Lf.out h₂).mono fun v σ' hv=>q v σ' i hi hv) hst
 |str s =>
  refine sL' h fun f hf h=>?_
  have hl:=C.T.lm _ _ hf
  cases f with
  |join=>exact lms hl .str h
  |index=>exact lms hl .str h
  |_=>exact h.elim
 |_=>exact h.elim
theorem q_callN {k:Nat}{x:PySem.Str}{p pos:Pos}{args:List Expr}{rx:RX}{Q:V→St→Prop}(hc:cvCallN (cvE k c) c (enc x) args=some rx)(h:stepE (mach (nrm c) n) rx K m σ)(q:∀ v σ j,j≤n→(mach (nrm c) j).V K v m σ→Q v σ):EV c.w c.K fn c.d m (.Call (.Name x p) args [] pos) σ Q:=by
 refine gO hc fun hk hc=>?_
 refine bO hc fun as ha hc=>?_
 have hk':kindE c.ns (enc x)=some .globalImplicit:=by simpa using hk
 rw [←C.ns] at hk'
 have hm:=kindE_use C.n0 hk'
 have hst:noStar args:=fun _ _=>star_any (star_of ha)
 cases hb:lk c.T.bi (enc x) with
 |some b =>
  rw [hb] at hc
  refine eB0 hc h fun h=>?_
  refine xAoAoAoo (C.T.bi _ _ hb) fun h1 h2 h3 h4=>?_
  have key:EVs c.w c.K fn c.d m args σ fun vs σ₂=>BC c.w (bval b) vs σ₂ Q :=
   lK ih C (Nat.le_refl _) ha h fun vs σ₂ i hi h₂=>BC.mono (bcV_ok (b:=b) (vs:=vs) (Q:=fun v σ''=>(mach (nrm c) i).V K v m σ'') h₂) fun v σ' hv=>q v σ' i hi hv
  rcases bval_V b with ⟨id,e1,e2⟩ | ⟨T,e1,e2⟩
  ·rw [e1] at e2 h3 key
   exact ev_call_bin (id:=id) (ev_builtin C.nd rfl hm h2 h3 h4 e2 h1 ⟨rfl,key⟩) hst (plainArgs_of (star_of ha))
  ·rw [e1] at e2 h3 key
   exact ev_call_ty (T:=T) (ev_builtin C.nd rfl hm h2 h3 h4 e2 h1 ⟨rfl,key⟩) hst (plainArgs_of (star_of ha))
 |none =>
  rw [hb] at hc
  refine bO hc fun g hg hc=>?_
  refine xAoEAoo (C.T.gl _ _ hg) fun h1 r h2 h3=>?_
  cases g with
  |glob a =>
   refine eB1 hc h fun u hkp h=>?_
   exact ev_call_name (a:=a) (ev_global C.nd rfl hm h2 h3 h1 ⟨rfl,lK ih C (Nat.le_refl _) ha h fun vs σ₂ i hi h₂=>(Lf.out h₂).mono fun v σ' hv=>q v σ' i hi hv⟩) (C.T.kp a hkp) hst
  |_=>cases hc
theorem q_comp {k:Nat}{elt:Expr}{gens:List Comprehension}{scope:Scope}{t:RX×List Bool×RX}(hc:cvComp (cvE k) c elt gens scope=some t){f:Fr}{QE:List V→St→Addr→Prop}(h:(mach (nrm c) n).E t.2.2 (f::K) m σ)
  (hf:∀ j v σ',j≤n→frV (mach (nrm c) j) (nrm c) f K v m σ'→cmpM (mach (nrm c) j) v t.1 t.2.1 σ' QE) :
  ∃ x iter p clC,gens=[⟨.Name x p,iter,[],0⟩]∧noSet iter=true∧closL scope.names fn.cl []=some clC∧(∀ y∈scope.names,y.2≠.cell)∧scope.kind=.function∧(scope.names.map (·.1)).Nodup∧scope.names.lookup x=some .local ∧
   EV c.w c.K fn c.d m iter σ fun it σ₁=>∃ vs,CSRC c.w it vs∧vs.length≤16000000∧∃ I:Nat→List V→St→Prop,I 0 [] σ₁ ∧
   (∀ i v ys σ,vs[i]?=some v→I i ys σ→EV c.w c.K (fnC fn scope clC) c.d (mC x v (relS scope fn.sc).names) elt σ fun y σ'=>I (i+1) (ys++[y]) σ')∧∀ ys σ a,I vs.length ys σ→QE ys σ a:=by
 refine bO hc fun g hg hc=>?_
 obtain ⟨x,iter⟩:=g
 refine xEo (genO_eq hg) fun p er1=>?_;subst er1
 refine gO hc fun hok hc=>?_
 rw [Bool.and_eq_true] at hok
 refine xAoo hok fun hok hns=>?_
 revert hf
 refine bO hc fun clE hcl hc=>?_
 refine bO hc fun e' he hc=>?_
 refine bO hc fun it' hi hc=>?_
 cases hc
 intro hf
 unfold okC at hok
 rw [Bool.and_eq_true,Bool.and_eq_true,Bool.and_eq_true,Bool.and_eq_true] at hok
 refine xAAAAooooo hok fun o1 o2 o3 o4 o5=>?_
 have kf:scope.kind=.function:=by simpa using o1
 have all0:∀ p∈scope.names,enc p.1≠0∧p.2≠.cell:=by
  intro p hp
  have:=List.all_eq_true.mp o2 (enc p.1,p.2) (List.mem_map.mpr ⟨p,hp,rfl⟩)
  rw [Bool.and_eq_true] at this
  exact ⟨by simpa using this.1,by simpa using this.2⟩
 have n0:∀ p∈scope.names,enc p.1≠0:=fun p hp=>(all0 p hp).1
 have ndE:=of_decide_eq_true o3
 have nd:(scope.names.map (·.1)).Nodup:=by
  have e:(encN scope.names).map (·.1)=(scope.names.map (·.1)).map enc:=by unfold encN;rw [List.map_map,List.map_map];rfl
  rw [e] at ndE
  exact (List.pairwise_map.mp ndE).imp fun h e=>h (by rw [e])
 have hx:scope.names.lookup x=some .local:=by
  rw [←kindE_eq n0];simpa using o4
 have dbg:∀ p∈scope.names,notDebug p.1:=fun p hp=>by
  have:=List.all_eq_true.mp o5 p hp
  simpa [notDebug] using this
 rw [←C.cl] at hcl
 refine xEAoAoo (closE_eq C.cl0 (acc:=[]) hcl) fun clC h1 h2 h3=>?_
 refine ⟨x,iter,p,clC,rfl,hns,h1,fun y hy=>(all0 y hy).2,kf,nd,hx,eL ih C (Nat.le_refl _) hi h fun it σ₁ j hj h₁=>?_⟩
 obtain ⟨vs,⟨hs⟩,⟨hl⟩,I,⟨h0⟩,hstep,hend⟩:=hf j it σ₁ hj h₁
 refine ⟨vs,srcC_ok hs,hl,I,h0,fun i v ys σ hv hI=>?_,hend⟩
 have:=hstep i v ys σ hv hI
 have em:(maskE (encN scope.names) (enc x)).map (fun b=>bif b then some v else none)=mC x v (relS scope fn.sc).names:=by
  rw [mC_rel,←mC_enc n0]
  unfold maskE
  rw [List.map_map];rfl
 rw [em] at this
 have hrel:∀ p∈(relS scope fn.sc).names,∃ k,(p.1,k)∈scope.names:=by
  intro p hp
  unfold relS at hp
  refine xEAoo (List.mem_map.mp hp) fun q hq er1=>?_;subst er1
  obtain ⟨n,k⟩:=q
  refine ⟨k,?_⟩
  dsimp only
  split<;>exact hq
 have C':CxOK (fnC fn scope clC) (cxC c scope clE):=by
  refine ⟨?_,?_,?_,?_,kf,rfl,h2,?_,C.T⟩
  ·show encN (relS scope fn.sc).names=relE (encN scope.names) c.ns
   rw [←C.ns];exact relS_enc C.n0 C.kind
  ·have:((relS scope fn.sc).names.map (·.1))=scope.names.map (·.1):=by
    unfold relS
    rw [List.map_map]
    refine List.map_congr_left fun q hq=>?_
    obtain ⟨n,k⟩:=q
    simp only [Function.comp_apply]
    split<;>rfl
   rw [this];exact nd
  ·intro p hp;refine xEo (hrel p hp) fun k hk=>?_;exact n0 (p.1,k) hk
  ·intro p hp;refine xEo (hrel p hp) fun k hk=>?_;exact dbg (p.1,k) hk
  ·intro p hp
   rcases h3 p hp with h | ⟨k,h⟩
   ·cases h
   ·exact n0 (p.1,k) h
 exact eL (c:=cxC c scope clE) ih C' hj he this fun y σ' q _ h₂=>h₂
end E
end NN
end
section
open PySem PySem.W PySem.Calls PyProof.Rows
namespace NN
variable {fn:FnS}{c:Cx}{m:Mp}{σ:St}{n:Nat}{K:List Fr}
theorem noComp_ok {e:Expr}(h:noComp e=true)(t:Option Expr)(l:Nat)(env:Env):swapsWith e t l env=pure false:=by
 cases e<;>first | rfl | cases h
theorem noTup_ok {e:Expr}{ts:List Expr}{k:Nat}{p:Pos}(h:isTup e=false)(env:Env):swappedStores [.Tuple ts k p] e env=pure none:=by
 cases e<;>first | rfl | cases h
theorem compO_eq {e elt:Expr}{gens:List Comprehension}{scope:Scope}{pos:Pos}(h:compO e=some (elt,gens,scope,pos)):e=.ListComp elt gens scope pos:=by
 have key:∀ {P:Expr→Prop},(∀ a b d e,P (.ListComp a b d e))→(∀ e,compO e=none→P e)→P e:=by
  intro P k1 k2
  clear h
  cases e with
  |ListComp a b d e=>exact k1 _ _ _ _
  |_=>exact k2 _ rfl
 exact key (P:=fun e=>compO e=some (elt,gens,scope,pos)→e=.ListComp elt gens scope pos) (fun a b d e h=>by cases h;rfl) (fun e k h=>by rw [k] at h;cases h) h
theorem asEach {t:Expr}{ts:List Expr}{env:Env}(ht:notStar t=true):assignEach (t::ts) env=(false,assign t env)::assignEach ts env:=by
 cases t<;>first | rfl | cases ht
theorem cvT_tgt {k:Nat}{t:Expr}{rt:RT}(h:cvT k c t=some rt):(∃ x p,t=.Name x p)∨∃ es k p,t=.Tuple es k p:=by
 cases k with
 |zero=>cases h
 |succ k =>
 have key:∀ {P:Expr→Prop},(∀ x p,P (.Name x p))→(∀ a b d,P (.Tuple a b d))→(∀ e,cvT (k+1) c e=none→P e)→P t:=by
  intro P h1 h2 h3
  clear h
  cases t with
  |Name x p=>exact h1 _ _
  |Tuple a b d=>exact h2 _ _ _
  |_=>exact h3 _ rfl
 exact key (P:=fun t=>cvT (k+1) c t=some rt→(∃ x p,t=.Name x p)∨∃ es k p,t=.Tuple es k p) (fun x p _=>.inl ⟨_,_,rfl⟩) (fun a b d _=>.inr ⟨_,_,_,rfl⟩) (fun e k h=>by rw [k] at h;cases h) h
theorem sl_out {nm:Bool}{x:PySem.Str}{l u:Option Int}{P:V→Prop}(h:sliceV nm (.str x) l u P):P (.str (Txt.slice x l u)) :=
 let ⟨_,⟨e⟩,h⟩:=h;e▸h
theorem cmp_inv {f:Expr→Option RX}{l:Expr}{ops:List CmpOp}{rs:List Expr}{rx:RX}{G:Prop}(h:cvCmp f l ops rs=some rx)
  (k1:∀ o r a b,ops=[o]→rs=[r]→behindInMarks o r=false→f l=some a→f r=some b→rx=.cmp o a b→G)
  (k2:∀ o₁ o₂ r₁ r₂ a b d,ops=[o₁,o₂]→rs=[r₁,r₂]→behindInMarks o₂ r₂=false→f l=some a→f r₁=some b→f r₂=some d→rx=.cmp2 o₁ o₂ a b d→G):G:=by
 rcases ops with _ | ⟨o₁,_ | ⟨o₂,_ | ⟨o₃,ops⟩⟩⟩
 ·cases h
 ·rcases rs with _ | ⟨r₁,_ | ⟨r₂,rs⟩⟩
  ·cases h
  ·exact gO h fun hb h=>bO h fun a h1 h=>bO h fun b h2 h=>k1 _ _ a b rfl rfl ((Bool.not_eq_true' _).mp hb) h1 h2 (Option.some.inj h).symm
  ·cases h
 ·rcases rs with _ | ⟨r₁,_ | ⟨r₂,_ | ⟨r₃,rs⟩⟩⟩
  ·cases h
  ·cases h
  ·exact gO h fun hb h=>bO h fun a h1 h=>bO h fun b h2 h=>bO h fun d h3 h=>k2 _ _ _ _ a b d rfl rfl ((Bool.not_eq_true' _).mp hb) h1 h2 h3 (Option.some.inj h).symm
  ·cases h
 ·cases h
theorem dict_inv {f:Expr→Option RX}{ks:List (Option Expr)}{es:List Expr}{rx:RX}{G:Prop}(h:cvDict f ks es=some rx)
  (k:∀ x₁ n₁ p₁ x₂ n₂ p₂ e₁ e₂ a b,ks=[some (.Constant (.str x₁) n₁ p₁),some (.Constant (.str x₂) n₂ p₂)]→es=[e₁,e₂]→x₁≠x₂→f e₁=some a→f e₂=some b→rx=.dict x₁ x₂ a b→G):G:=by
 rcases ks with _ | ⟨k₁,_ | ⟨k₂,_ | ⟨k₃,ks⟩⟩⟩
 ·cases h
 ·cases h
 ·rcases es with _ | ⟨e₁,_ | ⟨e₂,_ | ⟨e₃,es⟩⟩⟩
  ·cases h
  ·cases h
  ·refine bO h fun x₁ h1 h=>bO h fun x₂ h2 h=>gO h fun hne h=>bO h fun a h3 h=>bO h fun b h4 h=>?_
   refine xEEo (keyO_eq h1) fun _ _ er1=>?_
   refine xEEo (keyO_eq h2) fun _ _ er2=>?_
   exact k _ _ _ _ _ _ _ _ a b (by rw [er1,er2]) rfl (bne_iff_ne.mp hne) h3 h4 (Option.some.inj h).symm
  ·cases h
 ·cases h
theorem exA {P:Expr→Prop}(e:Expr)(k1:∀ o x p,P (.Attribute o x p))(k2:∀ x p,P (.Name x p))(k3:∀ e,(∀ f c args pos,cvCall f c e args [] pos=none)→P e):P e:=by
 cases e with
 |Attribute o x p=>exact k1 _ _ _
 |Name x p=>exact k2 _ _
 |_=>exact k3 _ fun _ _ _ _=>rfl
theorem cmpM.up {M:Mc}{it:V}{elt:RX}{mask:List Bool}{QE QE':List V→St→Addr→Prop}(h:cmpM M it elt mask σ QE)(k:∀ ys σ a,QE ys σ a→QE' ys σ a):cmpM M it elt mask σ QE':=by
 refine xEo h fun vs h=>xEo h.2.2 fun I h'=>?_
 exact ⟨vs,h.1,h.2.1,I,h'.1,h'.2.1,fun ys σ a hI=>k _ _ _ (h'.2.2 ys σ a hI)⟩
theorem negV {v:V}{f:Int→Prop}{G:Prop}(h:match v with | .int i=>f i | _=>False)(k:∀ i,v=.int i→f i→G):G:=by
 cases v with
 |int i=>exact k i rfl h
 |_=>exact h.elim
section E
variable (ih:∀ j,j≤n→Gd (nrm c) j)(C:CxOK fn c)
section
variable {Q:V→St→Prop}(q:∀ v σ j,j≤n→(mach (nrm c) j).V K v m σ→Q v σ)
include ih C q
theorem q_bool {k:Nat}{op:BoolOp}{p:Pos}:∀ {vs:List Expr} {rx:RX} {i:Nat},i≤n→cvBool (cvE k c) op vs=some rx→(mach (nrm c) i).E rx K m σ→EV c.w c.K fn c.d m (.BoolOp op vs p) σ Q:=by
 intro vs
 induction vs generalizing σ with
 |nil=>intro rx i hi h _;cases h
 |cons x r ihv =>
  intro rx i hi hc h
  cases r with
  |nil=>exact ev_bool_one (eK ih C hi hc h q)
  |cons y r =>
   cases i with
   |zero=>exact h.elim
   |succ i =>
    have hi:=Nat.le_of_succ_le hi
    cases op with
    |And =>
     refine eB2 hc h fun a b h1 h2 h=>?_
     exact ev_and (eL ih C hi h1 h fun v σ' j hj h₁=>let ⟨t,o,h3,h4⟩:=truV_ok h₁;⟨t,o,fun e=>ihv hj h2 (h3 e),fun e=>q _ _ j hj (h4 e)⟩)
    |Or =>
     refine eB2 hc h fun a b h1 h2 h=>?_
     exact ev_or (eL ih C hi h1 h fun v σ' j hj h₁=>let ⟨t,o,h3,h4⟩:=truV_ok h₁;⟨t,o,fun e=>q _ _ j hj (h3 e),fun e=>ihv hj h2 (h4 e)⟩)
theorem q_sub {k:Nat}{o i:Expr}{pos:Pos}{rx:RX}(hc:cvSub (cvE k c) c o i=some rx)(h:stepE (mach (nrm c) n) rx K m σ):EV c.w c.K fn c.d m (.Subscript o i pos) σ Q:=by
 unfold cvSub at hc
 cases hs:sliceO i with
 |none =>
  rw [hs] at hc
  refine eB2 hc h fun o' i' ho hi h=>?_
  exact ev_subK (eL ih C (Nat.le_refl _) ho h fun ov σ₁ j hj h₁=>eL ih C hj hi h₁ fun iv σ₂ p hp h₂=>let ⟨v,g,h₂⟩:=getI_ok (c:=nrm c) C.T h₂;⟨v,g,q _ _ p hp h₂⟩) fun o' i'=>subscripted_plain hs o' i'
 |some t =>
  obtain ⟨lo,hi,st⟩:=t
  rw [hs] at hc
  refine xEo (sliceO_eq hs) fun p er1=>?_;subst er1
  clear hs
  cases st with
  |some e=>cases hc
  |none =>
   refine bO hc fun lo' hlo hc=>?_
   refine bO hc fun hi' hhi hc=>?_
   cases hn:nameO o with
   |none =>
    rw [hn] at hc
    refine eB1 hc h fun o' ho h=>?_
    refine ev_slice_str (eL ih C (Nat.le_refl _) ho h fun ov σ₁ j hj h₁=>?_)
    refine xAoo (q_slc ih C hlo hhi hj h₁ q) fun ok key=>?_
    cases ov with
    |str x=>exact ⟨x,rfl,ok.out,key.mono fun l σ₂ h₂=>h₂.mono fun u σ₃ h₃=>sl_out h₃⟩
    |lst vs=>exact ok.elim
    |_=>exact ok.elim
   |some x =>
    rw [hn] at hc
    refine xEo (nameO_eq hn) fun p' er1=>?_;subst er1
    refine bO hc fun y h1 hc=>?_
    obtain ⟨i,kd⟩:=y
    refine gO hc fun hl hc=>?_
    refine eB0 hc h fun h=>?_
    rw [←C.ns] at h1
    refine xAoAoo (idxE_has C.n0 h1) fun hm hh _=>?_
    refine nO h fun v hv h=>?_
    have hloc:=hh (eq_of_beq hl) hv
    cases n with
    |zero=>exact h.elim
    |succ j =>
    refine xAoo (q_slc ih C hlo hhi (Nat.le_succ j) h q) fun ok key=>?_
    cases v with
    |str x=>exact ev_slice_str (ev_local C.nd rfl hloc (C.dbg _ hm) ⟨x,rfl,ok.out,key.mono fun l σ₂ h₂=>h₂.mono fun u σ₃ h₃=>sl_out h₃⟩)
    |lst vs=>exact q_lst (ev_local C.nd rfl hloc (C.dbg _ hm) ⟨rfl,rfl⟩) (fun _ _=>rfl) key ok.out
    |_=>exact ok.elim
theorem q_E {k:Nat}{e:Expr}{rx:RX}(hc:cvE k c e=some rx)(h:stepE (mach (nrm c) n) rx K m σ):EV c.w c.K fn c.d m e σ Q:=by
 cases k with
 |zero=>cases hc
 |succ k =>
 have l0:n≤n:=Nat.le_refl n
 cases e with
 |Constant x a p =>
  cases x with
  |int i=>exact eB0 hc h fun h=>ev_int (q _ _ n l0 h)
  |str i=>exact eB0 hc h fun h=>ev_str (q _ _ n l0 h)
  |bool i=>exact eB0 hc h fun h=>ev_bool (q _ _ n l0 h)
  |none=>exact eB0 hc h fun h=>ev_none (q _ _ n l0 h)
  |_=>cases hc
 |Name x p=>exact q_name C hc h q
 |Attribute o x p =>
  refine gO hc fun hb hc=>?_
  refine eB1 hc h fun o' ho h=>?_
  refine ev_attr (eL ih C l0 ho h fun ov σ₁ j hj h₁=>let ⟨v,g,h₁⟩:=getA_ok (c:=nrm c) C.T h₁;⟨v,g,q _ _ j hj h₁⟩) fun env=>?_
  show (do let ov ←attributeBase _ _ env (eval _ env);_)=_
  rw [attributeBase_eq hb]
 |Subscript o i p=>exact q_sub ih C q hc h
 |BinOp l op r p =>
  refine eB2 hc h fun l' r' h1 h2 h=>?_
  exact ev_binop (eL ih C l0 h1 h fun a σ₁ j hj h₁=>eL ih C hj h2 h₁ fun b σ₂ i hi h₂=>let ⟨v,o,h₂⟩:=binV_ok (op:=op) (a:=a) (b:=b) (Q:=fun r=>(mach (nrm c) i).V K r m σ₂) h₂;⟨v,o,q _ _ i hi h₂⟩)
 |Compare l ops rs p =>
  have back:∀ {t:Bool} {σ:St} {j:Nat},j≤n→(mach (nrm c) j).B (.boolV::K) t m σ→Q (.bool t) σ:=fun {t σ j} hj h=>by
   cases j with
   |zero=>exact h.elim
   |succ j=>exact q _ _ j (Nat.le_of_succ_le hj) h
  refine cmp_inv hc (fun o r a b e1 e2 hb h1 h2 er=>?_) fun o₁ o₂ r₁ r₂ a b d e1 e2 hb h1 h2 h3 er=>?_
  ·subst er;subst e1;subst e2
   exact ev_compare1 (q_cmp ih C h1 h2 h fun a b t σ₂ j hj o h₂=>⟨_,o,back hj h₂⟩) hb
  ·subst er;subst e1;subst e2
   exact ev_chain2 (q_chain ih C h1 h2 h3 h (R:=fun t σ=>Q (.bool t) σ) fun t σ₃ j hj h=>back hj h) hb
 |BoolOp op vs p =>
  refine gO hc fun hlen hc=>?_
  rcases vs with _ | ⟨x,_ | ⟨y,r⟩⟩
  ·cases hc
  ·cases hlen
  ·cases op with
   |And =>
    refine eB2 hc h fun a b h1 h2 h=>?_
    exact ev_and (eL ih C l0 h1 h fun v σ' j hj h₁=>let ⟨t,o,h3,h4⟩:=truV_ok h₁;⟨t,o,fun e=>q_bool ih C q hj h2 (h3 e),fun e=>q _ _ j hj (h4 e)⟩)
   |Or =>
    refine eB2 hc h fun a b h1 h2 h=>?_
    exact ev_or (eL ih C l0 h1 h fun v σ' j hj h₁=>let ⟨t,o,h3,h4⟩:=truV_ok h₁;⟨t,o,fun e=>q _ _ j hj (h3 e),fun e=>q_bool ih C q hj h2 (h4 e)⟩)
 |UnaryOp op x p =>
  cases op with
  |USub =>
   refine eB1 hc h fun x' h1 h=>?_
   exact ev_neg (eL ih C l0 h1 h fun v σ' j hj h₁=>negV h₁ fun i e h₁=>⟨i,e,q _ _ j hj h₁⟩)
  |Not=>exact eB1 hc h fun x' h1 h=>h.elim
  |_=>cases hc
 |IfExp t a b p =>
  refine eB3 hc h fun t' a' b' h1 h2 h3 h=>?_
  exact ev_ifexp (tL ih C l0 h1 h fun b σ' j hj h₁=>⟨fun e=>eK ih C hj h2 (h₁.1 e) q,fun e=>eK ih C hj h3 (h₁.2 e) q⟩)
 |List es p =>
  refine eB1 hc h fun es' h1 h=>?_
  exact ev_weak (ev_list (lK ih C l0 h1 h fun vs σ' j hj h₁=>⟨Nat.le_of_ble_eq_true (cnd h₁).1,fun a=>let ⟨v',σ'',h2,h3⟩:=(cnd h₁).2 a;⟨v',σ'',h2,q _ _ j hj h3⟩⟩))
 |Tuple es x p =>
  refine eB1 hc h fun es' h1 h=>?_
  exact ev_tuple (lK ih C l0 h1 h fun vs σ' j hj h₁=>⟨Nat.le_of_ble_eq_true (cnd h₁).1,q _ _ j hj (cnd h₁).2⟩)
 |ListComp elt gens scope p =>
  refine eB1 hc h fun t h1 h=>?_
  refine xEEEEAoAoAoAoAoAoAoo (q_comp ih C h1 (f:=.cmpI t.1 t.2.1) (QE:=fun ys σ' a=>∃ v' σ'',Lf (Wk (.own a) ((a,.lst ys)::σ') v' σ'')∧Q v' σ'') h fun j v σ' hj h=>cmpM.up h fun ys σ a h=>let ⟨v',σ'',h6,h7⟩:=h;⟨v',σ'',h6,q _ _ j hj h7⟩) fun x iter p clC er1 hns a1 a2 a3 a4 a5 a6=>?_
  subst er1
  exact ev_weak (ev_listcomp a1 a2 a3 a4 a5 a6 fun env x=>noSet_ok hns env x)
 |Dict ks es p =>
  refine dict_inv hc fun x₁ n₁ p₁ x₂ n₂ p₂ e₁ e₂ a b e1 e2 hne h3 h4 er=>?_
  subst er;subst e1;subst e2
  exact ev_dict2 hne (eL ih C l0 h3 h fun a σ₁ j hj h₁=>eL ih C hj h4 h₁ fun b σ₂ i hi h₂=>q _ _ i hi h₂)
 |Call f args kws p =>
  cases kws with
  |cons a b=>cases hc
  |nil =>
   refine exA (P:=fun f=>cvCall (cvE k c) c f args [] p=some rx→EV c.w c.K fn c.d m (.Call f args [] p) σ Q) f (fun o x apos hc=>?_) (fun x p' hc=>q_callN ih C hc h q) (fun e he hc=>by rw [he] at hc;cases hc) hc
   refine gO hc fun hok hc=>?_
   exact eB2 hc h fun o' as h1 h2 h=>ev_methodG (eL ih C l0 h1 h fun ov σ₁ j hj h₁=>q_meth ih C h2 hj h₁ q) (call_attr_eq hok)
 |_=>cases hc
end
section
variable {Q:Bool→St→Prop}(q:∀ b σ j,j≤n→(mach (nrm c) j).B K b m σ→Q b σ)
include ih C q
theorem q_boolT {k:Nat}{op:BoolOp}{p:Pos}:∀ {vs:List Expr} {rx:RX} {i:Nat},i≤n→cvBool (cvE k c) op vs=some rx→(mach (nrm c) i).T rx K m σ→TS c.w c.K fn c.d m (.BoolOp op vs p) σ Q:=by
 intro vs
 induction vs generalizing σ with
 |nil=>intro rx i hi h _;cases h
 |cons x r ihv =>
  intro rx i hi hc h
  cases r with
  |nil =>
   cases op with
   |And=>exact ts_and (tK ih C hi hc h fun b σ' j hj hb=>⟨fun e=>ts_and_nil (by subst e;exact q _ _ j hj hb),fun e=>by subst e;exact q _ _ j hj hb⟩)
   |Or=>exact ts_or (tK ih C hi hc h fun b σ' j hj hb=>⟨fun e=>by subst e;exact q _ _ j hj hb,fun e=>ts_or_nil (by subst e;exact q _ _ j hj hb)⟩)
  |cons y r =>
   cases i with
   |zero=>exact h.elim
   |succ i =>
    have hi:=Nat.le_of_succ_le hi
    cases op with
    |And =>
     refine tB2 hc h fun a b h1 h2 h=>?_
     exact ts_and (tL ih C hi h1 h fun v σ' j hj h₁=>⟨fun e=>ihv hj h2 (h₁.1 e),fun e=>q _ _ j hj (h₁.2 e)⟩)
    |Or =>
     refine tB2 hc h fun a b h1 h2 h=>?_
     exact ts_or (tL ih C hi h1 h fun v σ' j hj h₁=>⟨fun e=>q _ _ j hj (h₁.1 e),fun e=>ihv hj h2 (h₁.2 e)⟩)
noncomputable def isTd (e:Expr):Prop:=∀ env whole,PySem.isTrue e env whole=(do
 let v ←whole
 standAt e.pos
 holding [v] (truthy v))
theorem plain {k:Nat}{e:Expr}{rx:RX}(he:isTd e)(hc:cvE k c e=some rx)(h:(mach (nrm c) n).E rx (.tru::K) m σ):TS c.w c.K fn c.d m e σ Q :=
 ts_plain (eL ih C (Nat.le_refl _) hc h fun v σ' j hj h₁=>let ⟨t,o,h₁⟩:=truV_ok h₁;⟨t,o,q _ _ j hj h₁⟩) he
noncomputable def tst:RX→Bool
 |.not _ | .and _ _ | .or _ _ | .cmp _ _ _ | .cmp2 _ _ _ _ _=>true
 |_=>false
omit ih C q in
theorem tst_ok {M:Mc}{rx:RX}(h:stepT M rx K m σ)(p:tst rx=false):M.E rx (.tru::K) m σ:=by
 cases rx with
 |not a=>cases p
 |and a b=>cases p
 |or a b=>cases p
 |cmp a b c=>cases p
 |cmp2 a b c d e=>cases p
 |loc i=>exact h
 |attr i=>exact h
 |call i=>exact h
 |meth i=>exact h
 |item i=>exact h
 |_=>exact h.elim
noncomputable def nT (o:Option RX):Prop:=∀ x,o=some x→tst x=false
omit ih C q in
theorem nTn:nT none:=fun _ h=>nomatch h
omit ih C q in
theorem nTs {x:RX}(h:tst x=false):nT (some x):=fun _ e=>Option.some.inj e▸h
omit ih C q in
theorem nTb {α:Type}{o:Option α}{f:α→Option RX}(h:∀ a,nT (f a)):nT (o.bind f):=fun _ e=>bO e fun a _ e=>h a _ e
omit ih C q in
theorem nTg {b:Bool}{o:Option RX}(h:nT o):nT (guardO b o):=fun _ e=>gO e fun _ e=>h _ e
omit ih C q in
theorem nT_sub {f:Expr→Option RX}{o i:Expr}:nT (cvSub f c o i):=by
 unfold cvSub
 cases sliceO i with
 |none=>exact nTb fun _=>nTb fun _=>nTs rfl
 |some t =>
  obtain ⟨lo,hi,st⟩:=t
  cases st with
  |some e=>exact nTn
  |none =>
   refine nTb fun _=>nTb fun _=>?_
   cases nameO o with
   |none=>exact nTb fun _=>nTs rfl
   |some x=>exact nTb fun _=>nTg (nTs rfl)
omit ih C q in
theorem nT_callN {f:Expr→Option RX}{x:Nat}{args:List Expr}:nT (cvCallN f c x args):=by
 refine nTg (nTb fun _=>?_)
 cases lk c.T.bi x with
 |some b=>exact nTs rfl
 |none =>
  refine nTb fun g=>?_
  cases g with
  |glob a=>exact nTb fun _=>nTs rfl
  |_=>exact nTn
omit ih C q in
theorem nT_name {x:Nat}:nT (cvName c x):=by
 refine nTb fun p=>?_
 obtain ⟨i,k⟩:=p
 cases k with
 |«local»=>exact nTs rfl
 |globalImplicit=>exact nTb fun _=>nTs rfl
 |cell=>exact nTb fun _=>nTs rfl
 |_=>exact nTn
omit ih C q in
theorem nT_dict {f:Expr→Option RX}{ks:List (Option Expr)}{es:List Expr}:nT (cvDict f ks es):=fun x h=>dict_inv h fun _ _ _ _ _ _ _ _ _ _ _ _ _ _ _ e=>e▸rfl
omit ih C q in
theorem nT_call {f:Expr→Option RX}{g:Expr}{args:List Expr}{kws:List Keyword}{pos:Pos}:nT (cvCall f c g args kws pos):=by
 cases kws with
 |cons a b=>exact nTn
 |nil=>exact exA (P:=fun g=>nT (cvCall f c g args [] pos)) g (fun _ _ _=>nTg (nTb fun _=>nTb fun _=>nTs rfl)) (fun _ _=>nT_callN) fun e h=>by rw [h];exact nTn
omit ih C q in
theorem exT {k:Nat}{P:Expr→Prop}(e:Expr)(k1:∀ o x p,P (.UnaryOp o x p))(k2:∀ a b d e,P (.Compare a b d e))(k3:∀ a b d,P (.BoolOp a b d))(k4:∀ a b d e,P (.IfExp a b d e))(k5:∀ e,nT (cvE (k+1) c e)→isTd e→P e):P e:=by
 cases e with
 |UnaryOp a b d=>exact k1 _ _ _
 |Compare a b d e=>exact k2 _ _ _ _
 |BoolOp a b d=>exact k3 _ _ _
 |IfExp a b d e=>exact k4 _ _ _ _
 |Constant x a p=>exact k5 _ (by cases x<;>first | exact nTs rfl | exact nTn) fun _ _=>rfl
 |Name x p=>exact k5 _ nT_name fun _ _=>rfl
 |Attribute o x p=>exact k5 _ (nTg (nTb fun _=>nTs rfl)) fun _ _=>rfl
 |Subscript o i p=>exact k5 _ nT_sub fun _ _=>rfl
 |BinOp l op r p=>exact k5 _ (nTb fun _=>nTb fun _=>nTs rfl) fun _ _=>rfl
 |List es p=>exact k5 _ (nTb fun _=>nTs rfl) fun _ _=>rfl
 |Tuple es x p=>exact k5 _ (nTb fun _=>nTs rfl) fun _ _=>rfl
 |ListComp elt gens scope p=>exact k5 _ (nTb fun _=>nTs rfl) fun _ _=>rfl
 |Dict ks es p=>exact k5 _ nT_dict fun _ _=>rfl
 |Call f args kws p=>exact k5 _ nT_call fun _ _=>rfl
 |_=>exact k5 _ nTn fun _ _=>rfl
theorem q_T {k:Nat}{e:Expr}{rx:RX}(hc:cvE k c e=some rx)(h:stepT (mach (nrm c) n) rx K m σ):TS c.w c.K fn c.d m e σ Q:=by
 cases k with
 |zero=>cases hc
 |succ k =>
 have l0:n≤n:=Nat.le_refl n
 refine exT (c:=c) (k:=k) (P:=fun e=>cvE (k+1) c e=some rx→TS c.w c.K fn c.d m e σ Q) e (fun op x p hc=>?_) (fun l ops rs p hc=>?_) (fun op vs p hc=>?_) (fun a b d e hc=>tB3 hc h fun _ _ _ _ _ _ h=>h.elim) (fun e n1 n2 hc=>plain ih C q n2 hc (tst_ok h (n1 _ hc))) hc
 ·cases op with
  |Not=>exact tB1 hc h fun x' h1 h=>ts_not (tL ih C l0 h1 h fun b σ' j hj h₁=>q _ _ j hj h₁)
  |USub=>exact tB1 hc h fun x' h1 h=>h.elim
  |_=>cases hc
 ·refine cmp_inv hc (fun o r a b e1 e2 hb h1 h2 er=>?_) fun o₁ o₂ r₁ r₂ a b d e1 e2 hb h1 h2 h3 er=>?_
  ·subst er;subst e1;subst e2
   exact ts_compare1 (q_cmp ih C h1 h2 h fun a b t σ₂ j hj o h₂=>⟨_,o,q _ _ j hj h₂⟩) hb
  ·subst er;subst e1;subst e2
   exact ts_chain2 (q_chain ih C h1 h2 h3 h q) hb
 ·refine gO hc fun hlen hc=>?_
  rcases vs with _ | ⟨x,_ | ⟨y,r⟩⟩
  ·cases hc
  ·cases hlen
  ·cases op with
   |And=>exact tB2 hc h fun a b h1 h2 h=>ts_and (tL ih C l0 h1 h fun v σ' j hj h₁=>⟨fun e=>q_boolT ih C q hj h2 (h₁.1 e),fun e=>q _ _ j hj (h₁.2 e)⟩)
   |Or=>exact tB2 hc h fun a b h1 h2 h=>ts_or (tL ih C l0 h1 h fun v σ' j hj h₁=>⟨fun e=>q _ _ j hj (h₁.1 e),fun e=>q_boolT ih C q hj h2 (h₁.2 e)⟩)
end
end E
end NN
end
section
open PySem PySem.W PySem.Calls PyProof.Rows
namespace NN
theorem nO' {o:Option Nat}{f:Nat→Prop}{G:Prop}(h:match o with | some v=>f v | none=>False)(k:∀ v,o=some v→f v→G):G:=by
 cases o with
 |none=>exact h.elim
 |some v=>exact k v rfl h
variable {rs:List RS}{fn:FnS}{c:Cx}{m:Mp}{σ:St}{n:Nat}{K:List Fr}
section E
variable (ih:∀ j,j≤n→Gd (nrm c) j)(C:CxOK fn c)
section
variable {Q:Mp→St→Prop}(q:∀ m σ j,j≤n→(mach (nrm c) j).F K .next m σ→Q m σ)
include ih C q
theorem q_A {k:Nat}{t:Expr}{rt:RT}{v:V}(hc:cvT k c t=some rt)(h:stepA (mach (nrm c) n) rt v K m σ):AS c.w c.K fn c.d t v m σ Q:=by
 cases k with
 |zero=>cases hc
 |succ k =>
 have key:∀ {P:Expr→Prop},(∀ x p,P (.Name x p))→(∀ a b d,P (.Tuple a b d))→(∀ e,cvT (k+1) c e=none→P e)→P t:=by
  intro P h1 h2 h3
  cases t with
  |Name x p=>exact h1 _ _
  |Tuple a b d=>exact h2 _ _ _
  |_=>exact h3 _ rfl
 refine key (P:=fun t=>cvT (k+1) c t=some rt→AS c.w c.K fn c.d t v m σ Q) (fun x p hc=>?_) (fun ts k' p hc=>?_) (fun e e' hc=>by rw [e'] at hc;cases hc) hc
 ·clear key
  refine gO hc fun hb hc=>?_
  refine bO hc fun y h1 hc=>?_
  obtain ⟨i,kd⟩:=y
  refine gO hc fun hl hc=>?_
  cases hc
  rw [←C.ns] at h1
  refine xAoAoo (idxE_has C.n0 h1) fun _ _ hp=>?_
  refine xEAoo (hp (eq_of_beq hl) h) fun m₁ P h₁=>?_
  exact as_name (C.comp.trans ((Bool.not_eq_true' _).mp hb)) C.nd rfl P (q _ _ n (Nat.le_refl n) h₁)
 ·clear key
  rcases ts with _ | ⟨a,_ | ⟨b,_ | ⟨b',ts⟩⟩⟩
  ·cases hc
  ·cases hc
  ·refine gO hc fun hst hc=>?_
   refine bO hc fun a' h1 hc=>?_
   refine bO hc fun b' h2 hc=>?_
   cases hc
   rw [Bool.and_eq_true] at hst
   cases v with
   |tup vs =>
    rcases vs with _ | ⟨x,_ | ⟨y,_ | ⟨z,vs⟩⟩⟩
    ·exact h.elim
    ·exact h.elim
    ·exact as_tuple2 (aL ih C (Nat.le_refl n) h1 h fun m₁ σ₁ j hj h₁=>aK ih C hj h2 h₁ q) fun env=>by rw [asEach hst.1,asEach hst.2];rfl
    ·exact h.elim
   |_=>exact h.elim
  ·cases hc
end
include ih C
theorem q_L {k:Nat}{es:List Expr}{rs:List RX}{done:List V}{f:Fi}{Q:List V→St→Prop}(hc:cvAll (cvE k c) es=some rs)(h:stepL (mach (nrm c) n) (nrm c) rs done f K m σ)
  (q:∀ vs σ' j,j≤n→finL (nrm c) f (done.reverse++vs) σ' (fun v σ''=>(mach (nrm c) j).V K v m σ'')→Q vs σ'):EVs c.w c.K fn c.d m es σ Q:=by
 cases es with
 |nil=>cases hc;exact evs_nil (q _ _ n (Nat.le_refl n) (by rw [List.append_nil];exact h))
 |cons e es =>
  refine gO hc fun h1 hc=>?_
  refine bO hc fun r h2 hc=>?_
  refine bO hc fun rs h3 hc=>?_
  cases hc
  refine evs_cons (eL ih C (Nat.le_refl n) h2 h fun v σ₁ j hj h₁=>lK ih C hj h3 h₁ fun vs σ₂ i hi h₂=>q _ _ i hi ?_) fun env=>star_cons h1
  rw [List.reverse_cons,List.append_assoc] at h₂
  exact h₂
variable {Q:Fl→Mp→St→Prop}(q:∀ f m σ j,j≤n→(mach (nrm c) j).F K f m σ→Q f m σ)
include q
theorem q_seq {k:Nat}{rest:List Stmt}{rs:List RS}(hr:cvS k c rest=some rs){f:Fl}{j:Nat}(hj:j≤n)(h:(mach (nrm c) j).F (.seq rs::K) f m σ):onw c.w c.K fn c.d rest Q f m σ:=by
 cases j with
 |zero=>exact h.elim
 |succ j =>
 have hj:=Nat.le_of_succ_le hj
 cases f with
 |next=>exact sK ih C hj hr h q
 |_=>exact q _ _ _ j hj h
variable {go:Fl→Mp→St→Prop}(g:∀ {f m σ j},j≤n→(mach (nrm c) j).F (.seq rs::K) f m σ→go f m σ)
omit q
include g
theorem q_name1 {x:PySem.Str}{p pos:Pos}{value:Expr}{s:RS}(hc:cvName1 c x p value=some s)(h:stepS (mach (nrm c) n) (s::rs) K m σ) :
  E1 c.w c.K fn c.d (.Assign [.Name x p] value pos) m σ go:=by
 refine gO hc fun hb hc=>?_
 refine bO hc fun y h1 hc=>?_
 obtain ⟨i,kd⟩:=y
 have hb:fn.comp=false:=C.comp.trans ((Bool.not_eq_true' _).mp hb)
 rw [←C.ns] at h1
 refine xAoAoo (idxE_has C.n0 h1) fun hm _ hp=>?_
 cases hco:compO value with
 |some t =>
  obtain ⟨elt,gens,scope,lpos⟩:=t
  rw [hco] at hc
  have er1:=compO_eq hco
  subst er1
  refine gO hc fun hg hc=>?_
  refine sB1 hc h fun t h2 h=>?_
  rw [Bool.and_eq_true,Bool.and_eq_true] at hg
  refine xAAooo hg fun e1 e2 e3=>?_
  have er1:kd=.local:=eq_of_beq e1
  subst er1
  refine xEEEEAoAoAoAoAoAoAoo (q_comp ih C h2 (K:=.seq rs::K) (f:=.cmpA i t.1 t.2.1) (QE:=fun ys σ' a=>∃ m₁,Put fn.sc.names m x (.own a) m₁∧go .next m₁ ((a,.lst ys)::σ')) h fun j v σ' hj h=>cmpM.up h fun ys σ a h=>let ⟨m₁,P,h6⟩:=hp rfl h;⟨m₁,P,g hj h6⟩) fun y iter q clC er1 hns a1 a2 a3 a4 a5 a6=>?_
  subst er1
  exact e1_assign_listcomp hb C.nd a1 a2 a3 a4 a5 hm C.kind (Nat.eq_of_beq_eq_true e2) ((Bool.not_eq_true' _).mp e3) a6 fun env x=>noSet_ok hns env x
 |none =>
  rw [hco] at hc
  refine gO hc fun hg hc=>?_
  refine bO hc fun e' h2 hc=>?_
  cases kd with
  |«local» =>
   cases hc
   refine e1_assign hb C.nd rfl (eL ih C (Nat.le_refl n) h2 h fun v σ' j hj h₁=>?_) fun env=>noComp_ok hg _ _ env
   cases j with
   |zero=>exact h₁.elim
   |succ j=>exact let ⟨m₁,P,h₃⟩:=hp rfl (show setM m i v _ from h₁);⟨m₁,P,g (Nat.le_of_succ_le hj) h₃⟩
  |cell =>
   refine bO hc fun a hl hc=>?_
   cases hc
   rw [←C.cl] at hl
   exact e1_assign_cell C.nd hm (lk_use C.cl0 hl) (eL ih C (Nat.le_refl n) h2 h fun v σ' j hj ⟨u,σ'',h3,h4⟩=>⟨u,σ'',h3.out,g hj h4⟩) fun env=>noComp_ok hg _ _ env
  |_=>cases hc
theorem q_asg {t value:Expr}{pos:Pos}{s:RS}(hc:cvAsg c t value=some s)(h:stepS (mach (nrm c) n) (s::rs) K m σ) :
  E1 c.w c.K fn c.d (.Assign [t] value pos) m σ go:=by
 have l0:n≤n:=Nat.le_refl n
 have key:∀ {P:Expr→Prop},(∀ x p,P (.Name x p))→(∀ a b d,P (.Tuple a b d))→(∀ a b d,P (.Attribute a b d))→(∀ a b d,P (.Subscript a b d))→(∀ e,cvAsg c e value=none→P e)→P t:=by
  intro P h1 h2 h3 h4 h5
  cases t with
  |Name x p=>exact h1 _ _
  |Tuple a b d=>exact h2 _ _ _
  |Attribute a b d=>exact h3 _ _ _
  |Subscript a b d=>exact h4 _ _ _
  |_=>exact h5 _ rfl
 refine key (P:=fun t=>cvAsg c t value=some s→E1 c.w c.K fn c.d (.Assign [t] value pos) m σ go) (fun x p hc=>q_name1 ih C g hc h) (fun ts k' p hc=>?_) (fun o x p hc=>?_) (fun o i p hc=>?_) (fun e e' hc=>by rw [e'] at hc;cases hc) hc
 ·clear key
  rcases ts with _ | ⟨a,_ | ⟨b,_ | ⟨b',ts⟩⟩⟩
  ·cases hc
  ·cases hc
  ·refine gO hc fun hg hc=>?_
   refine sB2 hc h fun e' t' h1 h2 h=>?_
   rw [Bool.and_eq_true,Bool.not_eq_true'] at hg
   refine e1_assign_tuple (eL ih C l0 h1 h fun v σ' j hj h₁=>aK ih C hj h2 h₁ fun m₁ σ₁ i hi h₂=>g hi h₂) (fun env=>?_) (fun env=>noTup_ok hg.2 env)
   unfold swapsWithSole
   exact noComp_ok hg.1 _ _ env
  ·cases hc
 ·clear key
  refine gO hc fun hg hc=>?_
  refine sB2 hc h fun e' o' h1 h2 h=>?_
  refine e1_setattr (eL ih C l0 h1 h fun v σ₁ j hj h₁=>eL ih C hj h2 h₁ fun ov σ₂ i hi h₂=>?_) fun env=>noComp_ok hg _ _ env
  cases ov with
  |own a =>
   refine xEEAoo h₂ fun Cl vs hm h₂=>?_
   refine nO' h₂ fun i' hx h₂=>?_
   refine xAoAoo (C.T.fld _ _ _ hx) fun f1 f2 f3=>?_
   refine xEAoo (stV_use f3 h₂) fun vs' hs h₃=>?_
   refine xEo h₃ fun σ₃ h₃=>?_
   exact ⟨_,Cl,_,vs,vs',σ₃,rfl,h₃.1.out,hs,f2,(C.T.nsl Cl).2,g hi h₃.2⟩
  |_=>exact h₂.elim
 ·clear key
  refine gO hc fun hg hc=>?_
  refine sB3 hc h fun e' o' i' h1 h2 h3 h=>?_
  refine e1_setitem (eL ih C l0 h1 h fun v σ₁ j hj h₁=>eL ih C hj h2 h₁ fun ov σ₂ j' hj' h₂=>eL ih C hj' h3 h₂ fun iv σ₃ j'' hj'' h₃=>?_) fun env=>noComp_ok hg _ _ env
  cases ov with
  |own a=>cases iv with
   |int q =>
    refine xEEEo h₃ fun vs r σ₄ h₃=>?_
    have g1:=h₃.1.out
    exact ⟨_,vs,_,r,σ₄,rfl,rfl,g1.1,g1.2.1,g1.2.2.1,g1.2.2.2,h₃.2.1.out,g hj'' h₃.2.2⟩
   |_=>exact h₃.elim
  |_=>exact h₃.elim
end E
end NN
end
section
open PySem PySem.W PySem.Calls PyProof.Rows
namespace NN
variable {fn:FnS}{c:Cx}{m:Mp}{σ:St}{n:Nat}{K:List Fr}
section E
variable (ih:∀ j,j≤n→Gd (nrm c) j)(C:CxOK fn c)
noncomputable def cv1 (n:Nat)(c:Cx)(s:Stmt):Option RS:=match s with
 |.Return e _=>(match e with
  |some e=>(cvE 60 c e).bind fun e=>some (.ret e)
  |none=>none)
 |.Expr e _=>guardO (isCall e) ((cvE 60 c e).bind fun e=>some (.expr e))
 |.Assign ts value _=>(match ts with
  |[t]=>cvAsg c t value
  |_=>none)
 |.If t a b _=>(cvE 60 c t).bind fun t=>(cvS n c a).bind fun a=>(cvS n c b).bind fun b=>some (.ifs t a b)
 |.While t b orelse _=>(match orelse with
  |[]=>(cvE 60 c t).bind fun t=>(cvS n c b).bind fun b=>some (.whl t b)
  |_::_=>none)
 |.For t it b orelse _=>(match orelse with
  |[]=>guardO (noSet it) ((cvT 9 c t).bind fun t=>(cvE 60 c it).bind fun it=>(cvS n c b).bind fun b=>some (.fors t it b))
  |_::_=>none)
 |.Try b hs orelse fin _=>(match hs,orelse,fin with
  |_::_,[],[]=>(cvS n c b).bind fun b=>some (.tr b)
  |_,_,_=>none)
 |.Raise _ _ _=>some .bad
 |_=>none
include ih C
theorem q_1 {k:Nat}{st:Stmt}{s:RS}{rs:List RS}{go:Fl→Mp→St→Prop}(hs:cv1 k c st=some s)(h:stepS (mach (nrm c) n) (s::rs) K m σ)
  (g:∀ {f m σ j},j≤n→(mach (nrm c) j).F (.seq rs::K) f m σ→go f m σ):E1 c.w c.K fn c.d st m σ go:=by
 have l0:n≤n:=Nat.le_refl n
 have blk:∀ {x:List Stmt} {x':List RS} {m:Mp} {σ:St} {j:Nat},j≤n→cvS k c x=some x'→(mach (nrm c) j).S x' (.seq rs::K) m σ→EX c.w c.K fn c.d x m σ go:=fun hj hx h =>
  sK ih C hj hx h fun f m σ i hi h=>g hi h
 cases st with
 |Return e p =>
  cases e with
  |none=>cases hs
  |some e=>exact sB1 hs h fun e' h1 h=>e1_return (eL ih C l0 h1 h fun v σ' j hj h₁=>g hj h₁)
 |Expr e p =>
  refine gO hs fun hg hs=>?_
  refine sB1 hs h fun e' h1 h=>?_
  refine e1_expr (eL ih C l0 h1 h fun v σ' j hj h₁=>⟨(cnd h₁).1,g hj (cnd h₁).2⟩) C.kind fun env hk=>⟨by unfold interactive;rw [hk];rfl,?_⟩
  have key:∀ {P:Expr→Prop},(∀ a b d e,P (.Call a b d e))→(∀ e,isCall e=false→P e)→P e:=by
   intro P k1 k2
   clear hg hs h1 h
   cases e with
   |Call f a k p=>exact k1 _ _ _ _
   |_=>exact k2 _ rfl
  exact key (P:=fun e=>isCall e=true→swapsWith e none p.line env=pure false) (fun _ _ _ _ _=>rfl) (fun e he hg=>by rw [he] at hg;cases hg) hg
 |Assign ts value p =>
  rcases ts with _ | ⟨t,_ | ⟨t',ts⟩⟩
  ·cases hs
  ·exact q_asg ih C g hs h
  ·cases hs
 |If t a b p=>exact sB3 hs h fun t' a' b' h1 h2 h3 h=>e1_if (tL ih C l0 h1 h fun b σ' j hj h₁=>⟨fun e=>blk hj h2 (h₁.1 e),fun e=>blk hj h3 (h₁.2 e)⟩)
 |While t b orelse p =>
  cases orelse with
  |cons a b=>cases hs
  |nil =>
   refine sB2 hs h fun t' b' h1 h2 h=>?_
   obtain ⟨I,N,⟨h0⟩,hstep⟩:=h
   refine e1_while I N h0 fun N m σ hI=>tL ih C l0 h1 (hstep N m σ hI) fun b σ' j hj h₁=>⟨fun e=>sL ih C hj h2 (h₁.1 e) fun f m₂ σ₂ i hi h₂=>?_,fun e=>g hj (h₁.2 e)⟩
   cases f with
   |next=>exact h₂
   |cont=>exact h₂
   |brk=>exact g hi h₂
   |ret v=>exact g hi h₂
 |For t it b orelse p =>
  cases orelse with
  |cons a b=>cases hs
  |nil =>
   refine gO hs fun hg hs=>?_
   refine sB3 hs h fun t' it' b' h1 h2 h3 h=>?_
   refine e1_for (eL ih C l0 h2 h fun v σ₁ j hj ⟨vs,⟨hsr⟩,I,⟨h0⟩,hstep,hend⟩=>⟨vs,srcV_ok hsr,loop_of (I:=I) (fun i v m σ hv hI=>aL ih C hj h1 (hstep i v m σ hv hI) fun m₁ σ₁ j' hj' h₃=>sL ih C hj' h3 h₃ fun f m₂ σ₂ i' hi' h₄=>?_) (fun m σ hI=>g hj (hend m σ hI)) vs 0 m σ₁ rfl (Nat.zero_add _) h0⟩) (fun env x=>noSet_ok hg env x) (cvT_tgt h1)
   cases f with
   |next=>exact h₄
   |cont=>exact h₄
   |brk=>exact g hi' h₄
   |ret v=>exact g hi' h₄
 |Try b hs' orelse fin p =>
  cases hs' with
  |nil=>cases hs
  |cons a as=>cases orelse with
   |cons a b=>cases hs
   |nil=>cases fin with
    |cons a b=>cases hs
    |nil=>exact sB1 hs h fun b' h1 h=>e1_try (blk l0 h1 h)
 |Raise a b p=>cases hs;exact h.elim
 |_=>cases hs
theorem q_S {k:Nat}{b:List Stmt}{rs:List RS}{Q:Fl→Mp→St→Prop}(hc:cvS k c b=some rs)(h:stepS (mach (nrm c) n) rs K m σ)(q:∀ f m σ j,j≤n→(mach (nrm c) j).F K f m σ→Q f m σ):EX c.w c.K fn c.d b m σ Q:=by
 cases k with
 |zero=>cases hc
 |succ k =>
 cases b with
 |nil=>cases hc;exact ex_nil (q _ _ _ n (Nat.le_refl n) h)
 |cons st rest =>
  refine bO (o:=cv1 k c st) hc fun s hs hc=>?_
  refine bO hc fun rs hr hc=>?_
  cases hc
  exact ex_cons (q_1 ih C hs h fun hj h=>q_seq ih C q hr hj h)
end E
theorem gdN {c₀:Cx}:∀ N n,n≤N→Gd c₀ n:=by
 intro N
 induction N with
 |zero =>
  intro n hn
  have e:=Nat.le_zero.mp hn
  subst e
  exact ⟨fun _ _ _ _ _ _ _ _ _ _ h=>h.elim,fun _ _ _ _ _ _ _ _ _ _ h=>h.elim,fun _ _ _ _ _ _ _ _ _ _ _ h=>h.elim,fun _ _ _ _ _ _ _ _ _ _ _ _ h=>h.elim,fun _ _ _ _ _ _ _ _ _ _ h=>h.elim⟩
 |succ N ihN =>
  intro n hn
  cases n with
  |zero=>exact ihN 0 (Nat.zero_le _)
  |succ n =>
   have ih:∀ j,j≤n→Gd c₀ j:=fun j hj=>ihN j (by lia)
   exact ⟨fun C hc _ _ _ _ _ _ _ h1 h2 q=>by subst hc;exact q_E ih C (fun v σ j hj h=>q v σ j (Nat.lt_succ_of_le hj) h) h1 h2,
    fun C hc _ _ _ _ _ _ _ h1 h2 q=>by subst hc;exact q_T ih C (fun v σ j hj h=>q v σ j (Nat.lt_succ_of_le hj) h) h1 h2,
    fun C hc _ _ _ _ _ _ _ _ h1 h2 q=>by subst hc;exact q_A ih C (fun v σ j hj h=>q v σ j (Nat.lt_succ_of_le hj) h) h1 h2,
    fun C hc _ _ _ _ _ _ _ _ _ h1 h2 q=>by subst hc;exact q_L ih C h1 h2 (fun v σ j hj h=>q v σ j (Nat.lt_succ_of_le hj) h),
    fun C hc _ _ _ _ _ _ _ h1 h2 q=>by subst hc;exact q_S ih C h1 h2 (fun f m σ j hj h=>q f m σ j (Nat.lt_succ_of_le hj) h)⟩
theorem gd {c₀:Cx}(n:Nat):Gd c₀ n:=gdN n n (Nat.le_refl _)
theorem walk {k:Nat}(C:CxOK fn c){b:List Stmt}{rs:List RS}{Q:Fl→Mp→St→Prop}(hc:cvS k c b=some rs)(h:(mach (nrm c) n).S rs [.fin Q] m σ):EX c.w c.K fn c.d b m σ Q :=
 sL (fun j _=>gd j) C (Nat.le_refl n) hc h fun f m σ j _ h=>h
end NN
end
section
open PySem PySem.W PySem.Calls PyProof.Rows NN
namespace Hd
variable {w:World}{d:Nat}{σ:NN.St}
noncomputable def sob (s:PySem.Stmt)(q:String)(cd dV pm:PySem.Value)(od an:Option Addr):Obj :=
 ⟨.type "function",od,.func (fnOf (sN s) (S q) (sA s) (sub s) (sS s) dV .none .none pm an cd .none),#[]⟩
noncomputable abbrev sfn (s:PySem.Stmt)(q:String)(a:Addr)(cd:PySem.Value):FnS:=⟨S q,sS s,a,cd,false,[]⟩
noncomputable abbrev sps (s:PySem.Stmt):List PySem.Str:=(sA s).args.map (·.arg)
noncomputable def chkD (s:PySem.Stmt)(ns:NmsE)(np:Nat):Bool :=
 (sS s).kind == .function && !(sS s).isCoroutine && !(sS s).isGenerator && ((sS s).names.all fun p=>p.2 != .cell) && Nat.beq np (sps s).length &&
 ((sS s).names.take np == (sps s).map fun x=>(x,NameKind.local)) && (encN (sS s).names == ns) && (ns.all fun p=>!Nat.beq p.1 0 && !Nat.beq p.1 (enc (S "__debug__"))) && decide ((ns.map (·.1)).Nodup)
noncomputable def mp0:NmsE→List V→Mp
 |[],_=>[]
 |_::ns,v::vs=>some v::mp0 ns vs
 |_::ns,[]=>none::mp0 ns []
theorem mp0_eq:∀ {ns:NmsE} {vs:List V},vs.length≤ns.length→mp0 ns vs=vs.map some++List.replicate (ns.length - vs.length) none
 |[],[],_=>rfl
 |[],_::_,h=>absurd h (by simp)
 |_::ns,[],_=>by
  unfold mp0
  rw [mp0_eq (Nat.zero_le _)]
  simp [List.replicate_succ]
 |_::ns,v::vs,h=>by
  unfold mp0
  rw [mp0_eq (by simpa using h)]
  simp
theorem chk_out {s:PySem.Stmt}{ns:NmsE}{np:Nat}(h:chkD s ns np=true):(sS s).kind=.function∧(sS s).isCoroutine=false∧(sS s).isGenerator=false∧(∀ p∈(sS s).names,p.2≠.cell)∧np=(sps s).length ∧
  (sS s).names.take np=(sps s).map (fun x=>(x,NameKind.local))∧encN (sS s).names=ns∧(∀ p∈(sS s).names,enc p.1≠0∧notDebug p.1)∧((sS s).names.map (·.1)).Nodup:=by
 unfold chkD at h
 simp only [Bool.and_eq_true] at h
 refine xAAAAAAAAooooooooo h fun h1 h2 h3 h4 h5 h6 h7 h8 h9=>?_
 have e7:encN (sS s).names=ns:=eq_of_beq h7
 refine ⟨by simpa using h1,by simpa using h2,by simpa using h3,fun p hp=>by simpa using List.all_eq_true.mp h4 p hp,Nat.eq_of_beq_eq_true h5,eq_of_beq h6,e7,fun p hp=>?_,?_⟩
 ·have:=List.all_eq_true.mp h8 (enc p.1,p.2) (by rw [←e7];exact List.mem_map.mpr ⟨p,hp,rfl⟩)
  rw [Bool.and_eq_true,Bool.not_eq_true',Bool.not_eq_true'] at this
  refine ⟨fun e=>?_,?_⟩
  ·rw [e] at this;exact absurd this.1 (by show ¬ Nat.beq 0 0=false;decide)
  ·refine beq_eq_false_iff_ne.mpr fun e=>?_
   rw [e] at this
   exact absurd (Nat.beq_refl (enc (S "__debug__"))) (by rw [show Nat.beq (enc (S "__debug__")) (enc (S "__debug__"))=false from this.2];decide)
 ·have ndE:=of_decide_eq_true h9
  rw [←e7] at ndE
  have e:(encN (sS s).names).map (·.1)=((sS s).names.map (·.1)).map enc:=by unfold encN;rw [List.map_map,List.map_map];rfl
  rw [e] at ndE
  exact (List.pairwise_map.mp ndE).imp fun h e=>h (by rw [e])
noncomputable def tx (l:List Nat):PySem.Str:=⟨l.toArray⟩
noncomputable def ctx (w:World)(T:Tb)(d:Nat)(ns:NmsE):Cx:=⟨w,fr w.params,T,d,ns,[],false⟩
noncomputable def cx0 (w:World)(T:Tb)(d:Nat):Cx:=⟨w,fr w.params,T,d,[],[],false⟩
noncomputable def BK (Q:V→NN.St→Prop)(f:Fl)(_:Mp)(σ:NN.St):Prop:=NN.Back Q (retv f) σ
noncomputable def RUN (w:World)(T:Tb)(d:Nat)(ns:NmsE)(rs:List RS)(vs:List V)(σ:NN.St)(Q:V→NN.St→Prop):Prop:=(mach (cx0 w T d) 2000).S rs [.fin (BK Q)] (mp0 ns vs) σ
noncomputable def hb1 (K:Frag)(s:PySem.Stmt)(q:String)(cd dV pm:PySem.Value)(an:Option Addr)(rs:List PySem.Value):=fun S'=>peek K S' (bindArgs (fnOf (sN s) (S q) (sA s) (sub s) (sS s) dV .none .none pm an cd .none) ⟨rs,[]⟩)
noncomputable def hb2 (s:PySem.Stmt)(rs rd:List PySem.Value):=some ((sps s).zip (rs++rd))
noncomputable def hc1 (w:World)(T:Tb)(d:Nat)(s:PySem.Stmt)(q:String)(a:Addr)(cd:PySem.Value)(ns:NmsE)(np:Nat):=((fr w.params).lookup a,codeIn (fr w.params) cd (S q),chkD s ns np,cvS 60 (ctx w T d ns) (sub s))
noncomputable def hc2 (s:PySem.Stmt)(q:String)(cd dV pm:PySem.Value)(od an:Option Addr)(rs:List RS):=(some (sob s q cd dV pm od an),true,true,some rs)
theorem go1 {T:Tb}(s:PySem.Stmt)(q:String){a:Addr}(cd dV pm:PySem.Value)(od an:Option Addr){ns:NmsE}(np:Nat){vs:List V}(dfl:List V)(rd:List PySem.Value){rs:List RS}{Q:V→NN.St→Prop}
  (hc:hc1 w T d s q a cd ns np=hc2 s q cd dV pm od an rs) (TK:TbOK w (fr w.params) T) (hrd:VRs [] dfl rd) (hl:vs.length+dfl.length=np)
  (hb:∀ (rs:List PySem.Value),rs.length=vs.length→∀ S',hb1 (fr w.params) s q cd dV pm an rs S'=hb2 s rs rd)
  (h:RUN w T d ns rs (vs++dfl) σ Q):CALL w (fr w.params) (d+1) (.ref a) vs σ Q:=by
 refine xAoAoAoAoAoAoAoAoo (chk_out (congrArg (fun p=>p.2.2.1) hc)) fun c1 c2 c3 c4 c5 c6 c7 c8 c9=>?_
 have hnames:(sS s).names=(sps s).map (fun x=>(x,NameKind.local))++(sS s).names.drop np:=by rw [←c6,List.take_append_drop]
 have hD:DefIn (fr w.params) (sfn s q a cd) (sub s) (sps s) dfl ((sS s).names.drop np) :=
  ⟨⟨_,_,_,_,_,_,_,_,_,_,_,rd,congrArg (fun p=>p.1) hc,hrd,fun s' rs hK hl'=>kp_binds hK (hb rs (by lia))⟩,congrArg (fun p=>p.2.1) hc,hnames,c9,c1,rfl,rfl,c2,c3,c4⟩
 have hlen:(vs++dfl).length=np:=by rw [List.length_append];exact hl
 have hns:ns.length=(sS s).names.length:=by rw [←c7];simp [encN]
 have hle:np≤(sS s).names.length:=by
  have:=congrArg List.length c6
  rw [List.length_take,List.length_map,←c5] at this
  lia
 refine call_def (fn:=sfn s q a cd) hD (by lia) ?_
 have e:mp0 ns (vs++dfl)=(vs++dfl).map some++List.replicate ((sS s).names.drop np).length none:=by
  rw [mp0_eq (by lia),hlen,hns,List.length_drop]
 unfold RUN at h
 rw [e] at h
 exact walk (fn:=sfn s q a cd) (c:=ctx w T d ns) ⟨c7,c9,fun p hp=>(c8 p hp).1,fun p hp=>(c8 p hp).2,c1,rfl,rfl,(fun p hp=>by cases hp),TK⟩ (congrArg (fun p=>p.2.2.2) hc) h
noncomputable abbrev encT {α:Type}(l:List (PySem.Str×α)):List (Nat×α):=l.map fun p=>(enc p.1,p.2)
theorem lkT_use {α:Type}{x:PySem.Str}{v:α}:∀ {l:List (PySem.Str×α)},(∀ p∈l,enc p.1≠0)→lk (encT l) (enc x)=some v→(x,v)∈l
 |[],_,h=>by cases h
 |(y,b)::r,h0,h=>by
  rw [encT,List.map_cons] at h
  unfold lk at h
  cases e:Nat.beq (enc y) (enc x) with
  |true =>
   rw [e] at h
   have:y=x:=enc_inj (Nat.eq_of_beq_eq_true e) (h0 _ (.head _))
   subst this
   cases h;exact .head _
  |false =>
   rw [e] at h
   exact .tail _ (lkT_use (fun p hp=>h0 p (.tail _ hp)) h)
noncomputable abbrev encT2 {α:Type}(l:List (Nat×List (PySem.Str×α))):List (Nat×List (Nat×α)):=l.map fun p=>(p.1,encT p.2)
noncomputable def lk2 {α:Type}(l:List (Nat×List (Nat×α)))(C:Addr):List (Nat×α):=match lk l C with
 |some r=>r
 |none=>[]
theorem lkN_use {α:Type}{n:Nat}{v:α}:∀ {l:List (Nat×α)},lk l n=some v→(n,v)∈l
 |[],h=>by cases h
 |(a,b)::r,h=>by
  unfold lk at h
  cases e:Nat.beq a n with
  |true=>rw [e] at h;cases h;rw [Nat.eq_of_beq_eq_true e];exact .head _
  |false=>rw [e] at h;exact .tail _ (lkN_use h)
theorem lk2_use {α:Type}{C:Addr}{x:PySem.Str}{v:α}{l:List (Nat×List (PySem.Str×α))}(h0:∀ q∈l,∀ p∈q.2,enc p.1≠0)(h:lk (lk2 (encT2 l) C) (enc x)=some v):∃ r,(C,r)∈l∧(x,v)∈r:=by
 unfold lk2 at h
 cases e:lk (encT2 l) C with
 |none=>rw [e] at h;cases h
 |some r =>
  rw [e] at h
  obtain ⟨⟨C',r'⟩,hm,he⟩:=List.mem_map.mp (lkN_use e)
  cases he
  exact ⟨r',hm,lkT_use (h0 _ hm) h⟩
theorem sh0 {rs:List PySem.Value}(h:rs.length=0):∃ _:Unit,rs=[]:=⟨(),List.eq_nil_of_length_eq_zero h⟩
theorem sh1 {rs:List PySem.Value}(h:rs.length=1):∃ a,rs=[a]:=List.length_eq_one_iff.mp h
theorem sh2 {rs:List PySem.Value}(h:rs.length=2):∃ a b,rs=[a,b]:=by
 rcases rs with _ | ⟨a,_ | ⟨b,_ | ⟨_,_⟩⟩⟩<;>simp at h;exact ⟨a,b,rfl⟩
theorem sh3 {rs:List PySem.Value}(h:rs.length=3):∃ a b c,rs=[a,b,c]:=by
 rcases rs with _ | ⟨a,_ | ⟨b,_ | ⟨c,_ | ⟨_,_⟩⟩⟩⟩<;>simp at h;exact ⟨a,b,c,rfl⟩
theorem sh4 {rs:List PySem.Value}(h:rs.length=4):∃ a b c d,rs=[a,b,c,d]:=by
 rcases rs with _ | ⟨a,_ | ⟨b,_ | ⟨c,_ | ⟨d,_ | ⟨_,_⟩⟩⟩⟩⟩<;>simp at h;exact ⟨a,b,c,d,rfl⟩
theorem sh5 {rs:List PySem.Value}(h:rs.length=5):∃ a b c d e,rs=[a,b,c,d,e]:=by
 rcases rs with _ | ⟨a,_ | ⟨b,_ | ⟨c,_ | ⟨d,_ | ⟨e,_ | ⟨_,_⟩⟩⟩⟩⟩⟩<;>simp at h;exact ⟨a,b,c,d,e,rfl⟩
theorem bn0 {P:List PySem.Value→Prop}(k:P [])(rs:List PySem.Value)(h:rs.length=0):P rs:=by obtain ⟨_,rfl⟩:=sh0 h;exact k
theorem bn1 {P:List PySem.Value→Prop}(k:∀ a,P [a])(rs:List PySem.Value)(h:rs.length=1):P rs:=by obtain ⟨a,rfl⟩:=sh1 h;exact k _
theorem bn2 {P:List PySem.Value→Prop}(k:∀ a b,P [a,b])(rs:List PySem.Value)(h:rs.length=2):P rs:=by obtain ⟨a,b,rfl⟩:=sh2 h;exact k _ _
theorem bn3 {P:List PySem.Value→Prop}(k:∀ a b c,P [a,b,c])(rs:List PySem.Value)(h:rs.length=3):P rs:=by obtain ⟨a,b,c,rfl⟩:=sh3 h;exact k _ _ _
theorem bn4 {P:List PySem.Value→Prop}(k:∀ a b c d,P [a,b,c,d])(rs:List PySem.Value)(h:rs.length=4):P rs:=by obtain ⟨a,b,c,d,rfl⟩:=sh4 h;exact k _ _ _ _
theorem bn5 {P:List PySem.Value→Prop}(k:∀ a b c d e,P [a,b,c,d,e])(rs:List PySem.Value)(h:rs.length=5):P rs:=by obtain ⟨a,b,c,d,e,rfl⟩:=sh5 h;exact k _ _ _ _ _
end Hd
end
section
open PySem PySem.W PySem.Calls PyProof.Rows NN
namespace Hd
noncomputable abbrev glN:List (PySem.Str×V):=[
 (S "FIGURES",(.str (S "0123456789"))),
 (S "NAME_SIGNS",(.str (S "abcdefghijklmnopqrstuvwxyzABCDEFGHIJKLMNOPQRSTUVWXYZ_0123456789"))),
 (S "HEX_SIGNS",(.str (S "0123456789abcdefABCDEF"))),
 (S "OCTAL_SIGNS",(.str (S "01234567"))),
 (S "PLAIN_ESCAPES",(.glob 22)),
 (S "RegexError",(.glob 95)),
 (S "Cursor",(.glob 222)),
 (S "hex_escape",(.glob 233)),
 (S "escaped_sign",(.glob 240)),
 (S "TOP",(.int 127)),
 (S "HEX",(.str (S "0123456789abcdef"))),
 (S "BRACKET_SIGNS",(.str (S "\\][^-"))),
 (S "CharSet",(.glob 442)),
 (S "show_code",(.glob 453)),
 (S "told",(.glob 460)),
 (S "MOST_REPEAT",(.int 40)),
 (S "MOST_NESTED",(.int 20)),
 (S "BLANKS",(.str (S " \t\n"))),
 (S "STRAY_SIGNS",(.str (S "*+?]}^$/ \t\n"))),
 (S "NEWLINE",(.str (S "\n"))),
 (S "Empty",(.glob 505)),
 (S "Never",(.glob 517)),
 (S "Chars",(.glob 543)),
 (S "Cat",(.glob 588)),
 (S "Alt",(.glob 600)),
 (S "Loop",(.glob 633)),
 (S "Star",(.glob 645)),
 (S "Plus",(.glob 657)),
 (S "Opt",(.glob 669)),
 (S "Repeat",(.glob 695)),
 (S "spine",(.glob 704)),
 (S "cat_all",(.glob 711)),
 (S "chars_node",(.glob 718)),
 (S "Pattern",(.glob 756)),
 (S "line_end",(.glob 767)),
 (S "is_figure",(.glob 774)),
 (S "RegexReader",(.glob 901)),
 (S "read_regex",(.glob 913)),
 (S "read_pattern",(.glob 921)),
 (S "MARKS",(.str (S "\"[](){}.*+?|^$/<%"))),
 (S "LOOSE",(.int 0)),
 (S "ROW",(.int 1)),
 (S "TIGHT",(.int 2)),
 (S "show_sign",(.glob 928)),
 (S "show_chars",(.glob 935)),
 (S "show_count",(.glob 942)),
 (S "show_at",(.glob 947)),
 (S "show_regex",(.glob 954)),
 (S "show_pattern",(.glob 961)),
 (S "_law_pen",(.glob 966)),
 (S "_law_draw",(.glob 973)),
 (S "_law_leaf",(.glob 978)),
 (S "_law_loop",(.glob 985)),
 (S "_law_tree",(.glob 992)),
 (S "_law_node",(.glob 999)),
 (S "_law_pairs",(.glob 1006)),
 (S "_law_heard",(.glob 1013)),
 (S "_law_sign",(.glob 1020)),
 (S "_law_few_told",(.glob 1027)),
 (S "_law_pattern_told",(.glob 1034))]
noncomputable def glE:List (Nat×V):=[(930380826928326,(.str (S "0123456789"))),(1951792285492909924558,(.str (S "abcdefghijklmnopqrstuvwxyzABCDEFGHIJKLMNOPQRSTUVWXYZ_0123456789"))),(15248377230413669064,(.str (S "0123456789abcdefABCDEF"))),(249829412543094324535759,(.str (S "01234567"))),(4091855603936894456056276560,(.glob 22)),(2240119105932305756882,(.glob 95)),(8345096075971,(.glob 222)),(2120277692502761157352,(.glob 233)),(36088120865079846254475749,(.glob 240)),(3418068,(.int 127)),(3547848,(.str (S "0123456789abcdef"))),(4093205095106092732588779842,(.str (S "\\][^-"))),(1076616203105347,(.glob 442)),(16557975640557220979,(.glob 453)),(479934452,(.glob 460)),(250889960090780034197453,(.int 40)),(232038470200071862675405,(.int 20)),(7270202107458,(.str (S " \t\n"))),(249829412543097814166099,(.str (S "*+?]}^$/ \t\n"))),(869114978886350,(.str (S "\n"))),(67085547205,(.glob 505)),(65175139022,(.glob 517)),(65470493763,(.glob 543)),(4010179,(.glob 588)),(4011585,(.glob 600)),(505149388,(.glob 633)),(509114963,(.glob 645)),(511538768,(.glob 657)),(4012111,(.glob 669)),(8410028061394,(.glob 695)),(61704140915,(.glob 704)),(1041676067746019,(.glob 711)),(2119420930368768341091,(.glob 718)),(1050679436980432,(.glob 756)),(128839870544852204,(.glob 767)),(16565883468271581673,(.glob 774)),(286641993601937764381394,(.glob 901)),(2294732514128437998322,(.glob 913)),(36101070563286312679928562,(.glob 921)),(56798519501,(.str (S "\"[](){}.*+?|^$/<%"))),(53057152972,(.int 0)),(3532754,(.int 1)),(57060484308,(.int 2)),(17208156998235583603,(.glob 928)),(2249549037645720188019,(.glob 935)),(2258495469091817256051,(.glob 942)),(1076481996092531,(.glob 947)),(2294732514128478073971,(.glob 954)),(36101070563286312720004211,(.glob 961)),(134430165655123551,(.glob 966)),(17853336711878702687,(.glob 973)),(16628300713507190367,(.glob 978)),(17356801933699479135,(.glob 985)),(16558552368765498975,(.glob 992)),(16557976018514114143,(.glob 999)),(2249553510905698350687,(.glob 1006)),(2111198444070557480543,(.glob 1013)),(17208156998235354719,(.glob 1020)),(4426614011012930842199094879,(.glob 1027)),(1188260150580900410954329670928594527,(.glob 1034))]
noncomputable abbrev biN:List (PySem.Str×BI):=[(S "len",.len),(S "ord",.ord),(S "chr",.chr),(S "abs",.abs),(S "int",.int),(S "min",.min),(S "max",.max),(S "range",.range),(S "str",.str),(S "tuple",.tuple),(S "sorted",.sorted)]
noncomputable def biE:List (Nat×BI):=[(3912428,.len),(3750255,.ord),(3978339,.chr),(3993953,.abs),(4011881,.int),(3912941,.min),(4075757,.max),(61689540850,.range),(3979891,.str),(61700061940,.tuple),(7861377480691,.sorted)]
theorem alls {α β:Type}{f g:α→β}:∀ {l:List α},l.map f=l.foldr (fun a r=>g a::r) []→∀ a∈l,f a=g a:=fun {l}=>by
 induction l with
 |nil=>exact fun _ _ h=>nomatch h
 |cons b l ih =>
  intro e
  have e':=List.cons.inj (show f b::l.map f=g b::l.foldr (fun a r=>g a::r) [] from e)
  exact List.forall_mem_cons.mpr ⟨e'.1,ih e'.2⟩
noncomputable abbrev flT {α:Type}(l:List (Nat×List (PySem.Str×α))):List (Nat×PySem.Str×α):=l.flatMap fun q=>q.2.map fun p=>(q.1,p)
theorem lkT_u {α:Type}{x:PySem.Str}{v:α}{l:List (PySem.Str×α)}{lE:List (Nat×α)}(h0:(l.all fun p=>decide (enc p.1≠0))=true)(he:encT l=lE)(h:lk lE (enc x)=some v):(x,v)∈l :=
 lkT_use (fun p hp=>of_decide_eq_true (List.all_eq_true.mp h0 p hp)) (he▸h)
theorem lk2_u {α:Type}{C:Addr}{x:PySem.Str}{v:α}{l:List (Nat×List (PySem.Str×α))}{lE:List (Nat×List (Nat×α))}(h0:(l.all fun q=>q.2.all fun p=>decide (enc p.1≠0))=true)(he:encT2 l=lE)(h:lk (lk2 lE C) (enc x)=some v):(C,x,v)∈flT l:=by
 obtain ⟨r,h1,h2⟩:=lk2_use (fun q hq p hp=>of_decide_eq_true (List.all_eq_true.mp (List.all_eq_true.mp h0 q hq) p hp)) (he▸h)
 exact List.mem_flatMap.mpr ⟨_,h1,List.mem_map.mpr ⟨_,h2,rfl⟩⟩
noncomputable def tkO (o:Option (Option PySem.Value)):Tok:=match o with
 |some (some (.str _ t))=>t
 |some (some (.int _ t))=>t
 |_=>0
noncomputable def cv (v:V)(t:Tok):Option PySem.Value:=match v with
 |.int i=>some (.int i t)
 |.str s=>some (.str s t)
 |.glob a=>some (.ref a)
 |_=>none
theorem cv_s {v:V}{t:Tok}(h:(cv v t).isSome=true):∃ a,cv v t=some a∧VR [] v a:=by
 cases v<;>first | exact ⟨_,rfl,by constructor⟩ | cases h
noncomputable abbrev glV (P:Params)(p:PySem.Str×V):=cv p.2 (tkO (nsIn (fr P) mainGlobals p.1))
noncomputable abbrev cV (P:Params)(p:Nat×PySem.Str×V):=cv p.2.2 (tkO (findIn (fr P) (.ref p.1) p.2.1))
noncomputable abbrev nslL:List (Nat×List PySem.Str):=[
 (222,[S "text",S "at"]),
 (442,[S "spans"]),
 (543,[S "charset"]),
 (588,[S "left",S "right"]),
 (600,[S "left",S "right"]),
 (645,[S "body"]),
 (657,[S "body"]),
 (669,[S "body"]),
 (695,[S "body",S "low",S "high"]),
 (756,[S "body",S "begins",S "trail"]),
 (901,[S "cursor",S "definitions",S "is_pattern",S "depth"])]
noncomputable def nslF (C:Addr):List PySem.Str:=match lk nslL C with | some l=>l | none=>[]
noncomputable abbrev mN:List (Nat×List (PySem.Str×Addr)):=[
 (222,[(S "is_done",119),(S "peek",127),(S "starts",134),(S "take",141),(S "skip",148),(S "take_while",155),(S "name",177),(S "coded",205),(S "escape",212)]),
 (442,[(S "size",362),(S "least",376),(S "is_empty",383),(S "complement",404),(S "same",418),(S "key",439)]),
 (505,[(S "told",488)]),
 (517,[(S "told",488)]),
 (543,[(S "told",540)]),
 (588,[(S "told",573)]),
 (600,[(S "told",573)]),
 (645,[(S "told",630)]),
 (657,[(S "told",630)]),
 (669,[(S "told",630)]),
 (695,[(S "told",692)]),
 (756,[(S "is_line_end",746),(S "told",753)]),
 (901,[(S "is_over",802),(S "is_stop",809),(S "choice",816),(S "branch",823),(S "looped",830),(S "counted",837),(S "count",844),(S "single",851),(S "code_of",858),(S "defined",870),(S "sign_class",877),(S "span",891),(S "member",898)])]
noncomputable def mE:List (Nat×List (Nat×Addr)):=[
 (222,[(1010962229885417,119),(494498544,127),(8380795615859,134),(482013428,141),(505050611,148),(2119993987852310081780,155),(482046190,177),(61416749027,205),(7898649917925,212)]),
 (442,[(482260211,362),(65741026028,376),(140688589560740329,383),(2258486453168663918563,404),(482046195,418),(4092651,439)]),
 (505,[(479934452,488)]),
 (517,[(479934452,488)]),
 (543,[(479934452,540)]),
 (588,[(479934452,573)]),
 (600,[(479934452,573)]),
 (645,[(479934452,630)]),
 (657,[(479934452,630)]),
 (669,[(479934452,630)]),
 (695,[(479934452,692)]),
 (756,[(270196792192877890894313,746),(479934452,753)]),
 (901,[(1067829499001321,802),(1059376474880489,809),(7895177229411,816),(7998266702178,823),(7861369042924,830),(1006256309237731,837),(65730869219,844),(7897588937971,851),(1015390343346147,858),(1006254687892196,870),(2249621112831925155059,877),(500725875,891),(8342375985901,898)])]
noncomputable abbrev sN_:List (Nat×List (PySem.Str×Addr)):=[
 (442,[(S "none",297),(S "dot",317),(S "of",325),(S "span",335),(S "made",345)]),
 (633,[(S "__init__",616)])]
noncomputable def sE:List (Nat×List (Nat×Addr)):=[
 (442,[(482064366,297),(4012004,317),(29551,325),(500725875,335),(481898733,345)]),
 (633,[(125959668179300319,616)])]
noncomputable abbrev cN:List (Nat×List (PySem.Str×V)):=[
 (505,[(S "name",(.str (S "empty")))]),
 (517,[(S "name",(.str (S "never")))]),
 (543,[(S "name",(.str (S "chars")))]),
 (588,[(S "name",(.str (S "cat")))]),
 (600,[(S "name",(.str (S "alt")))]),
 (645,[(S "name",(.str (S "star")))]),
 (657,[(S "name",(.str (S "plus")))]),
 (669,[(S "name",(.str (S "opt")))]),
 (695,[(S "name",(.str (S "repeat")))])]
noncomputable def cE_:List (Nat×List (Nat×V)):=[
 (505,[(482046190,(.str (tx [101,109,112,116,121])))]),
 (517,[(482046190,(.str (tx [110,101,118,101,114])))]),
 (543,[(482046190,(.str (tx [99,104,97,114,115])))]),
 (588,[(482046190,(.str (tx [99,97,116])))]),
 (600,[(482046190,(.str (tx [97,108,116])))]),
 (645,[(482046190,(.str (tx [115,116,97,114])))]),
 (657,[(482046190,(.str (tx [112,108,117,115])))]),
 (669,[(482046190,(.str (tx [111,112,116])))]),
 (695,[(482046190,(.str (tx [114,101,112,101,97,116])))])]
noncomputable abbrev fN:List (Nat×List (PySem.Str×Nat)):=[
 (222,[(S "text",0),(S "at",1)]),
 (442,[(S "spans",0)]),
 (543,[(S "charset",0)]),
 (588,[(S "left",0),(S "right",1)]),
 (600,[(S "left",0),(S "right",1)]),
 (645,[(S "body",0)]),
 (657,[(S "body",0)]),
 (669,[(S "body",0)]),
 (695,[(S "body",0),(S "low",1),(S "high",2)]),
 (756,[(S "body",0),(S "begins",1),(S "trail",2)]),
 (901,[(S "cursor",0),(S "definitions",1),(S "is_pattern",2),(S "depth",3)])]
noncomputable def fE:List (Nat×List (Nat×Nat)):=[
 (222,[(513684212,0),(31329,1)]),
 (442,[(65462106227,0)]),
 (543,[(1076624793039971,0)]),
 (588,[(513389292,0),(65718056178,1)]),
 (600,[(513389292,0),(65718056178,1)]),
 (645,[(523843554,0)]),
 (657,[(523843554,0)]),
 (669,[(523843554,0)]),
 (695,[(523843554,0),(4061164,1),(488240360,2)]),
 (756,[(523843554,0),(8379166225122,1),(63572572532,2)]),
 (901,[(8345096076003,0),(287906392774879208911588,1),(2203434482622455609833,2),(62522143460,3)])]
theorem stP (P:Params):∀ q∈sN_,∀ p∈q.2,StatIn (fr P) q.1 p.1 p.2:=by
 simp only [List.forall_mem_cons (α:=_×List _)]
 exact ⟨
 (by simp only [List.forall_mem_cons];exact ⟨⟨⟨.type "type",by kernel_rfl,by kernel_rfl,.inr ⟨299,[(.bool false)],by kernel_rfl,by kernel_rfl⟩⟩,by kernel_rfl,by kernel_rfl⟩,⟨⟨.type "type",by kernel_rfl,by kernel_rfl,.inr ⟨319,[(.bool false)],by kernel_rfl,by kernel_rfl⟩⟩,by kernel_rfl,by kernel_rfl⟩,⟨⟨.type "type",by kernel_rfl,by kernel_rfl,.inr ⟨327,[(.bool false)],by kernel_rfl,by kernel_rfl⟩⟩,by kernel_rfl,by kernel_rfl⟩,⟨⟨.type "type",by kernel_rfl,by kernel_rfl,.inr ⟨337,[(.bool false)],by kernel_rfl,by kernel_rfl⟩⟩,by kernel_rfl,by kernel_rfl⟩,⟨⟨.type "type",by kernel_rfl,by kernel_rfl,.inr ⟨347,[(.bool false)],by kernel_rfl,by kernel_rfl⟩⟩,by kernel_rfl,by kernel_rfl⟩,fun _ h=>nomatch h⟩),
 (by simp only [List.forall_mem_cons];exact ⟨⟨⟨.type "type",by kernel_rfl,by kernel_rfl,.inl (by kernel_rfl)⟩,by kernel_rfl,by kernel_rfl⟩,fun _ h=>nomatch h⟩),
 fun _ h=>nomatch h⟩
theorem K_Cursor (P:Params):makesIn (fr P) 222=true:=by kernel_rfl
theorem I_Cursor (P:Params):findIn (fr P) (.ref 222) (S "__init__")=some (some (.ref 112)):=by kernel_rfl
theorem J_Cursor (P:Params):typeIn (fr P) (.ref 112)=some (.type "function"):=by kernel_rfl
theorem K_CharSet (P:Params):makesIn (fr P) 442=true:=by kernel_rfl
theorem I_CharSet (P:Params):findIn (fr P) (.ref 442) (S "__init__")=some (some (.ref 290)):=by kernel_rfl
theorem J_CharSet (P:Params):typeIn (fr P) (.ref 290)=some (.type "function"):=by kernel_rfl
theorem K_Empty (P:Params):makesIn (fr P) 505=true:=by kernel_rfl
theorem I_Empty (P:Params):findIn (fr P) (.ref 505) (S "__init__")=some (some (.builtin "object.__init__")):=by kernel_rfl
theorem K_Never (P:Params):makesIn (fr P) 517=true:=by kernel_rfl
theorem I_Never (P:Params):findIn (fr P) (.ref 517) (S "__init__")=some (some (.builtin "object.__init__")):=by kernel_rfl
theorem K_Chars (P:Params):makesIn (fr P) 543=true:=by kernel_rfl
theorem I_Chars (P:Params):findIn (fr P) (.ref 543) (S "__init__")=some (some (.ref 533)):=by kernel_rfl
theorem J_Chars (P:Params):typeIn (fr P) (.ref 533)=some (.type "function"):=by kernel_rfl
theorem K_Cat (P:Params):makesIn (fr P) 588=true:=by kernel_rfl
theorem I_Cat (P:Params):findIn (fr P) (.ref 588) (S "__init__")=some (some (.ref 559)):=by kernel_rfl
theorem J_Cat (P:Params):typeIn (fr P) (.ref 559)=some (.type "function"):=by kernel_rfl
theorem K_Alt (P:Params):makesIn (fr P) 600=true:=by kernel_rfl
theorem I_Alt (P:Params):findIn (fr P) (.ref 600) (S "__init__")=some (some (.ref 559)):=by kernel_rfl
theorem J_Alt (P:Params):typeIn (fr P) (.ref 559)=some (.type "function"):=by kernel_rfl
theorem K_Star (P:Params):makesIn (fr P) 645=true:=by kernel_rfl
theorem I_Star (P:Params):findIn (fr P) (.ref 645) (S "__init__")=some (some (.ref 616)):=by kernel_rfl
theorem J_Star (P:Params):typeIn (fr P) (.ref 616)=some (.type "function"):=by kernel_rfl
theorem K_Plus (P:Params):makesIn (fr P) 657=true:=by kernel_rfl
theorem I_Plus (P:Params):findIn (fr P) (.ref 657) (S "__init__")=some (some (.ref 616)):=by kernel_rfl
theorem J_Plus (P:Params):typeIn (fr P) (.ref 616)=some (.type "function"):=by kernel_rfl
theorem K_Opt (P:Params):makesIn (fr P) 669=true:=by kernel_rfl
theorem I_Opt (P:Params):findIn (fr P) (.ref 669) (S "__init__")=some (some (.ref 616)):=by kernel_rfl
theorem J_Opt (P:Params):typeIn (fr P) (.ref 616)=some (.type "function"):=by kernel_rfl
theorem K_Repeat (P:Params):makesIn (fr P) 695=true:=by kernel_rfl
theorem I_Repeat (P:Params):findIn (fr P) (.ref 695) (S "__init__")=some (some (.ref 685)):=by kernel_rfl
theorem J_Repeat (P:Params):typeIn (fr P) (.ref 685)=some (.type "function"):=by kernel_rfl
theorem K_Pattern (P:Params):makesIn (fr P) 756=true:=by kernel_rfl
theorem I_Pattern (P:Params):findIn (fr P) (.ref 756) (S "__init__")=some (some (.ref 732)):=by kernel_rfl
theorem J_Pattern (P:Params):typeIn (fr P) (.ref 732)=some (.type "function"):=by kernel_rfl
theorem K_RegexReader (P:Params):makesIn (fr P) 901=true:=by kernel_rfl
theorem I_RegexReader (P:Params):findIn (fr P) (.ref 901) (S "__init__")=some (some (.ref 788)):=by kernel_rfl
theorem J_RegexReader (P:Params):typeIn (fr P) (.ref 788)=some (.type "function"):=by kernel_rfl
noncomputable def kpE:List (Nat×Unit):=[(1034,()),(1027,()),(1020,()),(1013,()),(1006,()),(999,()),(992,()),(985,()),(978,()),(973,()),(966,()),(961,()),(954,()),(947,()),(942,()),(935,()),(928,()),(921,()),(913,()),(901,()),(774,()),(767,()),(756,()),(718,()),(711,()),(704,()),(695,()),(669,()),(657,()),(645,()),(633,()),(600,()),(588,()),(543,()),(517,()),(505,()),(460,()),(453,()),(442,()),(240,()),(233,()),(222,()),(95,())]
noncomputable abbrev lmN:List (PySem.Str×LM):=[(S "append",.append),(S "pop",.pop),(S "reverse",.reverse),(S "join",.join),(S "index",.index)]
noncomputable def lmE:List (Nat×LM):=[(7863761909857,.append),(3946480,.pop),(1011134836355826,.reverse),(500856810,.join),(66785458025,.index)]
noncomputable abbrev gdE:List (Nat×List PySem.Str×List V):=[(22,[S "n",S "t",S "r",S "f",S "v",S "a",S "b"],[.int 10,.int 9,.int 13,.int 12,.int 11,.int 7,.int 8])]
noncomputable def tb:Tb:=⟨glE,biE,nslF,lk2 fE,lk2 cE_,lk2 mE,lk2 sE,lmE,gdE,kpE⟩
theorem gdP (w:World):GDct w (fr w.params) 22 [S "n",S "t",S "r",S "f",S "v",S "a",S "b"] [.int 10,.int 9,.int 13,.int 12,.int 11,.int 7,.int 8] :=
 ⟨⟨o12 w.params,[.int 10 215,.int 9 217,.int 13 219,.int 12 221,.int 11 223,.int 7 225,.int 8 227],by kernel_rfl,by decide,
  ⟨_,_,⟨rfl,rfl,rfl⟩,rfl,fun e he=>by
   simp only [List.mem_toArray,Array.mem_def,List.mem_cons,List.not_mem_nil,or_false] at he
   rcases he with rfl | rfl | rfl | rfl | rfl | rfl | rfl<;>exact ⟨_,PySem.strKind_is _ w _ _,rfl⟩,
   .cons (PySem.strKind_is _ w _ _) rfl (.cons (PySem.strKind_is _ w _ _) rfl (.cons (PySem.strKind_is _ w _ _) rfl (.cons (PySem.strKind_is _ w _ _) rfl (.cons (PySem.strKind_is _ w _ _) rfl (.cons (PySem.strKind_is _ w _ _) rfl (.cons (PySem.strKind_is _ w _ _) rfl .nil)))))),by decide +kernel⟩,
  .cons (.int _ _) (.cons (.int _ _) (.cons (.int _ _) (.cons (.int _ _) (.cons (.int _ _) (.cons (.int _ _) (.cons (.int _ _) .nil))))))⟩⟩
theorem tb_ok (w:World):TbOK w (fr w.params) tb where
 gl x v h:=by
  have m:=lkT_u (l:=glN) (by kernel_rfl) (by kernel_rfl) h
  obtain ⟨a,e,r⟩:=cv_s (alls (l:=glN) (f:=fun p=>(glV w.params p).isSome) (g:=fun p=>true) (by kernel_rfl) _ m)
  exact ⟨alls (l:=glN) (f:=fun p=>p.1 == ("__debug__" : PySem.Str)) (g:=fun p=>false) (by kernel_rfl) _ m,a,(alls (l:=glN) (f:=fun p=>nsIn (fr w.params) mainGlobals p.1) (g:=fun p=>(glV w.params p).map some) (by kernel_rfl) _ m).trans (congrArg (Option.map some) e),r⟩
 bi x v h:=by
  have m:=lkT_u (l:=biN) (by kernel_rfl) (by kernel_rfl) h
  exact ⟨alls (l:=biN) (f:=fun p=>p.1 == ("__debug__" : PySem.Str)) (g:=fun p=>false) (by kernel_rfl) _ m,alls (l:=biN) (f:=fun p=>nsIn (fr w.params) mainGlobals p.1) (g:=fun p=>some none) (by kernel_rfl) _ m,alls (l:=biN) (f:=fun p=>bootBuiltins p.1) (g:=fun p=>some (bval p.2)) (by kernel_rfl) _ m,of_decide_eq_false (alls (l:=biN) (f:=fun p=>decide (p.1=("__name__" : PySem.Str))) (g:=fun p=>false) (by kernel_rfl) _ m)⟩
 fld C x i h:=by
  have m:=lk2_u (l:=fN) (by kernel_rfl) (by kernel_rfl) h
  have hd:=alls (l:=flT fN) (f:=fun p=>hasDictIn (fr w.params) p.1) (g:=fun p=>true) (by kernel_rfl) _ m
  exact ⟨⟨alls (l:=flT fN) (f:=fun p=>plainGet (fr w.params) p.1 p.2.1) (g:=fun p=>true) (by kernel_rfl) _ m,hd,alls (l:=flT fN) (f:=fun p=>findIn (fr w.params) (.ref p.1) p.2.1) (g:=fun p=>some none) (by kernel_rfl) _ m⟩,⟨alls (l:=flT fN) (f:=fun p=>findIn (fr w.params) (.ref p.1) "__setattr__") (g:=fun p=>some (some (.builtin "object.__setattr__"))) (by kernel_rfl) _ m,alls (l:=flT fN) (f:=fun p=>plainOver (fr w.params) p.1) (g:=fun p=>true) (by kernel_rfl) _ m,alls (l:=flT fN) (f:=fun p=>takerIn (fr w.params) p.1 p.2.1) (g:=fun p=>some none) (by kernel_rfl) _ m,hd⟩,alls (l:=flT fN) (f:=fun p=>(nslF p.1)[p.2.2]?) (g:=fun p=>some p.2.1) (by kernel_rfl) _ m⟩
 nsl C:=by
  show (nslF C).Nodup∧(nslF C).length≤900
  unfold nslF
  cases e:lk nslL C with
  |none=>exact ⟨List.nodup_nil,Nat.zero_le _⟩
  |some l =>
   have:=List.all_eq_true.mp (show (nslL.all fun q=>decide (q.2.Nodup) && Nat.ble q.2.length 900)=true by kernel_rfl) _ (lkN_use e)
   rw [Bool.and_eq_true] at this
   exact ⟨of_decide_eq_true this.1,Nat.le_of_ble_eq_true this.2⟩
 cla C x v _ h:=by
  have m:=lk2_u (l:=cN) (by kernel_rfl) (by kernel_rfl) h
  obtain ⟨a,e,r⟩:=cv_s (alls (l:=flT cN) (f:=fun p=>(cV w.params p).isSome) (g:=fun p=>true) (by kernel_rfl) _ m)
  exact ⟨of_decide_eq_false (alls (l:=flT cN) (f:=fun p=>decide (p.2.1∈nslF p.1)) (g:=fun p=>false) (by kernel_rfl) _ m),a,⟨alls (l:=flT cN) (f:=fun p=>plainGet (fr w.params) p.1 p.2.1) (g:=fun p=>true) (by kernel_rfl) _ m,alls (l:=flT cN) (f:=fun p=>hasDictIn (fr w.params) p.1) (g:=fun p=>true) (by kernel_rfl) _ m,(alls (l:=flT cN) (f:=fun p=>findIn (fr w.params) (.ref p.1) p.2.1) (g:=fun p=>(cV w.params p).map some) (by kernel_rfl) _ m).trans (congrArg (Option.map some) e),
   Option.some.inj ((congrArg (Option.map fun a=>specialIn (fr w.params) a "__get__") e).symm.trans (alls (l:=flT cN) (f:=fun p=>(cV w.params p).map fun a=>specialIn (fr w.params) a "__get__") (g:=fun p=>some (some none)) (by kernel_rfl) _ m)),alls (l:=flT cN) (f:=fun p=>copiedNames.contains p.2.1) (g:=fun p=>false) (by kernel_rfl) _ m⟩,r⟩
 meth C x f h:=by
  have m:=lk2_u (l:=mN) (by kernel_rfl) (by kernel_rfl) h
  exact ⟨⟨alls (l:=flT mN) (f:=fun p=>plainGet (fr w.params) p.1 p.2.1) (g:=fun p=>true) (by kernel_rfl) _ m,alls (l:=flT mN) (f:=fun p=>findIn (fr w.params) (.ref p.1) p.2.1) (g:=fun p=>some (some (.ref p.2.2))) (by kernel_rfl) _ m,alls (l:=flT mN) (f:=fun p=>isFn (fr w.params) (.ref p.2.2)) (g:=fun p=>true) (by kernel_rfl) _ m,alls (l:=flT mN) (f:=fun p=>keepIn (fr w.params) (.ref p.2.2)) (g:=fun p=>true) (by kernel_rfl) _ m⟩,of_decide_eq_false (alls (l:=flT mN) (f:=fun p=>decide (p.2.1∈nslF p.1)) (g:=fun p=>false) (by kernel_rfl) _ m)⟩
 stat C x f h:=by
  obtain ⟨r,h1,h2⟩:=lk2_use (l:=sN_) (fun q hq p hp=>of_decide_eq_true (List.all_eq_true.mp (List.all_eq_true.mp (show (sN_.all fun q=>q.2.all fun p=>decide (enc p.1≠0))=true by kernel_rfl) q hq) p hp)) (by rw [show encT2 sN_=sE by kernel_rfl];exact h)
  exact stP _ _ h1 _ h2
 lm x b h:=by
  have:=lkT_u (l:=lmN) (by kernel_rfl) (by kernel_rfl) h
  simp only [List.mem_cons,Prod.mk.injEq,List.not_mem_nil,or_false] at this
  rcases this with ⟨rfl,rfl⟩ | ⟨rfl,rfl⟩ | ⟨rfl,rfl⟩ | ⟨rfl,rfl⟩ | ⟨rfl,rfl⟩
  ·exact ⟨F.plainAttrs_list,F.slot_list_append,F.type_list_append⟩
  ·exact ⟨F.plainAttrs_list,F.slot_list_pop,F.type_list_pop⟩
  ·exact ⟨F.plainAttrs_list,F.slot_list_reverse,F.type_list_reverse⟩
  ·exact ⟨F.plainAttrs_str,F.slot_str_join,F.type_str_join⟩
  ·exact ⟨F.plainAttrs_str,F.slot_str_index,F.type_str_index⟩
 gd g ks vs h:=by
  have:=lkN_use (l:=gdE) h
  simp only [List.mem_cons,Prod.mk.injEq,List.not_mem_nil,or_false] at this
  obtain ⟨rfl,rfl,rfl⟩:=this
  exact gdP w
 kp a h:=alls (l:=kpE) (f:=fun p=>keepIn (fr w.params) (.ref p.1)) (g:=fun p=>true) (by kernel_rfl) _ (lkN_use h)
end Hd
end
section
open PySem PySem.W PySem.Calls PyProof.Rows NN
namespace Hd
variable {w:World}{d:Nat}{σ:NN.St}{Q:V→NN.St→Prop}
noncomputable abbrev pm0:PySem.Value:=.str (S "grammarmill.source") 194
noncomputable abbrev pm1:PySem.Value:=.str (S "grammarmill.charset") 519
noncomputable abbrev pm2:PySem.Value:=.str (S "grammarmill.regex") 882
noncomputable abbrev pm3:PySem.Value:=.str (S "grammarmill.regtools") 1516
noncomputable abbrev pm4:PySem.Value:=.str (S "law_nn0413_01") 1569
noncomputable def e_Cursor___init__:NmsE:=[(484127475,.local),(513684212,.local),(31329,.local)]
noncomputable def r_Cursor___init__:List RS:=[.sat (.loc 0) 513684212 (.loc 1),.sat (.loc 0) 31329 (.loc 2)]
theorem O_Cursor___init__ {v0 v1 v2:V}(h:RUN w tb d e_Cursor___init__ r_Cursor___init__ [v0,v1,v2] σ Q):CALL w (fr w.params) (d+1) (.ref 112) [v0,v1,v2] σ Q :=
 go1 (sm 14 0) "Cursor.__init__" (.ref 111) (.ref 105) pm0 none none 3 [] [] (by kernel_rfl) (tb_ok w) .nil rfl (bn3 fun r0 r1 r2 S'=>by kernel_rfl) h
noncomputable def e_Cursor_is_done:NmsE:=[(484127475,.local),(3912428,.globalImplicit)]
noncomputable def r_Cursor_is_done:List RS:=[.ret (.cmp .GtE (.attr (.loc 0) 31329) (.bi .len [(.attr (.loc 0) 513684212)]))]
theorem O_Cursor_is_done {v0:V}(h:RUN w tb d e_Cursor_is_done r_Cursor_is_done [v0] σ Q):CALL w (fr w.params) (d+1) (.ref 119) [v0] σ Q :=
 go1 (sm 14 1) "Cursor.is_done" (.ref 118) .none pm0 none none 1 [] [] (by kernel_rfl) (tb_ok w) .nil rfl (bn1 fun r0 S'=>by kernel_rfl) h
noncomputable def e_Cursor_peek:NmsE:=[(484127475,.local),(61408375905,.local),(31329,.local),(3912428,.globalImplicit)]
noncomputable def r_Cursor_peek:List RS:=[.asg (.loc 2) (.bin .Add (.attr (.loc 0) 31329) (.loc 1)),.ifs (.cmp .Lt (.loc 2) (.bi .len [(.attr (.loc 0) 513684212)])) [.ret (.item (.attr (.loc 0) 513684212) (.loc 2))] [],.ret (.val (.str (tx [])))]
theorem O_Cursor_peek {v0 v1:V}(h:RUN w tb d e_Cursor_peek r_Cursor_peek [v0,v1] σ Q):CALL w (fr w.params) (d+1) (.ref 127) [v0,v1] σ Q :=
 go1 (sm 14 2) "Cursor.peek" (.ref 126) (.ref 120) pm0 none none 2 [] [] (by kernel_rfl) (tb_ok w) .nil rfl (bn2 fun r0 r1 S'=>by kernel_rfl) h
theorem O_Cursor_peek_1 {v0:V}(h:RUN w tb d e_Cursor_peek r_Cursor_peek [v0,(.int 0)] σ Q):CALL w (fr w.params) (d+1) (.ref 127) [v0] σ Q :=
 go1 (sm 14 2) "Cursor.peek" (.ref 126) (.ref 120) pm0 none none 2 [(.int 0)] [(.int 0 371)] (by kernel_rfl) (tb_ok w) (.cons (.int _ _) .nil) rfl (bn1 fun r0 S'=>by kernel_rfl) h
noncomputable def e_Cursor_starts:NmsE:=[(484127475,.local),(480032759,.local),(3912428,.globalImplicit)]
noncomputable def r_Cursor_starts:List RS:=[.ret (.cmp .Eq (.slc (.attr (.loc 0) 513684212) (some (.attr (.loc 0) 31329)) (some (.bin .Add (.attr (.loc 0) 31329) (.bi .len [.loc 1])))) (.loc 1))]
theorem O_Cursor_starts {v0 v1:V}(h:RUN w tb d e_Cursor_starts r_Cursor_starts [v0,v1] σ Q):CALL w (fr w.params) (d+1) (.ref 134) [v0,v1] σ Q :=
 go1 (sm 14 3) "Cursor.starts" (.ref 133) .none pm0 none none 2 [] [] (by kernel_rfl) (tb_ok w) .nil rfl (bn2 fun r0 r1 S'=>by kernel_rfl) h
noncomputable def e_Cursor_take:NmsE:=[(484127475,.local),(500823283,.local)]
noncomputable def r_Cursor_take:List RS:=[.ifs (.meth (.loc 0) 1010962229885417 []) [.ret (.val (.str (tx [])))] [],.asg (.loc 1) (.item (.attr (.loc 0) 513684212) (.attr (.loc 0) 31329)),.sat (.loc 0) 31329 (.bin .Add (.attr (.loc 0) 31329) (.val (.int 1))),.ret (.loc 1)]
theorem O_Cursor_take {v0:V}(h:RUN w tb d e_Cursor_take r_Cursor_take [v0] σ Q):CALL w (fr w.params) (d+1) (.ref 141) [v0] σ Q :=
 go1 (sm 14 4) "Cursor.take" (.ref 140) .none pm0 none none 1 [] [] (by kernel_rfl) (tb_ok w) .nil rfl (bn1 fun r0 S'=>by kernel_rfl) h
noncomputable def e_Cursor_skip:NmsE:=[(484127475,.local),(480032759,.local),(3912428,.globalImplicit)]
noncomputable def r_Cursor_skip:List RS:=[.ifs (.not (.meth (.loc 0) 8380795615859 [.loc 1])) [.ret (.val (.bool false))] [],.sat (.loc 0) 31329 (.bin .Add (.attr (.loc 0) 31329) (.bi .len [.loc 1])),.ret (.val (.bool true))]
theorem O_Cursor_skip {v0 v1:V}(h:RUN w tb d e_Cursor_skip r_Cursor_skip [v0,v1] σ Q):CALL w (fr w.params) (d+1) (.ref 148) [v0,v1] σ Q :=
 go1 (sm 14 5) "Cursor.skip" (.ref 147) .none pm0 none none 2 [] [] (by kernel_rfl) (tb_ok w) .nil rfl (bn2 fun r0 r1 S'=>by kernel_rfl) h
noncomputable def e_Cursor_take_while:NmsE:=[(484127475,.local),(65462203635,.local),(64134705890,.local),(3912428,.globalImplicit)]
noncomputable def r_Cursor_take_while:List RS:=[.asg (.loc 2) (.attr (.loc 0) 31329),.whl (.and (.cmp .Lt (.attr (.loc 0) 31329) (.bi .len [(.attr (.loc 0) 513684212)])) (.cmp .In (.item (.attr (.loc 0) 513684212) (.attr (.loc 0) 31329)) (.loc 1))) [.sat (.loc 0) 31329 (.bin .Add (.attr (.loc 0) 31329) (.val (.int 1)))],.ret (.slc (.attr (.loc 0) 513684212) (some (.loc 2)) (some (.attr (.loc 0) 31329)))]
theorem O_Cursor_take_while {v0 v1:V}(h:RUN w tb d e_Cursor_take_while r_Cursor_take_while [v0,v1] σ Q):CALL w (fr w.params) (d+1) (.ref 155) [v0,v1] σ Q :=
 go1 (sm 14 6) "Cursor.take_while" (.ref 154) .none pm0 none none 2 [] [] (by kernel_rfl) (tb_ok w) .nil rfl (bn2 fun r0 r1 S'=>by kernel_rfl) h
noncomputable def e_Cursor_name:NmsE:=[(484127475,.local),(482128616,.local),(1951792285492909924558,.globalImplicit),(930380826928326,.globalImplicit)]
noncomputable def r_Cursor_name:List RS:=[.asg (.loc 1) (.meth (.loc 0) 494498544 []),.ifs (.or (.cmp .Eq (.loc 1) (.val (.str (tx [])))) (.or (.cmp .NotIn (.loc 1) (.val (.str (tx [97,98,99,100,101,102,103,104,105,106,107,108,109,110,111,112,113,114,115,116,117,118,119,120,121,122,65,66,67,68,69,70,71,72,73,74,75,76,77,78,79,80,81,82,83,84,85,86,87,88,89,90,95,48,49,50,51,52,53,54,55,56,57])))) (.cmp .In (.loc 1) (.val (.str (tx [48,49,50,51,52,53,54,55,56,57])))))) [.ret (.val (.str (tx [])))] [],.ret (.meth (.loc 0) 2119993987852310081780 [(.val (.str (tx [97,98,99,100,101,102,103,104,105,106,107,108,109,110,111,112,113,114,115,116,117,118,119,120,121,122,65,66,67,68,69,70,71,72,73,74,75,76,77,78,79,80,81,82,83,84,85,86,87,88,89,90,95,48,49,50,51,52,53,54,55,56,57])))])]
theorem O_Cursor_name {v0:V}(h:RUN w tb d e_Cursor_name r_Cursor_name [v0] σ Q):CALL w (fr w.params) (d+1) (.ref 177) [v0] σ Q :=
 go1 (sm 14 9) "Cursor.name" (.ref 176) .none pm0 none none 1 [] [] (by kernel_rfl) (tb_ok w) .nil rfl (bn1 fun r0 S'=>by kernel_rfl) h
noncomputable def e_Cursor_coded:NmsE:=[(484127475,.local),(65462203635,.local),(513603565,.local),(482144482,.local),(481900515,.local),(64101216500,.local),(4011881,.globalImplicit),(3978339,.globalImplicit)]
noncomputable def r_Cursor_coded:List RS:=[.asg (.loc 4) (.val (.int 0)),.asg (.loc 5) (.val (.int 0)),.whl (.and (.cmp .Lt (.loc 5) (.loc 2)) (.and (.cmp .NotEq (.meth (.loc 0) 494498544 []) (.val (.str (tx [])))) (.cmp .In (.meth (.loc 0) 494498544 []) (.loc 1)))) [.asg (.loc 4) (.bin .Add (.bin .Mult (.loc 4) (.loc 3)) (.bi .int [(.meth (.loc 0) 482013428 []),(.val (.int 16))])),.asg (.loc 5) (.bin .Add (.loc 5) (.val (.int 1)))],.ret (.bi .chr [.loc 4])]
theorem O_Cursor_coded {v0 v1 v2 v3:V}(h:RUN w tb d e_Cursor_coded r_Cursor_coded [v0,v1,v2,v3] σ Q):CALL w (fr w.params) (d+1) (.ref 205) [v0,v1,v2,v3] σ Q :=
 go1 (sm 14 13) "Cursor.coded" (.ref 204) .none pm0 none none 4 [] [] (by kernel_rfl) (tb_ok w) .nil rfl (bn4 fun r0 r1 r2 r3 S'=>by kernel_rfl) h
noncomputable def e_Cursor_escape:NmsE:=[(484127475,.local),(500823283,.local),(4091855603936894456056276560,.globalImplicit),(3978339,.globalImplicit),(249829412543094324535759,.globalImplicit),(15248377230413669064,.globalImplicit)]
noncomputable def r_Cursor_escape:List RS:=[.asg (.loc 1) (.meth (.loc 0) 494498544 []),.ifs (.cmp .Eq (.loc 1) (.val (.str (tx [])))) [.ret (.val (.str (tx [])))] [],.ifs (.cmp .In (.loc 1) (.val (.glob 22))) [.expr (.meth (.loc 0) 482013428 []),.ret (.bi .chr [(.item (.val (.glob 22)) (.loc 1))])] [],.ifs (.cmp .In (.loc 1) (.val (.str (tx [48,49,50,51,52,53,54,55])))) [.ret (.meth (.loc 0) 61416749027 [(.val (.str (tx [48,49,50,51,52,53,54,55]))),(.val (.int 3)),(.val (.int 8))])] [],.ifs (.and (.cmp .Eq (.loc 1) (.val (.str (tx [120])))) (.and (.cmp .NotEq (.meth (.loc 0) 494498544 [(.val (.int 1))]) (.val (.str (tx [])))) (.cmp .In (.meth (.loc 0) 494498544 [(.val (.int 1))]) (.val (.str (tx [48,49,50,51,52,53,54,55,56,57,97,98,99,100,101,102,65,66,67,68,69,70])))))) [.expr (.meth (.loc 0) 482013428 []),.ret (.meth (.loc 0) 61416749027 [(.val (.str (tx [48,49,50,51,52,53,54,55,56,57,97,98,99,100,101,102,65,66,67,68,69,70]))),(.val (.int 2)),(.val (.int 16))])] [],.ret (.meth (.loc 0) 482013428 [])]
theorem O_Cursor_escape {v0:V}(h:RUN w tb d e_Cursor_escape r_Cursor_escape [v0] σ Q):CALL w (fr w.params) (d+1) (.ref 212) [v0] σ Q :=
 go1 (sm 14 14) "Cursor.escape" (.ref 211) .none pm0 none none 1 [] [] (by kernel_rfl) (tb_ok w) .nil rfl (bn1 fun r0 S'=>by kernel_rfl) h
noncomputable def e_hex_escape:NmsE:=[(481900515,.local),(1072226484483302,.local)]
noncomputable def r_hex_escape:List RS:=[.asg (.loc 1) (.val (.str (tx [48,49,50,51,52,53,54,55,56,57,97,98,99,100,101,102]))),.ret (.bin .Add (.bin .Add (.val (.str (tx [92,120]))) (.item (.loc 1) (.bin .FloorDiv (.loc 0) (.val (.int 16))))) (.item (.loc 1) (.bin .Mod (.loc 0) (.val (.int 16)))))]
theorem O_hex_escape {v0:V}(h:RUN w tb d e_hex_escape r_hex_escape [v0] σ Q):CALL w (fr w.params) (d+1) (.ref 233) [v0] σ Q :=
 go1 (st 15) "hex_escape" (.ref 232) .none pm0 none none 1 [] [] (by kernel_rfl) (tb_ok w) .nil rfl (bn1 fun r0 S'=>by kernel_rfl) h
noncomputable def e_escaped_sign:NmsE:=[(500823283,.local),(65456091373,.local),(481900515,.local),(3750255,.globalImplicit),(2120277692502761157352,.globalImplicit)]
noncomputable def r_escaped_sign:List RS:=[.ifs (.cmp .Eq (.loc 0) (.val (.str (tx [10])))) [.ret (.val (.str (tx [92,110])))] [],.ifs (.cmp .Eq (.loc 0) (.val (.str (tx [9])))) [.ret (.val (.str (tx [92,116])))] [],.ifs (.or (.cmp .In (.loc 0) (.loc 1)) (.cmp .Eq (.loc 0) (.val (.str (tx [92]))))) [.ret (.bin .Add (.val (.str (tx [92]))) (.loc 0))] [],.asg (.loc 2) (.bi .ord [.loc 0]),.ifs (.and (.or (.cmp .Lt (.loc 2) (.val (.int 32))) (.cmp .Gt (.loc 2) (.val (.int 126)))) (.cmp .Lt (.loc 2) (.val (.int 256)))) [.ret (.call 233 [.loc 2])] [],.ret (.loc 0)]
theorem O_escaped_sign {v0 v1:V}(h:RUN w tb d e_escaped_sign r_escaped_sign [v0,v1] σ Q):CALL w (fr w.params) (d+1) (.ref 240) [v0,v1] σ Q :=
 go1 (st 16) "escaped_sign" (.ref 239) .none pm0 none none 2 [] [] (by kernel_rfl) (tb_ok w) .nil rfl (bn2 fun r0 r1 S'=>by kernel_rfl) h
noncomputable def e_CharSet___init__:NmsE:=[(484127475,.local),(65462106227,.local)]
noncomputable def r_CharSet___init__:List RS:=[.sat (.loc 0) 65462106227 (.loc 1)]
theorem O_CharSet___init__ {v0 v1:V}(h:RUN w tb d e_CharSet___init__ r_CharSet___init__ [v0,v1] σ Q):CALL w (fr w.params) (d+1) (.ref 290) [v0,v1] σ Q :=
 go1 (sm 22 0) "CharSet.__init__" (.ref 289) .none pm1 none none 2 [] [] (by kernel_rfl) (tb_ok w) .nil rfl (bn2 fun r0 r1 S'=>by kernel_rfl) h
noncomputable def e_CharSet_none:NmsE:=[(1076616203105347,.globalImplicit)]
noncomputable def r_CharSet_none:List RS:=[.ret (.call 442 [(.tup [])])]
theorem O_CharSet_none (h:RUN w tb d e_CharSet_none r_CharSet_none [] σ Q):CALL w (fr w.params) (d+1) (.ref 297) [] σ Q :=
 go1 (sm 22 1) "CharSet.none" (.ref 296) .none pm1 none (some 300) 0 [] [] (by kernel_rfl) (tb_ok w) .nil rfl (bn0 fun S'=>by kernel_rfl) h
noncomputable def e_CharSet_dot:NmsE:=[(1076616203105347,.globalImplicit),(3418068,.globalImplicit)]
noncomputable def r_CharSet_dot:List RS:=[.ret (.call 442 [(.tup [(.tup [(.val (.int 0)),(.val (.int 9))]),(.tup [(.val (.int 11)),(.val (.int 127))])])])]
theorem O_CharSet_dot (h:RUN w tb d e_CharSet_dot r_CharSet_dot [] σ Q):CALL w (fr w.params) (d+1) (.ref 317) [] σ Q :=
 go1 (sm 22 3) "CharSet.dot" (.ref 316) .none pm1 none (some 320) 0 [] [] (by kernel_rfl) (tb_ok w) .nil rfl (bn0 fun S'=>by kernel_rfl) h
noncomputable def e_CharSet_of:NmsE:=[(513684212,.local),(1076616203105347,.globalImplicit)]
noncomputable def r_CharSet_of:List RS:=[.ret (.meth (.val (.glob 442)) 481898733 [(.comp (.tup [(.bi .ord [.loc 1]),(.bi .ord [.loc 1])]) [false,true,false] (.loc 0))])]
theorem O_CharSet_of {v0:V}(h:RUN w tb d e_CharSet_of r_CharSet_of [v0] σ Q):CALL w (fr w.params) (d+1) (.ref 325) [v0] σ Q :=
 go1 (sm 22 4) "CharSet.of" (.ref 324) .none pm1 none (some 328) 1 [] [] (by kernel_rfl) (tb_ok w) .nil rfl (bn1 fun r0 S'=>by kernel_rfl) h
noncomputable def e_CharSet_span:NmsE:=[(4061164,.local),(488240360,.local),(1076616203105347,.globalImplicit)]
noncomputable def r_CharSet_span:List RS:=[.ret (.meth (.val (.glob 442)) 481898733 [(.list [(.tup [.loc 0,.loc 1])])])]
theorem O_CharSet_span {v0 v1:V}(h:RUN w tb d e_CharSet_span r_CharSet_span [v0,v1] σ Q):CALL w (fr w.params) (d+1) (.ref 335) [v0,v1] σ Q :=
 go1 (sm 22 5) "CharSet.span" (.ref 334) .none pm1 none (some 338) 2 [] [] (by kernel_rfl) (tb_ok w) .nil rfl (bn2 fun r0 r1 S'=>by kernel_rfl) h
noncomputable def e_CharSet_made:NmsE:=[(65470623984,.local),(513553131,.local),(65741305062,.local),(513601772,.local),(4061164,.local),(488240360,.local),(65462106227,.local),(4075757,.globalImplicit),(3912941,.globalImplicit),(3418068,.globalImplicit),(7861377480691,.globalImplicit),(1076616203105347,.globalImplicit),(61700061940,.globalImplicit)]
noncomputable def r_CharSet_made:List RS:=[.asg (.loc 1) (.list []),.fors (.two (.loc 2) (.loc 3)) (.loc 0) [.asg (.loc 4) (.bi .max [.loc 2,(.val (.int 0))]),.asg (.loc 5) (.bi .min [.loc 3,(.val (.int 127))]),.ifs (.cmp .LtE (.loc 4) (.loc 5)) [.expr (.meth (.loc 1) 7863761909857 [(.tup [.loc 4,.loc 5])])] []],.asg (.loc 6) (.list []),.fors (.two (.loc 4) (.loc 5)) (.bi .sorted [.loc 1]) [.ifs (.and (.loc 6) (.cmp .LtE (.loc 4) (.bin .Add (.item (.item (.loc 6) (.neg (.val (.int 1)))) (.val (.int 1))) (.val (.int 1))))) [.ifs (.cmp .Gt (.loc 5) (.item (.item (.loc 6) (.neg (.val (.int 1)))) (.val (.int 1)))) [.sit (.loc 6) (.neg (.val (.int 1))) (.tup [(.item (.item (.loc 6) (.neg (.val (.int 1)))) (.val (.int 0))),.loc 5])] []] [.expr (.meth (.loc 6) 7863761909857 [(.tup [.loc 4,.loc 5])])]],.ret (.call 442 [(.bi .tuple [.loc 6])])]
theorem O_CharSet_made {v0:V}(h:RUN w tb d e_CharSet_made r_CharSet_made [v0] σ Q):CALL w (fr w.params) (d+1) (.ref 345) [v0] σ Q :=
 go1 (sm 22 6) "CharSet.made" (.ref 344) .none pm1 none (some 348) 1 [] [] (by kernel_rfl) (tb_ok w) .nil rfl (bn1 fun r0 S'=>by kernel_rfl) h
noncomputable def e_CharSet_size:NmsE:=[(484127475,.local),(63556106228,.local),(4061164,.local),(488240360,.local)]
noncomputable def r_CharSet_size:List RS:=[.asg (.loc 1) (.val (.int 0)),.fors (.two (.loc 2) (.loc 3)) (.attr (.loc 0) 65462106227) [.asg (.loc 1) (.bin .Add (.bin .Sub (.bin .Add (.loc 1) (.loc 3)) (.loc 2)) (.val (.int 1)))],.ret (.loc 1)]
theorem O_CharSet_size {v0:V}(h:RUN w tb d e_CharSet_size r_CharSet_size [v0] σ Q):CALL w (fr w.params) (d+1) (.ref 362) [v0] σ Q :=
 go1 (sm 22 8) "CharSet.size" (.ref 361) .none pm1 none none 1 [] [] (by kernel_rfl) (tb_ok w) .nil rfl (bn1 fun r0 S'=>by kernel_rfl) h
noncomputable def e_CharSet_least:NmsE:=[(484127475,.local)]
noncomputable def r_CharSet_least:List RS:=[.ifs (.not (.attr (.loc 0) 65462106227)) [.ret (.val .none)] [],.ret (.item (.item (.attr (.loc 0) 65462106227) (.val (.int 0))) (.val (.int 0)))]
theorem O_CharSet_least {v0:V}(h:RUN w tb d e_CharSet_least r_CharSet_least [v0] σ Q):CALL w (fr w.params) (d+1) (.ref 376) [v0] σ Q :=
 go1 (sm 22 10) "CharSet.least" (.ref 375) .none pm1 none none 1 [] [] (by kernel_rfl) (tb_ok w) .nil rfl (bn1 fun r0 S'=>by kernel_rfl) h
noncomputable def e_CharSet_is_empty:NmsE:=[(484127475,.local),(3912428,.globalImplicit)]
noncomputable def r_CharSet_is_empty:List RS:=[.ret (.cmp .Eq (.bi .len [(.attr (.loc 0) 65462106227)]) (.val (.int 0)))]
theorem O_CharSet_is_empty {v0:V}(h:RUN w tb d e_CharSet_is_empty r_CharSet_is_empty [v0] σ Q):CALL w (fr w.params) (d+1) (.ref 383) [v0] σ Q :=
 go1 (sm 22 11) "CharSet.is_empty" (.ref 382) .none pm1 none none 1 [] [] (by kernel_rfl) (tb_ok w) .nil rfl (bn1 fun r0 S'=>by kernel_rfl) h
noncomputable def e_CharSet_complement:NmsE:=[(484127475,.local),(65462106227,.local),(64109540066,.local),(4061164,.local),(488240360,.local),(3418068,.globalImplicit),(1076616203105347,.globalImplicit),(61700061940,.globalImplicit)]
noncomputable def r_CharSet_complement:List RS:=[.asg (.loc 1) (.list []),.asg (.loc 2) (.val (.int 0)),.fors (.two (.loc 3) (.loc 4)) (.attr (.loc 0) 65462106227) [.ifs (.cmp .Lt (.loc 2) (.loc 3)) [.expr (.meth (.loc 1) 7863761909857 [(.tup [.loc 2,(.bin .Sub (.loc 3) (.val (.int 1)))])])] [],.asg (.loc 2) (.bin .Add (.loc 4) (.val (.int 1)))],.ifs (.cmp .LtE (.loc 2) (.val (.int 127))) [.expr (.meth (.loc 1) 7863761909857 [(.tup [.loc 2,(.val (.int 127))])])] [],.ret (.call 442 [(.bi .tuple [.loc 1])])]
theorem O_CharSet_complement {v0:V}(h:RUN w tb d e_CharSet_complement r_CharSet_complement [v0] σ Q):CALL w (fr w.params) (d+1) (.ref 404) [v0] σ Q :=
 go1 (sm 22 14) "CharSet.complement" (.ref 403) .none pm1 none none 1 [] [] (by kernel_rfl) (tb_ok w) .nil rfl (bn1 fun r0 S'=>by kernel_rfl) h
noncomputable def e_CharSet_same:NmsE:=[(484127475,.local),(65174911599,.local)]
noncomputable def r_CharSet_same:List RS:=[.ret (.cmp .Eq (.attr (.loc 0) 65462106227) (.attr (.loc 1) 65462106227))]
theorem O_CharSet_same {v0 v1:V}(h:RUN w tb d e_CharSet_same r_CharSet_same [v0,v1] σ Q):CALL w (fr w.params) (d+1) (.ref 418) [v0,v1] σ Q :=
 go1 (sm 22 16) "CharSet.same" (.ref 417) .none pm1 none none 2 [] [] (by kernel_rfl) (tb_ok w) .nil rfl (bn2 fun r0 r1 S'=>by kernel_rfl) h
noncomputable def e_CharSet_key:NmsE:=[(484127475,.local)]
noncomputable def r_CharSet_key:List RS:=[.ret (.attr (.loc 0) 65462106227)]
theorem O_CharSet_key {v0:V}(h:RUN w tb d e_CharSet_key r_CharSet_key [v0] σ Q):CALL w (fr w.params) (d+1) (.ref 439) [v0] σ Q :=
 go1 (sm 22 19) "CharSet.key" (.ref 438) .none pm1 none none 1 [] [] (by kernel_rfl) (tb_ok w) .nil rfl (bn1 fun r0 S'=>by kernel_rfl) h
noncomputable def e_show_code:NmsE:=[(481900515,.local),(500823283,.local),(3978339,.globalImplicit),(4093205095106092732588779842,.globalImplicit),(3547848,.globalImplicit)]
noncomputable def r_show_code:List RS:=[.asg (.loc 1) (.bi .chr [.loc 0]),.ifs (.cmp .In (.loc 1) (.val (.str (tx [92,93,91,94,45])))) [.ret (.bin .Add (.val (.str (tx [92]))) (.loc 1))] [],.ifs (.or (.cmp .Lt (.loc 0) (.val (.int 32))) (.cmp .Gt (.loc 0) (.val (.int 126)))) [.ret (.bin .Add (.bin .Add (.val (.str (tx [92,120]))) (.item (.val (.str (tx [48,49,50,51,52,53,54,55,56,57,97,98,99,100,101,102]))) (.bin .FloorDiv (.loc 0) (.val (.int 16))))) (.item (.val (.str (tx [48,49,50,51,52,53,54,55,56,57,97,98,99,100,101,102]))) (.bin .Mod (.loc 0) (.val (.int 16)))))] [],.ret (.loc 1)]
theorem O_show_code {v0:V}(h:RUN w tb d e_show_code r_show_code [v0] σ Q):CALL w (fr w.params) (d+1) (.ref 453) [v0] σ Q :=
 go1 (st 23) "show_code" (.ref 452) .none pm1 none none 1 [] [] (by kernel_rfl) (tb_ok w) .nil rfl (bn1 fun r0 S'=>by kernel_rfl) h
noncomputable def e_told:NmsE:=[(1076624793039971,.local),(65474965744,.local),(4061164,.local),(488240360,.local),(16557975640557220979,.globalImplicit),(3418068,.globalImplicit)]
noncomputable def r_told:List RS:=[.ifs (.meth (.loc 0) 140688589560740329 []) [.ret (.bin .Add (.bin .Add (.bin .Add (.bin .Add (.val (.str (tx [91,94]))) (.call 453 [(.val (.int 0))])) (.val (.str (tx [45])))) (.call 453 [(.val (.int 127))])) (.val (.str (tx [93]))))] [],.asg (.loc 1) (.list []),.fors (.two (.loc 2) (.loc 3)) (.attr (.loc 0) 65462106227) [.expr (.meth (.loc 1) 7863761909857 [(.call 453 [.loc 2])]),.ifs (.cmp .Gt (.loc 3) (.bin .Add (.loc 2) (.val (.int 1)))) [.expr (.meth (.loc 1) 7863761909857 [(.val (.str (tx [45])))])] [],.ifs (.cmp .Gt (.loc 3) (.loc 2)) [.expr (.meth (.loc 1) 7863761909857 [(.call 453 [.loc 3])])] []],.ret (.bin .Add (.bin .Add (.val (.str (tx [91]))) (.meth (.val (.str (tx []))) 500856810 [.loc 1])) (.val (.str (tx [93]))))]
theorem O_told {v0:V}(h:RUN w tb d e_told r_told [v0] σ Q):CALL w (fr w.params) (d+1) (.ref 460) [v0] σ Q :=
 go1 (st 24) "told" (.ref 459) .none pm1 none none 1 [] [] (by kernel_rfl) (tb_ok w) .nil rfl (bn1 fun r0 S'=>by kernel_rfl) h
noncomputable def e_Node_told:NmsE:=[(484127475,.local)]
noncomputable def r_Node_told:List RS:=[.ret (.tup [(.attr (.loc 0) 482046190)])]
theorem O_Node_told {v0:V}(h:RUN w tb d e_Node_told r_Node_told [v0] σ Q):CALL w (fr w.params) (d+1) (.ref 488) [v0] σ Q :=
 go1 (sm 32 2) "Node.told" (.ref 487) .none pm2 none none 1 [] [] (by kernel_rfl) (tb_ok w) .nil rfl (bn1 fun r0 S'=>by kernel_rfl) h
noncomputable def e_Chars___init__:NmsE:=[(484127475,.local),(1076624793039971,.local)]
noncomputable def r_Chars___init__:List RS:=[.sat (.loc 0) 1076624793039971 (.loc 1)]
theorem O_Chars___init__ {v0 v1:V}(h:RUN w tb d e_Chars___init__ r_Chars___init__ [v0,v1] σ Q):CALL w (fr w.params) (d+1) (.ref 533) [v0,v1] σ Q :=
 go1 (sm 35 1) "Chars.__init__" (.ref 532) .none pm2 none none 2 [] [] (by kernel_rfl) (tb_ok w) .nil rfl (bn2 fun r0 r1 S'=>by kernel_rfl) h
noncomputable def e_Chars_told:NmsE:=[(484127475,.local)]
noncomputable def r_Chars_told:List RS:=[.ret (.tup [(.attr (.loc 0) 482046190),(.meth (.attr (.loc 0) 1076624793039971) 4092651 [])])]
theorem O_Chars_told {v0:V}(h:RUN w tb d e_Chars_told r_Chars_told [v0] σ Q):CALL w (fr w.params) (d+1) (.ref 540) [v0] σ Q :=
 go1 (sm 35 2) "Chars.told" (.ref 539) .none pm2 none none 1 [] [] (by kernel_rfl) (tb_ok w) .nil rfl (bn1 fun r0 S'=>by kernel_rfl) h
noncomputable def e_Pair___init__:NmsE:=[(484127475,.local),(513389292,.local),(65718056178,.local)]
noncomputable def r_Pair___init__:List RS:=[.sat (.loc 0) 513389292 (.loc 1),.sat (.loc 0) 65718056178 (.loc 2)]
theorem O_Pair___init__ {v0 v1 v2:V}(h:RUN w tb d e_Pair___init__ r_Pair___init__ [v0,v1,v2] σ Q):CALL w (fr w.params) (d+1) (.ref 559) [v0,v1,v2] σ Q :=
 go1 (sm 36 0) "Pair.__init__" (.ref 558) .none pm2 none none 3 [] [] (by kernel_rfl) (tb_ok w) .nil rfl (bn3 fun r0 r1 r2 S'=>by kernel_rfl) h
noncomputable def e_Pair_told:NmsE:=[(484127475,.local),(4061170,.local),(513684212,.local),(513585392,.local),(61704140915,.globalImplicit)]
noncomputable def r_Pair_told:List RS:=[.asg (.loc 1) (.call 704 [.loc 0]),.asg (.loc 2) (.meth (.item (.loc 1) (.val (.int 0))) 479934452 []),.fors (.loc 3) (.slcN 1 (some (.val (.int 1))) none) [.asg (.loc 2) (.tup [(.attr (.loc 0) 482046190),.loc 2,(.meth (.loc 3) 479934452 [])])],.ret (.loc 2)]
theorem O_Pair_told {v0:V}(h:RUN w tb d e_Pair_told r_Pair_told [v0] σ Q):CALL w (fr w.params) (d+1) (.ref 573) [v0] σ Q :=
 go1 (sm 36 2) "Pair.told" (.ref 572) .none pm2 none none 1 [] [] (by kernel_rfl) (tb_ok w) .nil rfl (bn1 fun r0 S'=>by kernel_rfl) h
noncomputable def e_Loop___init__:NmsE:=[(484127475,.local),(523843554,.local)]
noncomputable def r_Loop___init__:List RS:=[.sat (.loc 0) 523843554 (.loc 1)]
theorem O_Loop___init__ {v0 v1:V}(h:RUN w tb d e_Loop___init__ r_Loop___init__ [v0,v1] σ Q):CALL w (fr w.params) (d+1) (.ref 616) [v0,v1] σ Q :=
 go1 (sm 39 0) "Loop.__init__" (.ref 615) .none pm2 none none 2 [] [] (by kernel_rfl) (tb_ok w) .nil rfl (bn2 fun r0 r1 S'=>by kernel_rfl) h
noncomputable def e_Loop_told:NmsE:=[(484127475,.local)]
noncomputable def r_Loop_told:List RS:=[.ret (.tup [(.attr (.loc 0) 482046190),(.meth (.attr (.loc 0) 523843554) 479934452 [])])]
theorem O_Loop_told {v0:V}(h:RUN w tb d e_Loop_told r_Loop_told [v0] σ Q):CALL w (fr w.params) (d+1) (.ref 630) [v0] σ Q :=
 go1 (sm 39 2) "Loop.told" (.ref 629) .none pm2 none none 1 [] [] (by kernel_rfl) (tb_ok w) .nil rfl (bn1 fun r0 S'=>by kernel_rfl) h
noncomputable def e_Repeat___init__:NmsE:=[(484127475,.local),(523843554,.local),(4061164,.local),(488240360,.local),(505149388,.globalImplicit),(250889960090780034197453,.globalImplicit),(2240119105932305756882,.globalImplicit),(3979891,.globalImplicit)]
noncomputable def r_Repeat___init__:List RS:=[.expr (.meth (.val (.glob 633)) 125959668179300319 [.loc 0,.loc 1]),.ifs (.or (.cmp .Lt (.loc 2) (.val (.int 0))) (.cmp .Gt (.loc 2) (.val (.int 40)))) [.bad] [],.ifs (.and (.cmp .IsNot (.loc 3) (.val .none)) (.or (.cmp .Lt (.loc 3) (.loc 2)) (.cmp .Gt (.loc 3) (.val (.int 40))))) [.bad] [],.sat (.loc 0) 4061164 (.loc 2),.sat (.loc 0) 488240360 (.loc 3)]
theorem O_Repeat___init__ {v0 v1 v2 v3:V}(h:RUN w tb d e_Repeat___init__ r_Repeat___init__ [v0,v1,v2,v3] σ Q):CALL w (fr w.params) (d+1) (.ref 685) [v0,v1,v2,v3] σ Q :=
 go1 (sm 43 1) "Repeat.__init__" (.ref 684) .none pm2 none none 4 [] [] (by kernel_rfl) (tb_ok w) .nil rfl (bn4 fun r0 r1 r2 r3 S'=>by kernel_rfl) h
noncomputable def e_Repeat_told:NmsE:=[(484127475,.local)]
noncomputable def r_Repeat_told:List RS:=[.ret (.tup [(.attr (.loc 0) 482046190),(.meth (.attr (.loc 0) 523843554) 479934452 []),(.attr (.loc 0) 4061164),(.attr (.loc 0) 488240360)])]
theorem O_Repeat_told {v0:V}(h:RUN w tb d e_Repeat_told r_Repeat_told [v0] σ Q):CALL w (fr w.params) (d+1) (.ref 692) [v0] σ Q :=
 go1 (sm 43 2) "Repeat.told" (.ref 691) .none pm2 none none 1 [] [] (by kernel_rfl) (tb_ok w) .nil rfl (bn1 fun r0 S'=>by kernel_rfl) h
noncomputable def e_spine:NmsE:=[(481900526,.local),(65474965744,.local),(482128616,.local)]
noncomputable def r_spine:List RS:=[.asg (.loc 1) (.list []),.asg (.loc 2) (.loc 0),.whl (.and (.cmp .Eq (.attr (.loc 2) 482046190) (.attr (.loc 0) 482046190)) (.or (.cmp .Eq (.attr (.loc 2) 482046190) (.val (.str (tx [99,97,116])))) (.cmp .Eq (.attr (.loc 2) 482046190) (.val (.str (tx [97,108,116])))))) [.expr (.meth (.loc 1) 7863761909857 [(.attr (.loc 2) 65718056178)]),.asg (.loc 2) (.attr (.loc 2) 513389292)],.expr (.meth (.loc 1) 7863761909857 [.loc 2]),.expr (.meth (.loc 1) 1011134836355826 []),.ret (.loc 1)]
theorem O_spine {v0:V}(h:RUN w tb d e_spine r_spine [v0] σ Q):CALL w (fr w.params) (d+1) (.ref 704) [v0] σ Q :=
 go1 (st 44) "spine" (.ref 703) .none pm2 none none 1 [] [] (by kernel_rfl) (tb_ok w) .nil rfl (bn1 fun r0 S'=>by kernel_rfl) h
noncomputable def e_cat_all:NmsE:=[(65443280878,.local),(481900526,.local),(513585392,.local),(3912428,.globalImplicit),(67085547205,.globalImplicit),(4010179,.globalImplicit)]
noncomputable def r_cat_all:List RS:=[.ifs (.cmp .Eq (.bi .len [.loc 0]) (.val (.int 0))) [.ret (.call 505 [])] [],.asg (.loc 1) (.item (.loc 0) (.val (.int 0))),.fors (.loc 2) (.slcN 0 (some (.val (.int 1))) none) [.asg (.loc 1) (.call 588 [.loc 1,.loc 2])],.ret (.loc 1)]
theorem O_cat_all {v0:V}(h:RUN w tb d e_cat_all r_cat_all [v0] σ Q):CALL w (fr w.params) (d+1) (.ref 711) [v0] σ Q :=
 go1 (st 45) "cat_all" (.ref 710) .none pm2 none none 1 [] [] (by kernel_rfl) (tb_ok w) .nil rfl (bn1 fun r0 S'=>by kernel_rfl) h
noncomputable def e_chars_node:NmsE:=[(1076624793039971,.local),(65175139022,.globalImplicit),(65470493763,.globalImplicit)]
noncomputable def r_chars_node:List RS:=[.ifs (.meth (.loc 0) 140688589560740329 []) [.ret (.call 517 [])] [],.ret (.call 543 [.loc 0])]
theorem O_chars_node {v0:V}(h:RUN w tb d e_chars_node r_chars_node [v0] σ Q):CALL w (fr w.params) (d+1) (.ref 718) [v0] σ Q :=
 go1 (st 46) "chars_node" (.ref 717) .none pm2 none none 1 [] [] (by kernel_rfl) (tb_ok w) .nil rfl (bn1 fun r0 S'=>by kernel_rfl) h
noncomputable def e_Pattern___init__:NmsE:=[(484127475,.local),(523843554,.local),(8379166225122,.local),(63572572532,.local)]
noncomputable def r_Pattern___init__:List RS:=[.sat (.loc 0) 523843554 (.loc 1),.sat (.loc 0) 8379166225122 (.loc 2),.sat (.loc 0) 63572572532 (.loc 3)]
theorem O_Pattern___init__ {v0 v1 v2 v3:V}(h:RUN w tb d e_Pattern___init__ r_Pattern___init__ [v0,v1,v2,v3] σ Q):CALL w (fr w.params) (d+1) (.ref 732) [v0,v1,v2,v3] σ Q :=
 go1 (sm 47 0) "Pattern.__init__" (.ref 731) .none pm2 none none 4 [] [] (by kernel_rfl) (tb_ok w) .nil rfl (bn4 fun r0 r1 r2 r3 S'=>by kernel_rfl) h
noncomputable def e_Pattern_is_line_end:NmsE:=[(484127475,.local),(128839870544852204,.globalImplicit)]
noncomputable def r_Pattern_is_line_end:List RS:=[.ret (.and (.cmp .IsNot (.attr (.loc 0) 63572572532) (.val .none)) (.cmp .Eq (.meth (.attr (.loc 0) 63572572532) 479934452 []) (.meth (.call 767 []) 479934452 [])))]
theorem O_Pattern_is_line_end {v0:V}(h:RUN w tb d e_Pattern_is_line_end r_Pattern_is_line_end [v0] σ Q):CALL w (fr w.params) (d+1) (.ref 746) [v0] σ Q :=
 go1 (sm 47 2) "Pattern.is_line_end" (.ref 745) .none pm2 none none 1 [] [] (by kernel_rfl) (tb_ok w) .nil rfl (bn1 fun r0 S'=>by kernel_rfl) h
noncomputable def e_Pattern_told:NmsE:=[(484127475,.local),(63572572532,.local)]
noncomputable def r_Pattern_told:List RS:=[.asg (.loc 1) (.val .none),.ifs (.cmp .IsNot (.attr (.loc 0) 63572572532) (.val .none)) [.asg (.loc 1) (.meth (.attr (.loc 0) 63572572532) 479934452 [])] [],.ret (.tup [(.attr (.loc 0) 8379166225122),(.meth (.attr (.loc 0) 523843554) 479934452 []),.loc 1])]
theorem O_Pattern_told {v0:V}(h:RUN w tb d e_Pattern_told r_Pattern_told [v0] σ Q):CALL w (fr w.params) (d+1) (.ref 753) [v0] σ Q :=
 go1 (sm 47 3) "Pattern.told" (.ref 752) .none pm2 none none 1 [] [] (by kernel_rfl) (tb_ok w) .nil rfl (bn1 fun r0 S'=>by kernel_rfl) h
noncomputable def e_line_end:NmsE:=[(65470493763,.globalImplicit),(1076616203105347,.globalImplicit),(869114978886350,.globalImplicit)]
noncomputable def r_line_end:List RS:=[.ret (.call 543 [(.meth (.val (.glob 442)) 29551 [(.val (.str (tx [10])))])])]
theorem O_line_end (h:RUN w tb d e_line_end r_line_end [] σ Q):CALL w (fr w.params) (d+1) (.ref 767) [] σ Q :=
 go1 (st 48) "line_end" (.ref 766) .none pm2 none none 0 [] [] (by kernel_rfl) (tb_ok w) .nil rfl (bn0 fun S'=>by kernel_rfl) h
noncomputable def e_is_figure:NmsE:=[(500823283,.local),(930380826928326,.globalImplicit)]
noncomputable def r_is_figure:List RS:=[.ret (.and (.cmp .NotEq (.loc 0) (.val (.str (tx [])))) (.cmp .In (.loc 0) (.val (.str (tx [48,49,50,51,52,53,54,55,56,57])))))]
theorem O_is_figure {v0:V}(h:RUN w tb d e_is_figure r_is_figure [v0] σ Q):CALL w (fr w.params) (d+1) (.ref 774) [v0] σ Q :=
 go1 (st 49) "is_figure" (.ref 773) .none pm2 none none 1 [] [] (by kernel_rfl) (tb_ok w) .nil rfl (bn1 fun r0 S'=>by kernel_rfl) h
noncomputable def e_RegexReader___init__:NmsE:=[(484127475,.local),(513684212,.local),(31329,.local),(287906392774879208911588,.local),(2203434482622455609833,.local),(8345096075971,.globalImplicit)]
noncomputable def r_RegexReader___init__:List RS:=[.sat (.loc 0) 8345096076003 (.call 222 [.loc 1,.loc 2]),.sat (.loc 0) 287906392774879208911588 (.loc 3),.sat (.loc 0) 2203434482622455609833 (.loc 4),.sat (.loc 0) 62522143460 (.val (.int 0))]
theorem O_RegexReader___init__ {v0 v1 v2 v3 v4:V}(h:RUN w tb d e_RegexReader___init__ r_RegexReader___init__ [v0,v1,v2,v3,v4] σ Q):CALL w (fr w.params) (d+1) (.ref 788) [v0,v1,v2,v3,v4] σ Q :=
 go1 (sm 50 0) "RegexReader.__init__" (.ref 787) .none pm2 none none 5 [] [] (by kernel_rfl) (tb_ok w) .nil rfl (bn5 fun r0 r1 r2 r3 r4 S'=>by kernel_rfl) h
noncomputable def e_RegexReader_is_over:NmsE:=[(484127475,.local),(500823283,.local),(7270202107458,.globalImplicit)]
noncomputable def r_RegexReader_is_over:List RS:=[.asg (.loc 1) (.meth (.attr (.loc 0) 8345096076003) 494498544 []),.ret (.or (.cmp .Eq (.loc 1) (.val (.str (tx [])))) (.cmp .In (.loc 1) (.val (.str (tx [32,9,10])))))]
theorem O_RegexReader_is_over {v0:V}(h:RUN w tb d e_RegexReader_is_over r_RegexReader_is_over [v0] σ Q):CALL w (fr w.params) (d+1) (.ref 802) [v0] σ Q :=
 go1 (sm 50 2) "RegexReader.is_over" (.ref 801) .none pm2 none none 1 [] [] (by kernel_rfl) (tb_ok w) .nil rfl (bn1 fun r0 S'=>by kernel_rfl) h
noncomputable def e_RegexReader_is_stop:NmsE:=[(484127475,.local),(500823283,.local),(7270202107458,.globalImplicit)]
noncomputable def r_RegexReader_is_stop:List RS:=[.asg (.loc 1) (.meth (.attr (.loc 0) 8345096076003) 494498544 []),.ifs (.or (.cmp .Eq (.loc 1) (.val (.str (tx [])))) (.or (.cmp .Eq (.loc 1) (.val (.str (tx [124])))) (.cmp .Eq (.loc 1) (.val (.str (tx [41])))))) [.ret (.val (.bool true))] [],.ifs (.not (.attr (.loc 0) 2203434482622455609833)) [.ret (.val (.bool false))] [],.ifs (.cmp .In (.loc 1) (.val (.str (tx [32,9,10])))) [.ret (.val (.bool true))] [],.ret (.and (.cmp .Eq (.attr (.loc 0) 62522143460) (.val (.int 0))) (.or (.cmp .Eq (.loc 1) (.val (.str (tx [47])))) (.cmp .Eq (.loc 1) (.val (.str (tx [36]))))))]
theorem O_RegexReader_is_stop {v0:V}(h:RUN w tb d e_RegexReader_is_stop r_RegexReader_is_stop [v0] σ Q):CALL w (fr w.params) (d+1) (.ref 809) [v0] σ Q :=
 go1 (sm 50 3) "RegexReader.is_stop" (.ref 808) .none pm2 none none 1 [] [] (by kernel_rfl) (tb_ok w) .nil rfl (bn1 fun r0 S'=>by kernel_rfl) h
noncomputable def e_RegexReader_choice:NmsE:=[(484127475,.local),(481900526,.local),(4011585,.globalImplicit)]
noncomputable def r_RegexReader_choice:List RS:=[.asg (.loc 1) (.meth (.loc 0) 7998266702178 []),.whl (.meth (.attr (.loc 0) 8345096076003) 505050611 [(.val (.str (tx [124])))]) [.asg (.loc 1) (.call 600 [.loc 1,(.meth (.loc 0) 7998266702178 [])])],.ret (.loc 1)]
theorem O_RegexReader_choice {v0:V}(h:RUN w tb d e_RegexReader_choice r_RegexReader_choice [v0] σ Q):CALL w (fr w.params) (d+1) (.ref 816) [v0] σ Q :=
 go1 (sm 50 4) "RegexReader.choice" (.ref 815) .none pm2 none none 1 [] [] (by kernel_rfl) (tb_ok w) .nil rfl (bn1 fun r0 S'=>by kernel_rfl) h
noncomputable def e_RegexReader_branch:NmsE:=[(484127475,.local),(4061170,.local),(1041676067746019,.globalImplicit)]
noncomputable def r_RegexReader_branch:List RS:=[.asg (.loc 1) (.list []),.whl (.not (.meth (.loc 0) 1059376474880489 [])) [.expr (.meth (.loc 1) 7863761909857 [(.meth (.loc 0) 7861369042924 [(.meth (.loc 0) 7897588937971 [])])])],.ret (.call 711 [.loc 1])]
theorem O_RegexReader_branch {v0:V}(h:RUN w tb d e_RegexReader_branch r_RegexReader_branch [v0] σ Q):CALL w (fr w.params) (d+1) (.ref 823) [v0] σ Q :=
 go1 (sm 50 5) "RegexReader.branch" (.ref 822) .none pm2 none none 1 [] [] (by kernel_rfl) (tb_ok w) .nil rfl (bn1 fun r0 S'=>by kernel_rfl) h
noncomputable def e_RegexReader_looped:NmsE:=[(484127475,.local),(513585392,.local),(481900526,.local),(501005044,.local),(64134705890,.local),(61689540850,.globalImplicit),(232038470200071862675405,.globalImplicit),(509114963,.globalImplicit),(511538768,.globalImplicit),(4012111,.globalImplicit),(16565883468271581673,.globalImplicit)]
noncomputable def r_RegexReader_looped:List RS:=[.asg (.loc 2) (.loc 1),.fors (.loc 3) (.bi .range [(.bin .Add (.val (.int 20)) (.val (.int 1)))]) [.asg (.loc 4) (.attr (.attr (.loc 0) 8345096076003) 31329),.ifs (.meth (.attr (.loc 0) 8345096076003) 505050611 [(.val (.str (tx [42])))]) [.asg (.loc 2) (.call 645 [.loc 2])] [.ifs (.meth (.attr (.loc 0) 8345096076003) 505050611 [(.val (.str (tx [43])))]) [.asg (.loc 2) (.call 657 [.loc 2])] [.ifs (.meth (.attr (.loc 0) 8345096076003) 505050611 [(.val (.str (tx [63])))]) [.asg (.loc 2) (.call 669 [.loc 2])] [.ifs (.and (.cmp .Eq (.meth (.attr (.loc 0) 8345096076003) 494498544 []) (.val (.str (tx [123])))) (.call 774 [(.meth (.attr (.loc 0) 8345096076003) 494498544 [(.val (.int 1))])])) [.asg (.loc 2) (.meth (.loc 0) 1006256309237731 [.loc 2])] [.ret (.loc 2)]]]]],.bad]
theorem O_RegexReader_looped {v0 v1:V}(h:RUN w tb d e_RegexReader_looped r_RegexReader_looped [v0,v1] σ Q):CALL w (fr w.params) (d+1) (.ref 830) [v0,v1] σ Q :=
 go1 (sm 50 6) "RegexReader.looped" (.ref 829) .none pm2 none none 2 [] [] (by kernel_rfl) (tb_ok w) .nil rfl (bn2 fun r0 r1 S'=>by kernel_rfl) h
noncomputable def e_RegexReader_counted:NmsE:=[(484127475,.local),(523843554,.local),(1019756733364335,.local),(4061164,.local),(488240360,.local),(16565883468271581673,.globalImplicit),(8410028061394,.globalImplicit)]
noncomputable def r_RegexReader_counted:List RS:=[.asg (.loc 2) (.attr (.attr (.loc 0) 8345096076003) 31329),.expr (.meth (.attr (.loc 0) 8345096076003) 482013428 []),.asg (.loc 3) (.meth (.loc 0) 65730869219 []),.asg (.loc 4) (.loc 3),.ifs (.meth (.attr (.loc 0) 8345096076003) 505050611 [(.val (.str (tx [44])))]) [.asg (.loc 4) (.val .none),.ifs (.call 774 [(.meth (.attr (.loc 0) 8345096076003) 494498544 [])]) [.asg (.loc 4) (.meth (.loc 0) 65730869219 [])] []] [],.ifs (.meth (.attr (.loc 0) 8345096076003) 1010962229885417 []) [.bad] [],.ifs (.not (.meth (.attr (.loc 0) 8345096076003) 505050611 [(.val (.str (tx [125])))])) [.bad] [],.ifs (.and (.cmp .IsNot (.loc 4) (.val .none)) (.cmp .Lt (.loc 4) (.loc 3))) [.bad] [],.ret (.call 695 [.loc 1,.loc 3,.loc 4])]
theorem O_RegexReader_counted {v0 v1:V}(h:RUN w tb d e_RegexReader_counted r_RegexReader_counted [v0,v1] σ Q):CALL w (fr w.params) (d+1) (.ref 837) [v0,v1] σ Q :=
 go1 (sm 50 7) "RegexReader.counted" (.ref 836) .none pm2 none none 2 [] [] (by kernel_rfl) (tb_ok w) .nil rfl (bn2 fun r0 r1 S'=>by kernel_rfl) h
noncomputable def e_RegexReader_count:NmsE:=[(484127475,.local),(64134705890,.local),(8342375987950,.local),(7899228796134,.local),(930380826928326,.globalImplicit),(3912941,.globalImplicit),(250889960090780034197453,.globalImplicit),(3979891,.globalImplicit)]
noncomputable def r_RegexReader_count:List RS:=[.asg (.loc 1) (.attr (.attr (.loc 0) 8345096076003) 31329),.asg (.loc 2) (.val (.int 0)),.fors (.loc 3) (.meth (.attr (.loc 0) 8345096076003) 2119993987852310081780 [(.val (.str (tx [48,49,50,51,52,53,54,55,56,57])))]) [.asg (.loc 2) (.bi .min [(.bin .Add (.bin .Mult (.val (.int 10)) (.loc 2)) (.meth (.val (.str (tx [48,49,50,51,52,53,54,55,56,57]))) 66785458025 [.loc 3])),(.bin .Add (.val (.int 40)) (.val (.int 1)))])],.ifs (.cmp .Gt (.loc 2) (.val (.int 40))) [.bad] [],.ret (.loc 2)]
theorem O_RegexReader_count {v0:V}(h:RUN w tb d e_RegexReader_count r_RegexReader_count [v0] σ Q):CALL w (fr w.params) (d+1) (.ref 844) [v0] σ Q :=
 go1 (sm 50 8) "RegexReader.count" (.ref 843) .none pm2 none none 1 [] [] (by kernel_rfl) (tb_ok w) .nil rfl (bn1 fun r0 S'=>by kernel_rfl) h
noncomputable def e_RegexReader_single:NmsE:=[(484127475,.local),(64134705890,.local),(500823283,.local),(481900526,.local),(481900515,.local),(232038470200071862675405,.globalImplicit),(65470493763,.globalImplicit),(1076616203105347,.globalImplicit),(249829412543097814166099,.globalImplicit)]
noncomputable def r_RegexReader_single:List RS:=[.asg (.loc 1) (.attr (.attr (.loc 0) 8345096076003) 31329),.asg (.loc 2) (.meth (.attr (.loc 0) 8345096076003) 482013428 []),.ifs (.cmp .Eq (.loc 2) (.val (.str (tx [40])))) [.ifs (.cmp .Eq (.attr (.loc 0) 62522143460) (.val (.int 20))) [.bad] [],.sat (.loc 0) 62522143460 (.bin .Add (.attr (.loc 0) 62522143460) (.val (.int 1))),.asg (.loc 3) (.meth (.loc 0) 7895177229411 []),.ifs (.not (.meth (.attr (.loc 0) 8345096076003) 505050611 [(.val (.str (tx [41])))])) [.bad] [],.sat (.loc 0) 62522143460 (.bin .Sub (.attr (.loc 0) 62522143460) (.val (.int 1))),.ret (.loc 3)] [],.ifs (.cmp .Eq (.loc 2) (.val (.str (tx [91])))) [.ret (.meth (.loc 0) 2249621112831925155059 [.loc 1])] [],.ifs (.cmp .Eq (.loc 2) (.val (.str (tx [34])))) [.ret (.meth (.loc 0) 7861377432305 [.loc 1])] [],.ifs (.cmp .Eq (.loc 2) (.val (.str (tx [123])))) [.ret (.meth (.loc 0) 1006254687892196 [.loc 1])] [],.ifs (.cmp .Eq (.loc 2) (.val (.str (tx [46])))) [.ret (.call 543 [(.meth (.val (.glob 442)) 4012004 [])])] [],.ifs (.cmp .In (.loc 2) (.val (.str (tx [42,43,63,93,125,94,36,47,32,9,10])))) [.bad] [],.asg (.loc 4) (.meth (.loc 0) 1015390343346147 [.loc 2,.loc 1]),.ret (.call 543 [(.meth (.val (.glob 442)) 500725875 [.loc 4,.loc 4])])]
theorem O_RegexReader_single {v0:V}(h:RUN w tb d e_RegexReader_single r_RegexReader_single [v0] σ Q):CALL w (fr w.params) (d+1) (.ref 851) [v0] σ Q :=
 go1 (sm 50 9) "RegexReader.single" (.ref 850) .none pm2 none none 1 [] [] (by kernel_rfl) (tb_ok w) .nil rfl (bn1 fun r0 S'=>by kernel_rfl) h
noncomputable def e_RegexReader_code_of:NmsE:=[(484127475,.local),(500823283,.local),(64134705890,.local),(479934452,.local),(481900515,.local),(869114978886350,.globalImplicit),(3750255,.globalImplicit),(3418068,.globalImplicit),(3979891,.globalImplicit)]
noncomputable def r_RegexReader_code_of:List RS:=[.asg (.loc 3) (.loc 1),.ifs (.cmp .Eq (.loc 1) (.val (.str (tx [92])))) [.ifs (.cmp .Eq (.meth (.attr (.loc 0) 8345096076003) 494498544 []) (.val (.str (tx [10])))) [.bad] [],.asg (.loc 3) (.meth (.attr (.loc 0) 8345096076003) 7898649917925 []),.ifs (.cmp .Eq (.loc 3) (.val (.str (tx [])))) [.bad] []] [],.asg (.loc 4) (.bi .ord [.loc 3]),.ifs (.cmp .Gt (.loc 4) (.val (.int 127))) [.bad] [],.ret (.loc 4)]
theorem O_RegexReader_code_of {v0 v1 v2:V}(h:RUN w tb d e_RegexReader_code_of r_RegexReader_code_of [v0,v1,v2] σ Q):CALL w (fr w.params) (d+1) (.ref 858) [v0,v1,v2] σ Q :=
 go1 (sm 50 10) "RegexReader.code_of" (.ref 857) .none pm2 none none 3 [] [] (by kernel_rfl) (tb_ok w) .nil rfl (bn3 fun r0 r1 r2 S'=>by kernel_rfl) h
noncomputable def e_RegexReader_defined:NmsE:=[(484127475,.local),(64134705890,.local),(480032759,.local)]
noncomputable def r_RegexReader_defined:List RS:=[.asg (.loc 2) (.meth (.attr (.loc 0) 8345096076003) 482046190 []),.ifs (.or (.not (.meth (.attr (.loc 0) 8345096076003) 505050611 [(.val (.str (tx [125])))])) (.or (.cmp .Is (.attr (.loc 0) 287906392774879208911588) (.val .none)) (.cmp .NotIn (.loc 2) (.attr (.loc 0) 287906392774879208911588)))) [.bad] [],.ret (.item (.attr (.loc 0) 287906392774879208911588) (.loc 2))]
theorem O_RegexReader_defined {v0 v1:V}(h:RUN w tb d e_RegexReader_defined r_RegexReader_defined [v0,v1] σ Q):CALL w (fr w.params) (d+1) (.ref 870) [v0,v1] σ Q :=
 go1 (sm 50 12) "RegexReader.defined" (.ref 869) .none pm2 none none 2 [] [] (by kernel_rfl) (tb_ok w) .nil rfl (bn2 fun r0 r1 S'=>by kernel_rfl) h
noncomputable def e_RegexReader_sign_class:NmsE:=[(484127475,.local),(64134705890,.local),(16486477119721306601,.local),(65470623984,.local),(137869509394954729,.local),(509243632,.local),(1076624793039971,.local),(1076616203105347,.globalImplicit),(2119420930368768341091,.globalImplicit)]
noncomputable def r_RegexReader_sign_class:List RS:=[.asg (.loc 2) (.meth (.attr (.loc 0) 8345096076003) 505050611 [(.val (.str (tx [94])))]),.asg (.loc 3) (.list []),.asg (.loc 4) (.val (.bool true)),.whl (.or (.loc 4) (.cmp .NotEq (.meth (.attr (.loc 0) 8345096076003) 494498544 []) (.val (.str (tx [93]))))) [.asg (.loc 4) (.val (.bool false)),.ifs (.meth (.attr (.loc 0) 8345096076003) 1010962229885417 []) [.bad] [],.ifs (.meth (.attr (.loc 0) 8345096076003) 8380795615859 [(.val (.str (tx [91,58])))]) [.fors (.loc 5) (.meth (.meth (.loc 0) 61416894702 []) 4092651 []) [.expr (.meth (.loc 3) 7863761909857 [.loc 5])]] [.expr (.meth (.loc 3) 7863761909857 [(.meth (.loc 0) 500725875 [])])]],.expr (.meth (.attr (.loc 0) 8345096076003) 482013428 []),.asg (.loc 6) (.meth (.val (.glob 442)) 481898733 [.loc 3]),.ifs (.loc 2) [.asg (.loc 6) (.meth (.loc 6) 2258486453168663918563 [])] [],.ret (.call 718 [.loc 6])]
theorem O_RegexReader_sign_class {v0 v1:V}(h:RUN w tb d e_RegexReader_sign_class r_RegexReader_sign_class [v0,v1] σ Q):CALL w (fr w.params) (d+1) (.ref 877) [v0,v1] σ Q :=
 go1 (sm 50 13) "RegexReader.sign_class" (.ref 876) .none pm2 none none 2 [] [] (by kernel_rfl) (tb_ok w) .nil rfl (bn2 fun r0 r1 S'=>by kernel_rfl) h
noncomputable def e_RegexReader_span:NmsE:=[(484127475,.local),(64134705890,.local),(4061164,.local),(488240360,.local)]
noncomputable def r_RegexReader_span:List RS:=[.asg (.loc 1) (.attr (.attr (.loc 0) 8345096076003) 31329),.asg (.loc 2) (.meth (.loc 0) 8342375985901 []),.ifs (.or (.cmp .NotEq (.meth (.attr (.loc 0) 8345096076003) 494498544 []) (.val (.str (tx [45])))) (.or (.cmp .Eq (.meth (.attr (.loc 0) 8345096076003) 494498544 [(.val (.int 1))]) (.val (.str (tx [93])))) (.cmp .Eq (.meth (.attr (.loc 0) 8345096076003) 494498544 [(.val (.int 1))]) (.val (.str (tx [])))))) [.ret (.tup [.loc 2,.loc 2])] [],.expr (.meth (.attr (.loc 0) 8345096076003) 482013428 []),.ifs (.meth (.attr (.loc 0) 8345096076003) 8380795615859 [(.val (.str (tx [91,58])))]) [.bad] [],.asg (.loc 3) (.meth (.loc 0) 8342375985901 []),.ifs (.cmp .Lt (.loc 3) (.loc 2)) [.bad] [],.ret (.tup [.loc 2,.loc 3])]
theorem O_RegexReader_span {v0:V}(h:RUN w tb d e_RegexReader_span r_RegexReader_span [v0] σ Q):CALL w (fr w.params) (d+1) (.ref 891) [v0] σ Q :=
 go1 (sm 50 15) "RegexReader.span" (.ref 890) .none pm2 none none 1 [] [] (by kernel_rfl) (tb_ok w) .nil rfl (bn1 fun r0 S'=>by kernel_rfl) h
noncomputable def e_RegexReader_member:NmsE:=[(484127475,.local),(64134705890,.local),(500823283,.local),(869114978886350,.globalImplicit)]
noncomputable def r_RegexReader_member:List RS:=[.asg (.loc 1) (.attr (.attr (.loc 0) 8345096076003) 31329),.asg (.loc 2) (.meth (.attr (.loc 0) 8345096076003) 482013428 []),.ifs (.cmp .Eq (.loc 2) (.val (.str (tx [10])))) [.bad] [],.ret (.meth (.loc 0) 1015390343346147 [.loc 2,.loc 1])]
theorem O_RegexReader_member {v0:V}(h:RUN w tb d e_RegexReader_member r_RegexReader_member [v0] σ Q):CALL w (fr w.params) (d+1) (.ref 898) [v0] σ Q :=
 go1 (sm 50 16) "RegexReader.member" (.ref 897) .none pm2 none none 1 [] [] (by kernel_rfl) (tb_ok w) .nil rfl (bn1 fun r0 S'=>by kernel_rfl) h
noncomputable def e_read_regex:NmsE:=[(513684212,.local),(287906392774879208911588,.local),(8342379983602,.local),(481900526,.local),(286641993601937764381394,.globalImplicit)]
noncomputable def r_read_regex:List RS:=[.asg (.loc 2) (.call 901 [.loc 0,(.val (.int 0)),.loc 1,(.val (.bool false))]),.asg (.loc 3) (.meth (.loc 2) 7895177229411 []),.ifs (.not (.meth (.attr (.loc 2) 8345096076003) 1010962229885417 [])) [.bad] [],.ret (.loc 3)]
theorem O_read_regex {v0 v1:V}(h:RUN w tb d e_read_regex r_read_regex [v0,v1] σ Q):CALL w (fr w.params) (d+1) (.ref 913) [v0,v1] σ Q :=
 go1 (st 51) "read_regex" (.ref 912) (.ref 906) pm2 none none 2 [] [] (by kernel_rfl) (tb_ok w) .nil rfl (bn2 fun r0 r1 S'=>by kernel_rfl) h
noncomputable def e_read_pattern:NmsE:=[(513684212,.local),(31329,.local),(287906392774879208911588,.local),(8342379983602,.local),(8345096076003,.local),(8379166225122,.local),(64134705890,.local),(523843554,.local),(63572572532,.local),(62519801459,.local),(8341323200484,.local),(286641993601937764381394,.globalImplicit),(128839870544852204,.globalImplicit),(1050679436980432,.globalImplicit)]
noncomputable def r_read_pattern:List RS:=[.asg (.loc 3) (.call 901 [.loc 0,.loc 1,.loc 2,(.val (.bool true))]),.asg (.loc 4) (.attr (.loc 3) 8345096076003),.asg (.loc 5) (.meth (.loc 4) 505050611 [(.val (.str (tx [94])))]),.asg (.loc 6) (.attr (.loc 4) 31329),.asg (.loc 7) (.meth (.loc 3) 7895177229411 []),.ifs (.cmp .Eq (.attr (.loc 4) 31329) (.loc 6)) [.bad] [],.asg (.loc 8) (.val .none),.asg (.loc 9) (.attr (.loc 4) 31329),.ifs (.meth (.loc 4) 505050611 [(.val (.str (tx [47])))]) [.asg (.loc 8) (.meth (.loc 3) 7895177229411 []),.ifs (.cmp .Eq (.attr (.loc 4) 31329) (.bin .Add (.loc 9) (.val (.int 1)))) [.bad] []] [],.asg (.loc 10) (.attr (.loc 4) 31329),.ifs (.meth (.loc 4) 505050611 [(.val (.str (tx [36])))]) [.ifs (.cmp .IsNot (.loc 8) (.val .none)) [.bad] [],.ifs (.not (.meth (.loc 3) 1067829499001321 [])) [.bad] [],.asg (.loc 8) (.call 767 [])] [],.ifs (.not (.meth (.loc 3) 1067829499001321 [])) [.bad] [],.ret (.tup [(.call 756 [.loc 7,.loc 5,.loc 8]),(.attr (.loc 4) 31329)])]
theorem O_read_pattern_1 {v0 v1:V}(h:RUN w tb d e_read_pattern r_read_pattern [v0,v1,.none] σ Q):CALL w (fr w.params) (d+1) (.ref 921) [v0,v1] σ Q :=
 go1 (st 52) "read_pattern" (.ref 920) (.ref 914) pm2 none none 3 [.none] [.none] (by kernel_rfl) (tb_ok w) (.cons .none .nil) rfl (bn2 fun r0 r1 S'=>by kernel_rfl) h
noncomputable def e_show_sign:NmsE:=[(500823283,.local),(36088120865079846254475749,.globalImplicit),(56798519501,.globalImplicit)]
noncomputable def r_show_sign:List RS:=[.ifs (.cmp .Eq (.loc 0) (.val (.str (tx [32])))) [.ret (.val (.str (tx [92,120,50,48])))] [],.ret (.call 240 [.loc 0,(.val (.str (tx [34,91,93,40,41,123,125,46,42,43,63,124,94,36,47,60,37])))])]
theorem O_show_sign {v0:V}(h:RUN w tb d e_show_sign r_show_sign [v0] σ Q):CALL w (fr w.params) (d+1) (.ref 928) [v0] σ Q :=
 go1 (st 58) "show_sign" (.ref 927) .none pm3 none none 1 [] [] (by kernel_rfl) (tb_ok w) .nil rfl (bn1 fun r0 S'=>by kernel_rfl) h
noncomputable def e_show_chars:NmsE:=[(1076624793039971,.local),(1076616203105347,.globalImplicit),(17208156998235583603,.globalImplicit),(3978339,.globalImplicit),(479934452,.globalImplicit)]
noncomputable def r_show_chars:List RS:=[.ifs (.meth (.loc 0) 482046195 [(.meth (.val (.glob 442)) 4012004 [])]) [.ret (.val (.str (tx [46])))] [],.ifs (.cmp .Eq (.meth (.loc 0) 482260211 []) (.val (.int 1))) [.ret (.call 928 [(.bi .chr [(.meth (.loc 0) 65741026028 [])])])] [],.ret (.call 460 [.loc 0])]
theorem O_show_chars {v0:V}(h:RUN w tb d e_show_chars r_show_chars [v0] σ Q):CALL w (fr w.params) (d+1) (.ref 935) [v0] σ Q :=
 go1 (st 59) "show_chars" (.ref 934) .none pm3 none none 1 [] [] (by kernel_rfl) (tb_ok w) .nil rfl (bn1 fun r0 S'=>by kernel_rfl) h
noncomputable def e_show_count:NmsE:=[(4061164,.local),(488240360,.local),(3979891,.globalImplicit)]
noncomputable def r_show_count:List RS:=[.ifs (.cmp .Is (.loc 1) (.val .none)) [.ret (.bin .Add (.bin .Add (.val (.str (tx [123]))) (.bi .str [.loc 0])) (.val (.str (tx [44,125]))))] [],.ifs (.cmp .Eq (.loc 1) (.loc 0)) [.ret (.bin .Add (.bin .Add (.val (.str (tx [123]))) (.bi .str [.loc 0])) (.val (.str (tx [125]))))] [],.ret (.bin .Add (.bin .Add (.bin .Add (.bin .Add (.val (.str (tx [123]))) (.bi .str [.loc 0])) (.val (.str (tx [44])))) (.bi .str [.loc 1])) (.val (.str (tx [125]))))]
theorem O_show_count {v0 v1:V}(h:RUN w tb d e_show_count r_show_count [v0,v1] σ Q):CALL w (fr w.params) (d+1) (.ref 942) [v0,v1] σ Q :=
 go1 (st 60) "show_count" (.ref 941) .none pm3 none none 2 [] [] (by kernel_rfl) (tb_ok w) .nil rfl (bn2 fun r0 r1 S'=>by kernel_rfl) h
noncomputable def e_show_at:NmsE:=[(481900526,.local),(63564526316,.local),(513684212,.local),(479934452,.globalImplicit),(1076616203105347,.globalImplicit),(2249549037645720188019,.globalImplicit),(61704140915,.globalImplicit),(53057152972,.globalImplicit),(3532754,.globalImplicit),(1076481996092531,.globalImplicit),(57060484308,.globalImplicit),(2258495469091817256051,.globalImplicit)]
noncomputable def r_show_at:List RS:=[.ifs (.cmp .Eq (.attr (.loc 0) 482046190) (.val (.str (tx [101,109,112,116,121])))) [.ret (.val (.str (tx [40,41])))] [],.ifs (.cmp .Eq (.attr (.loc 0) 482046190) (.val (.str (tx [110,101,118,101,114])))) [.ret (.call 460 [(.meth (.val (.glob 442)) 482064366 [])])] [],.ifs (.cmp .Eq (.attr (.loc 0) 482046190) (.val (.str (tx [99,104,97,114,115])))) [.ret (.call 935 [(.attr (.loc 0) 1076624793039971)])] [],.ifs (.cmp .Eq (.attr (.loc 0) 482046190) (.val (.str (tx [97,108,116])))) [.asg (.loc 2) (.meth (.val (.str (tx [124]))) 500856810 [(.comp (.call 947 [.loc 1,(.val (.int 1))]) [false,true,false,false] (.call 704 [.loc 0]))]),.ifs (.cmp .Gt (.loc 1) (.val (.int 0))) [.ret (.bin .Add (.bin .Add (.val (.str (tx [40]))) (.loc 2)) (.val (.str (tx [41]))))] [],.ret (.loc 2)] [],.ifs (.cmp .Eq (.attr (.loc 0) 482046190) (.val (.str (tx [99,97,116])))) [.asg (.loc 2) (.meth (.val (.str (tx []))) 500856810 [(.comp (.call 947 [.loc 1,(.val (.int 2))]) [false,true,false,false] (.call 704 [.loc 0]))]),.ifs (.cmp .Gt (.loc 1) (.val (.int 1))) [.ret (.bin .Add (.bin .Add (.val (.str (tx [40]))) (.loc 2)) (.val (.str (tx [41]))))] [],.ret (.loc 2)] [],.asg (.loc 2) (.call 947 [(.attr (.loc 0) 523843554),(.val (.int 2))]),.ifs (.cmp .Eq (.attr (.loc 0) 482046190) (.val (.str (tx [115,116,97,114])))) [.ret (.bin .Add (.loc 2) (.val (.str (tx [42]))))] [],.ifs (.cmp .Eq (.attr (.loc 0) 482046190) (.val (.str (tx [112,108,117,115])))) [.ret (.bin .Add (.loc 2) (.val (.str (tx [43]))))] [],.ifs (.cmp .Eq (.attr (.loc 0) 482046190) (.val (.str (tx [111,112,116])))) [.ret (.bin .Add (.loc 2) (.val (.str (tx [63]))))] [],.ret (.bin .Add (.loc 2) (.call 942 [(.attr (.loc 0) 4061164),(.attr (.loc 0) 488240360)]))]
theorem O_show_at {v0 v1:V}(h:RUN w tb d e_show_at r_show_at [v0,v1] σ Q):CALL w (fr w.params) (d+1) (.ref 947) [v0,v1] σ Q :=
 go1 (st 61) "show_at" (.ref 946) .none pm3 none none 2 [] [] (by kernel_rfl) (tb_ok w) .nil rfl (bn2 fun r0 r1 S'=>by kernel_rfl) h
noncomputable def e_show_regex:NmsE:=[(481900526,.local),(1076481996092531,.globalImplicit),(53057152972,.globalImplicit)]
noncomputable def r_show_regex:List RS:=[.ret (.call 947 [.loc 0,(.val (.int 0))])]
theorem O_show_regex {v0:V}(h:RUN w tb d e_show_regex r_show_regex [v0] σ Q):CALL w (fr w.params) (d+1) (.ref 954) [v0] σ Q :=
 go1 (st 62) "show_regex" (.ref 953) .none pm3 none none 1 [] [] (by kernel_rfl) (tb_ok w) .nil rfl (bn1 fun r0 S'=>by kernel_rfl) h
noncomputable def e_show_pattern:NmsE:=[(1050679436980464,.local),(513684212,.local),(1076481996092531,.globalImplicit),(53057152972,.globalImplicit)]
noncomputable def r_show_pattern:List RS:=[.asg (.loc 1) (.call 947 [(.attr (.loc 0) 523843554),(.val (.int 0))]),.ifs (.attr (.loc 0) 8379166225122) [.asg (.loc 1) (.bin .Add (.val (.str (tx [94]))) (.loc 1))] [],.ifs (.cmp .Is (.attr (.loc 0) 63572572532) (.val .none)) [.ret (.loc 1)] [],.ifs (.meth (.loc 0) 270196792192877890894313 []) [.ret (.bin .Add (.loc 1) (.val (.str (tx [36]))))] [],.ret (.bin .Add (.bin .Add (.loc 1) (.val (.str (tx [47])))) (.call 947 [(.attr (.loc 0) 63572572532),(.val (.int 0))]))]
theorem O_show_pattern {v0:V}(h:RUN w tb d e_show_pattern r_show_pattern [v0] σ Q):CALL w (fr w.params) (d+1) (.ref 961) [v0] σ Q :=
 go1 (st 63) "show_pattern" (.ref 960) .none pm3 none none 1 [] [] (by kernel_rfl) (tb_ok w) .nil rfl (bn1 fun r0 S'=>by kernel_rfl) h
noncomputable def e__law_pen:NmsE:=[(8414063014387,.local)]
noncomputable def r__law_pen:List RS:=[.ret (.list [(.comp (.bi .int [.loc 1]) [false,true,false] (.slcN 0 none (some (.val (.int 63))))),(.val (.int 0)),(.val (.int 0))])]
theorem O__law_pen {v0:V}(h:RUN w tb d e__law_pen r__law_pen [v0] σ Q):CALL w (fr w.params) (d+1) (.ref 966) [v0] σ Q :=
 go1 (st 65) "_law_pen" (.ref 965) .none pm4 none none 1 [] [] (by kernel_rfl) (tb_ok w) .nil rfl (bn1 fun r0 S'=>by kernel_rfl) h
noncomputable def e__law_draw:NmsE:=[(3912432,.local),(524005613,.local),(65720153316,.local),(513538163,.local),(496710371,.local),(65703344487,.local),(61417075949,.local),(4011881,.globalImplicit),(3912428,.globalImplicit),(3993953,.globalImplicit)]
noncomputable def r__law_draw:List RS:=[.ifs (.cmp .Gt (.item (.loc 0) (.val (.int 2))) (.val (.int 0))) [.asg (.loc 2) (.bin .Mod (.bi .int [(.item (.loc 0) (.val (.int 2)))]) (.loc 1)),.sit (.loc 0) (.val (.int 2)) (.bin .FloorDiv (.bi .int [(.item (.loc 0) (.val (.int 2)))]) (.loc 1)),.ret (.loc 2)] [],.asg (.loc 3) (.item (.loc 0) (.val (.int 1))),.sit (.loc 0) (.val (.int 1)) (.bin .Add (.loc 3) (.val (.int 1))),.asg (.loc 4) (.val (.int 0)),.ifs (.cmp .NotEq (.item (.loc 0) (.val (.int 0))) (.list [])) [.asg (.loc 4) (.item (.item (.loc 0) (.val (.int 0))) (.bin .Mod (.bi .int [.loc 3]) (.bi .len [(.item (.loc 0) (.val (.int 0)))])))] [],.ifs (.and (.cmp .Lt (.loc 3) (.bi .len [(.item (.loc 0) (.val (.int 0)))])) (.cmp .GtE (.bi .abs [.loc 4]) (.bin .Pow (.val (.int 10)) (.val (.int 18))))) [.asg (.loc 5) (.bin .Sub (.bi .abs [.loc 4]) (.bin .Pow (.val (.int 10)) (.val (.int 18)))),.sit (.loc 0) (.val (.int 2)) (.bin .FloorDiv (.bi .int [.loc 5]) (.loc 1)),.ret (.bin .Mod (.bi .int [.loc 5]) (.loc 1))] [],.asg (.loc 6) (.bin .Mod (.bi .int [(.bin .Pow (.bin .Add (.bin .Add (.bin .Mod (.bi .int [.loc 4]) (.val (.int 2147483587))) (.bin .Mult (.val (.int 41017)) (.loc 3))) (.val (.int 3001))) (.val (.int 5)))]) (.val (.int 2147483629))),.asg (.loc 6) (.bin .Mod (.bi .int [(.bin .Pow (.bin .Add (.bin .Add (.bin .Mult (.loc 6) (.bin .Add (.bin .Mult (.val (.int 2)) (.loc 3)) (.val (.int 6011)))) (.bin .Mult (.bin .Mult (.val (.int 1009)) (.loc 3)) (.loc 3))) (.val (.int 23))) (.val (.int 3)))]) (.val (.int 2147483579))),.ret (.bin .Mod (.bi .int [(.bin .FloorDiv (.loc 6) (.val (.int 32)))]) (.loc 1))]
theorem O__law_draw {v0 v1:V}(h:RUN w tb d e__law_draw r__law_draw [v0,v1] σ Q):CALL w (fr w.params) (d+1) (.ref 973) [v0,v1] σ Q :=
 go1 (st 66) "_law_draw" (.ref 972) .none pm4 none none 2 [] [] (by kernel_rfl) (tb_ok w) .nil rfl (bn2 fun r0 r1 S'=>by kernel_rfl) h
noncomputable def e__law_leaf:NmsE:=[(3912432,.local),(4092151,.local),(481900515,.cell),(513601772,.cell),(513538163,.local),(479933160,.local),(501005044,.local),(4061164,.local),(16486477119721306601,.local),(65462106227,.local),(17853336711878702687,.globalImplicit),(61689540850,.globalImplicit),(3912941,.globalImplicit),(61700061940,.globalImplicit)]
noncomputable def r__law_leaf (pc:Addr):List RS:=[.asg (.loc 1) (.call 973 [.loc 0,(.val (.int 8))]),.ifs (.cmp .Eq (.loc 1) (.val (.int 6))) [.ret (.item (.list [(.tup [(.val (.str (tx [101,109,112,116,121])))]),(.tup [(.val (.str (tx [110,101,118,101,114])))])]) (.call 973 [.loc 0,(.val (.int 2))]))] [],.ifs (.cmp .Eq (.loc 1) (.val (.int 7))) [.ret (.tup [(.val (.str (tx [99,104,97,114,115]))),(.tup [(.tup [(.val (.int 0)),(.val (.int 9))]),(.tup [(.val (.int 11)),(.val (.int 127))])])])] [],.asgC pc (.call 973 [.loc 0,(.val (.int 128))]),.ifs (.cmp .Lt (.loc 1) (.val (.int 4))) [.ret (.tup [(.val (.str (tx [99,104,97,114,115]))),(.tup [(.tup [.cel pc,.cel pc])])])] [],.asgC pc (.bin .Add (.cel pc) (.call 973 [.loc 0,(.val (.int 2))])),.asgL 5 (.cmp2 .LtE .LtE (.cel pc) (.loc 1) (.cel pc)) [false,true,false,false] (.bi .range [(.val (.int 128))]),.fors (.loc 6) (.bi .range [(.bin .Add (.val (.int 1)) (.call 973 [.loc 0,(.val (.int 3))]))]) [.asg (.loc 7) (.call 973 [.loc 0,(.val (.int 128))]),.fors (.loc 4) (.bi .range [.loc 7,(.bi .min [(.bin .Add (.bin .Add (.loc 7) (.val (.int 1))) (.call 973 [.loc 0,(.val (.int 6))])),(.val (.int 128))])]) [.sit (.loc 5) (.loc 4) (.val (.bool true))]],.asg (.loc 8) (.and (.cmp .Eq (.loc 1) (.val (.int 5))) (.cmp .Eq (.call 973 [.loc 0,(.val (.int 2))]) (.val (.int 1)))),.asg (.loc 9) (.list []),.fors (.loc 4) (.bi .range [(.val (.int 128))]) [.ifs (.cmp .NotEq (.item (.loc 5) (.loc 4)) (.loc 8)) [.ifs (.and (.cmp .NotEq (.loc 9) (.list [])) (.cmp .Eq (.item (.item (.loc 9) (.neg (.val (.int 1)))) (.val (.int 1))) (.bin .Sub (.loc 4) (.val (.int 1))))) [.sit (.loc 9) (.neg (.val (.int 1))) (.tup [(.item (.item (.loc 9) (.neg (.val (.int 1)))) (.val (.int 0))),.loc 4])] [.expr (.meth (.loc 9) 7863761909857 [(.tup [.loc 4,.loc 4])])]] []],.ret (.tup [(.val (.str (tx [99,104,97,114,115]))),(.bi .tuple [.loc 9])])]
noncomputable def e__law_loop:NmsE:=[(3912432,.local),(4092151,.local),(523843554,.local),(4061164,.local),(17853336711878702687,.globalImplicit),(3912941,.globalImplicit)]
noncomputable def r__law_loop:List RS:=[.ifs (.cmp .Eq (.loc 1) (.val (.int 4))) [.ret (.tup [(.val (.str (tx [115,116,97,114]))),.loc 2])] [],.ifs (.cmp .Eq (.loc 1) (.val (.int 5))) [.ret (.tup [(.item (.list [(.val (.str (tx [112,108,117,115]))),(.val (.str (tx [111,112,116])))]) (.call 973 [.loc 0,(.val (.int 2))])),.loc 2])] [],.asg (.loc 3) (.item (.list [(.val (.int 2)),(.val (.int 0)),(.val (.int 1)),(.val (.int 40))]) (.call 973 [.loc 0,(.val (.int 4))])),.ret (.tup [(.val (.str (tx [114,101,112,101,97,116]))),.loc 2,.loc 3,(.item (.list [.loc 3,.val .none,(.val (.int 40)),(.bi .min [(.bin .Add (.loc 3) (.val (.int 1))),(.val (.int 40))])]) (.call 973 [.loc 0,(.val (.int 4))]))])]
theorem O__law_loop {v0 v1 v2:V}(h:RUN w tb d e__law_loop r__law_loop [v0,v1,v2] σ Q):CALL w (fr w.params) (d+1) (.ref 985) [v0,v1,v2] σ Q :=
 go1 (st 68) "_law_loop" (.ref 984) .none pm4 none none 3 [] [] (by kernel_rfl) (tb_ok w) .nil rfl (bn3 fun r0 r1 r2 S'=>by kernel_rfl) h
noncomputable def e__law_tree:NmsE:=[(3912432,.local),(65462385396,.local),(482030832,.local),(501005044,.local),(4092151,.local),(65718056178,.local),(61689540850,.globalImplicit),(17853336711878702687,.globalImplicit),(17356801933699479135,.globalImplicit),(3912428,.globalImplicit),(16628300713507190367,.globalImplicit)]
noncomputable def r__law_tree:List RS:=[.asg (.loc 2) (.list []),.fors (.loc 3) (.bi .range [(.bin .Add (.loc 1) (.call 973 [.loc 0,(.val (.int 4))]))]) [.asg (.loc 4) (.call 973 [.loc 0,(.val (.int 11))]),.ifs (.and (.cmp .NotEq (.loc 2) (.list [])) (.cmp2 .LtE .LtE (.val (.int 4)) (.loc 4) (.val (.int 6)))) [.sit (.loc 2) (.neg (.val (.int 1))) (.call 985 [.loc 0,.loc 4,(.item (.loc 2) (.neg (.val (.int 1))))])] [.ifs (.and (.cmp .Gt (.bi .len [.loc 2]) (.val (.int 1))) (.cmp .Gt (.loc 4) (.val (.int 6)))) [.asg (.loc 5) (.meth (.loc 2) 3946480 []),.sit (.loc 2) (.neg (.val (.int 1))) (.tup [(.item (.list [(.val (.str (tx [99,97,116]))),(.val (.str (tx [97,108,116])))]) (.bin .Mod (.loc 4) (.val (.int 2)))),(.item (.loc 2) (.neg (.val (.int 1)))),.loc 5])] [.ifs (.cmp .Lt (.bi .len [.loc 2]) (.val (.int 5))) [.expr (.meth (.loc 2) 7863761909857 [(.call 978 [.loc 0])])] []]]],.whl (.cmp .Gt (.bi .len [.loc 2]) (.val (.int 1))) [.asg (.loc 5) (.meth (.loc 2) 3946480 []),.sit (.loc 2) (.neg (.val (.int 1))) (.tup [(.item (.list [(.val (.str (tx [99,97,116]))),(.val (.str (tx [97,108,116])))]) (.call 973 [.loc 0,(.val (.int 2))])),(.item (.loc 2) (.neg (.val (.int 1)))),.loc 5])],.ret (.item (.loc 2) (.val (.int 0)))]
theorem O__law_tree {v0 v1:V}(h:RUN w tb d e__law_tree r__law_tree [v0,v1] σ Q):CALL w (fr w.params) (d+1) (.ref 992) [v0,v1] σ Q :=
 go1 (st 69) "_law_tree" (.ref 991) .none pm4 none none 2 [] [] (by kernel_rfl) (tb_ok w) .nil rfl (bn2 fun r0 r1 S'=>by kernel_rfl) h
noncomputable def e__law_node:NmsE:=[(481917300,.local),(482046190,.local),(65470493763,.globalImplicit),(1076616203105347,.globalImplicit),(67085547205,.globalImplicit),(65175139022,.globalImplicit),(4010179,.globalImplicit),(16557976018514114143,.globalImplicit),(4011585,.globalImplicit),(509114963,.globalImplicit),(511538768,.globalImplicit),(4012111,.globalImplicit),(8410028061394,.globalImplicit)]
noncomputable def r__law_node:List RS:=[.asg (.loc 1) (.item (.loc 0) (.val (.int 0))),.ifs (.cmp .Eq (.loc 1) (.val (.str (tx [99,104,97,114,115])))) [.ret (.call 543 [(.meth (.val (.glob 442)) 481898733 [(.item (.loc 0) (.val (.int 1)))])])] [],.ifs (.cmp .Eq (.loc 1) (.val (.str (tx [101,109,112,116,121])))) [.ret (.call 505 [])] [],.ifs (.cmp .Eq (.loc 1) (.val (.str (tx [110,101,118,101,114])))) [.ret (.call 517 [])] [],.ifs (.cmp .Eq (.loc 1) (.val (.str (tx [99,97,116])))) [.ret (.call 588 [(.call 999 [(.item (.loc 0) (.val (.int 1)))]),(.call 999 [(.item (.loc 0) (.val (.int 2)))])])] [],.ifs (.cmp .Eq (.loc 1) (.val (.str (tx [97,108,116])))) [.ret (.call 600 [(.call 999 [(.item (.loc 0) (.val (.int 1)))]),(.call 999 [(.item (.loc 0) (.val (.int 2)))])])] [],.ifs (.cmp .Eq (.loc 1) (.val (.str (tx [115,116,97,114])))) [.ret (.call 645 [(.call 999 [(.item (.loc 0) (.val (.int 1)))])])] [],.ifs (.cmp .Eq (.loc 1) (.val (.str (tx [112,108,117,115])))) [.ret (.call 657 [(.call 999 [(.item (.loc 0) (.val (.int 1)))])])] [],.ifs (.cmp .Eq (.loc 1) (.val (.str (tx [111,112,116])))) [.ret (.call 669 [(.call 999 [(.item (.loc 0) (.val (.int 1)))])])] [],.ret (.call 695 [(.call 999 [(.item (.loc 0) (.val (.int 1)))]),(.item (.loc 0) (.val (.int 2))),(.item (.loc 0) (.val (.int 3)))])]
theorem O__law_node {v0:V}(h:RUN w tb d e__law_node r__law_node [v0] σ Q):CALL w (fr w.params) (d+1) (.ref 999) [v0] σ Q :=
 go1 (st 70) "_law_node" (.ref 998) .none pm4 none none 1 [] [] (by kernel_rfl) (tb_ok w) .nil rfl (bn1 fun r0 S'=>by kernel_rfl) h
noncomputable def e__law_pairs:NmsE:=[(513684212,.local),(61435901926,.local),(7861364684911,.local),(137305976124996073,.local),(513538163,.local),(500823283,.local),(3912428,.globalImplicit)]
noncomputable def r__law_pairs:List RS:=[.asg (.loc 1) (.list []),.asg (.loc 2) (.list []),.asg (.loc 3) (.val (.bool false)),.asg (.loc 4) (.val (.int 0)),.whl (.cmp .Lt (.loc 4) (.bi .len [.loc 0])) [.asg (.loc 5) (.item (.loc 0) (.loc 4)),.ifs (.cmp .Eq (.loc 5) (.val (.str (tx [92])))) [.asg (.loc 4) (.bin .Add (.loc 4) (.val (.int 1)))] [.ifs (.loc 3) [.asg (.loc 3) (.cmp .NotEq (.loc 5) (.val (.str (tx [93]))))] [.ifs (.cmp .Eq (.loc 5) (.val (.str (tx [91])))) [.asg (.loc 3) (.val (.bool true))] [.ifs (.cmp .Eq (.loc 5) (.val (.str (tx [40])))) [.expr (.meth (.loc 2) 7863761909857 [.loc 4])] [.ifs (.cmp .Eq (.loc 5) (.val (.str (tx [41])))) [.expr (.meth (.loc 1) 7863761909857 [(.tup [(.meth (.loc 2) 3946480 []),.loc 4])])] [.ifs (.cmp .In (.loc 5) (.val (.str (tx [32,10,9])))) [.ret (.val .none)] []]]]]],.asg (.loc 4) (.bin .Add (.loc 4) (.val (.int 1)))],.ret (.loc 1)]
theorem O__law_pairs {v0:V}(h:RUN w tb d e__law_pairs r__law_pairs [v0] σ Q):CALL w (fr w.params) (d+1) (.ref 1006) [v0] σ Q :=
 go1 (st 71) "_law_pairs" (.ref 1005) .none pm4 none none 1 [] [] (by kernel_rfl) (tb_ok w) .nil rfl (bn1 fun r0 S'=>by kernel_rfl) h
noncomputable def e__law_heard:NmsE:=[(513684212,.local),(64139032427,.local),(61435901926,.local),(2294732514128437998322,.globalImplicit),(2240119105932305756882,.globalImplicit)]
noncomputable def r__law_heard:List RS:=[.asg (.loc 2) (.val .none),.tr [.asg (.loc 2) (.meth (.call 913 [.loc 0,.loc 1]) 479934452 [])],.ret (.loc 2)]
theorem O__law_heard {v0 v1:V}(h:RUN w tb d e__law_heard r__law_heard [v0,v1] σ Q):CALL w (fr w.params) (d+1) (.ref 1013) [v0,v1] σ Q :=
 go1 (st 72) "_law_heard" (.ref 1012) .none pm4 none none 2 [] [] (by kernel_rfl) (tb_ok w) .nil rfl (bn2 fun r0 r1 S'=>by kernel_rfl) h
noncomputable def e__law_sign:NmsE:=[(481900515,.local),(500823283,.local),(3978339,.globalImplicit)]
noncomputable def r__law_sign:List RS:=[.asg (.loc 1) (.bi .chr [.loc 0]),.ifs (.or (.cmp .Eq (.loc 0) (.val (.int 9))) (.cmp .Eq (.loc 0) (.val (.int 10)))) [.ret (.item (.list [(.val (.str (tx [92,116]))),(.val (.str (tx [92,110])))]) (.bin .Sub (.loc 0) (.val (.int 9))))] [],.ifs (.or (.cmp .LtE (.loc 0) (.val (.int 32))) (.cmp .Eq (.loc 0) (.val (.int 127)))) [.ret (.bin .Add (.bin .Add (.val (.str (tx [92,120]))) (.item (.val (.str (tx [48,49,50,51,52,53,54,55,56,57,97,98,99,100,101,102]))) (.bin .FloorDiv (.loc 0) (.val (.int 16))))) (.item (.val (.str (tx [48,49,50,51,52,53,54,55,56,57,97,98,99,100,101,102]))) (.bin .Mod (.loc 0) (.val (.int 16)))))] [],.ret (.bin .Add (.ite (.cmp .In (.loc 1) (.val (.str (tx [34,91,93,40,41,123,125,46,42,43,63,124,94,36,47,60,37,92])))) (.val (.str (tx [92]))) (.val (.str (tx [])))) (.loc 1))]
theorem O__law_sign {v0:V}(h:RUN w tb d e__law_sign r__law_sign [v0] σ Q):CALL w (fr w.params) (d+1) (.ref 1020) [v0] σ Q :=
 go1 (st 73) "_law_sign" (.ref 1019) .none pm4 none none 1 [] [] (by kernel_rfl) (tb_ok w) .nil rfl (bn1 fun r0 S'=>by kernel_rfl) h
noncomputable def e__law_few_told:NmsE:=[(3912432,.local),(481900515,.local),(3767012,.local),(481900526,.local),(4061164,.local),(488240360,.local),(524005613,.local),(17853336711878702687,.globalImplicit),(17208156998235354719,.globalImplicit),(65470493763,.globalImplicit),(1076616203105347,.globalImplicit),(2294732514128478073971,.globalImplicit),(67085547205,.globalImplicit),(3979891,.globalImplicit),(8410028061394,.globalImplicit)]
noncomputable def r__law_few_told:List RS:=[.asg (.loc 1) (.call 973 [.loc 0,(.val (.int 128))]),.asg (.loc 2) (.call 1020 [.loc 1]),.asg (.loc 3) (.call 543 [(.meth (.val (.glob 442)) 500725875 [.loc 1,.loc 1])]),.asg (.loc 4) (.call 973 [.loc 0,(.val (.int 41))]),.asg (.loc 5) (.bin .Add (.loc 4) (.call 973 [.loc 0,(.bin .Sub (.val (.int 41)) (.loc 4))])),.ifs (.or (.cmp .NotEq (.call 954 [.loc 3]) (.loc 2)) (.or (.cmp .NotEq (.call 954 [(.call 543 [(.meth (.val (.glob 442)) 4012004 [])])]) (.val (.str (tx [46])))) (.cmp .NotEq (.call 954 [(.call 505 [])]) (.val (.str (tx [40,41])))))) [.ret (.val (.bool false))] [],.asg (.loc 6) (.bin .Add (.bin .Add (.bin .Add (.bin .Add (.loc 2) (.val (.str (tx [123])))) (.bi .str [.loc 4])) (.ite (.cmp .Gt (.loc 5) (.loc 4)) (.bin .Add (.val (.str (tx [44]))) (.bi .str [.loc 5])) (.val (.str (tx []))))) (.val (.str (tx [125])))),.ret (.and (.cmp .Eq (.call 954 [(.call 695 [.loc 3,.loc 4,.loc 5])]) (.loc 6)) (.cmp .Eq (.call 954 [(.call 695 [.loc 3,.loc 4,.val .none])]) (.bin .Add (.bin .Add (.bin .Add (.loc 2) (.val (.str (tx [123])))) (.bi .str [.loc 4])) (.val (.str (tx [44,125]))))))]
theorem O__law_few_told {v0:V}(h:RUN w tb d e__law_few_told r__law_few_told [v0] σ Q):CALL w (fr w.params) (d+1) (.ref 1027) [v0] σ Q :=
 go1 (st 74) "_law_few_told" (.ref 1026) .none pm4 none none 1 [] [] (by kernel_rfl) (tb_ok w) .nil rfl (bn1 fun r0 S'=>by kernel_rfl) h
noncomputable def e__law_pattern_told:NmsE:=[(3912432,.local),(481917300,.local),(63572572532,.local),(8379166225122,.local),(64139031667,.local),(479752940,.local),(1050679436980464,.local),(3749733,.local),(16558552368765498975,.globalImplicit),(17853336711878702687,.globalImplicit),(36101070563286312720004211,.globalImplicit),(1050679436980432,.globalImplicit),(16557976018514114143,.globalImplicit),(36101070563286312679928562,.globalImplicit),(3912428,.globalImplicit)]
noncomputable def r__law_pattern_told:List RS:=[.asg (.loc 2) (.item (.list [.val .none,(.tup [(.val (.str (tx [99,104,97,114,115]))),(.tup [(.tup [(.val (.int 10)),(.val (.int 10))])])]),(.call 992 [.loc 0,(.val (.int 1))])]) (.call 973 [.loc 0,(.val (.int 3))])),.asg (.loc 3) (.cmp .Eq (.call 973 [.loc 0,(.val (.int 2))]) (.val (.int 1))),.asg (.loc 4) (.call 961 [(.call 756 [(.call 999 [.loc 1]),.loc 3,(.ite (.cmp .Is (.loc 2) (.val .none)) (.val .none) (.call 999 [.loc 2]))])]),.asg (.loc 5) (.item (.list [(.val (.str (tx []))),(.val (.str (tx [120,32]))),(.val (.str (tx [10])))]) (.call 973 [.loc 0,(.val (.int 3))])),.asg (.two (.loc 6) (.loc 7)) (.call 921 [(.bin .Add (.bin .Add (.loc 5) (.loc 4)) (.item (.list [(.val (.str (tx []))),(.val (.str (tx [32,121]))),(.val (.str (tx [9]))),(.val (.str (tx [10,37,37])))]) (.call 973 [.loc 0,(.val (.int 4))]))),(.bi .len [.loc 5])]),.ret (.and (.cmp .Eq (.meth (.loc 6) 479934452 []) (.tup [.loc 3,.loc 1,.loc 2])) (.cmp .Eq (.loc 7) (.bin .Add (.bi .len [.loc 5]) (.bi .len [.loc 4]))))]
theorem O__law_pattern_told {v0 v1:V}(h:RUN w tb d e__law_pattern_told r__law_pattern_told [v0,v1] σ Q):CALL w (fr w.params) (d+1) (.ref 1034) [v0,v1] σ Q :=
 go1 (st 75) "_law_pattern_told" (.ref 1033) .none pm4 none none 2 [] [] (by kernel_rfl) (tb_ok w) .nil rfl (bn2 fun r0 r1 S'=>by kernel_rfl) h
noncomputable def e_law:NmsE:=[(8414063014387,.local),(3912432,.local),(481917300,.local),(481900526,.local),(513684212,.local),(65470623984,.local),(64134705890,.local),(3749733,.local),(64139032427,.local),(8342386489324,.local),(7863795448161,.local),(134430165655123551,.globalImplicit),(16558552368765498975,.globalImplicit),(16557976018514114143,.globalImplicit),(2294732514128478073971,.globalImplicit),(2249553510905698350687,.globalImplicit),(2111198444070557480543,.globalImplicit),(4426614011012930842199094879,.globalImplicit),(67085547205,.globalImplicit),(1188260150580900410954329670928594527,.globalImplicit)]
noncomputable def r_law:List RS:=[.asg (.loc 1) (.call 966 [.loc 0]),.asg (.loc 2) (.call 992 [.loc 1,(.val (.int 4))]),.asg (.loc 3) (.call 999 [.loc 2]),.asg (.loc 4) (.call 954 [.loc 3]),.asg (.loc 5) (.call 1006 [.loc 4]),.ifs (.or (.cmp .Is (.loc 5) (.val .none)) (.or (.cmp .In (.item (.loc 4) (.val (.int 0))) (.val (.str (tx [60,37,47])))) (.or (.cmp .NotEq (.meth (.loc 3) 479934452 []) (.loc 2)) (.or (.cmp .NotEq (.call 1013 [.loc 4,.val .none]) (.loc 2)) (.not (.call 1027 [.loc 1])))))) [.ret (.val (.bool false))] [],.fors (.two (.loc 6) (.loc 7)) (.loc 5) [.ifs (.and (.cmp .Gt (.loc 7) (.bin .Add (.loc 6) (.val (.int 1)))) (.cmp .Eq (.call 1013 [(.bin .Add (.bin .Add (.slcN 4 none (some (.loc 6))) (.slcN 4 (some (.bin .Add (.loc 6) (.val (.int 1)))) (some (.loc 7)))) (.slcN 4 (some (.bin .Add (.loc 7) (.val (.int 1)))) none)),.val .none]) (.loc 2))) [.ret (.val (.bool false))] []],.asg (.loc 8) (.dict (tx [68]) (tx [69]) (.loc 3) (.call 505 [])),.ifs (.or (.cmp .NotEq (.call 1013 [(.bin .Add (.bin .Add (.val (.str (tx [40]))) (.loc 4)) (.val (.str (tx [41])))),.loc 8]) (.loc 2)) (.cmp .NotEq (.call 1013 [(.val (.str (tx [123,68,125]))),.loc 8]) (.loc 2))) [.ret (.val (.bool false))] [],.asg (.loc 9) (.tup [(.val (.str (tx [97,108,116]))),(.tup [(.val (.str (tx [99,97,116]))),(.tup [(.val (.str (tx [99,97,116]))),(.tup [(.val (.str (tx [99,104,97,114,115]))),(.tup [(.tup [(.val (.int 97)),(.val (.int 97))])])]),.loc 2]),(.tup [(.val (.str (tx [112,108,117,115]))),.loc 2])]),(.ite (.cmp .NotEq (.item (.loc 2) (.val (.int 0))) (.val (.str (tx [97,108,116])))) (.loc 2) (.tup [(.val (.str (tx [101,109,112,116,121])))]))]),.asg (.loc 10) (.bin .Add (.bin .Add (.bin .Add (.val (.str (tx [97,40]))) (.loc 4)) (.val (.str (tx [41,123,68,125,43,124])))) (.ite (.cmp .NotEq (.item (.loc 2) (.val (.int 0))) (.val (.str (tx [97,108,116])))) (.loc 4) (.val (.str (tx [123,69,125]))))),.ret (.and (.cmp .Eq (.call 1013 [.loc 10,.loc 8]) (.loc 9)) (.and (.call 1034 [.loc 1,.loc 2]) (.cmp .Eq (.meth (.loc 3) 479934452 []) (.loc 2))))]
end Hd
end
section
open PySem PySem.W PySem.Calls PyProof.Rows NN
namespace Hd
theorem tx_len {l:List Nat}:(tx l).length=l.length:=by simp [tx,PySem.Str.length]
theorem tx_app {a b:List Nat}:tx a++tx b=tx (a++b):=by
 show PySem.Str.append (tx a) (tx b)=_
 simp [tx,PySem.Str.append]
theorem tx_inj {a b:List Nat}(h:tx a=tx b):a=b:=by
 have:=congrArg (fun s=>s.cps.toList) h
 simpa [tx] using this
theorem tx_beq {a b:List Nat}:(tx a == tx b)=decide (a=b):=by
 by_cases h:a=b
 ·subst h;simp
 ·rw [decide_eq_false h];exact beq_eq_false_iff_ne.mpr fun e=>h (tx_inj e)
theorem tx_bne {a b:List Nat}:(tx a != tx b) = !decide (a=b):=by rw [bne,tx_beq]
theorem inS_tx {c:Nat}{l:List Nat}:inS (tx [c]) (tx l)=decide (c∈l):=by
 unfold inS
 exact PySem.StrLaws.found_one (tx l) c
theorem strAt_tx {l:List Nat}{k:Nat}{c:Nat}(h:l[k]?=some c)(hk:l.length<2^40):strAt (tx l) (k:Int) c:=by
 have hlt:k<l.length:=(List.getElem?_eq_some_iff.mp h).1
 refine ⟨⟨by simp,by lia⟩,?_⟩
 unfold seqIndex?
 rw [tx_len]
 simp only [show ¬ (k:Int)<0 by simp,if_false]
 rw [if_pos (by simp;omega)]
 simpa [tx] using h
theorem fm_mid {α:Type}(l:List α)(a n:Nat)(h:a+n≤l.length):((List.range n).map fun i=>a+i).filterMap (l[·]?)=(l.drop a).take n:=by
 have:=fm_from a (l.take (a+n)) n (by rw [List.length_take];lia)
 rw [List.drop_take,Nat.add_sub_cancel_left] at this
 rw [←this]
 refine fmc fun i hi=>?_
 refine xEAoo (List.mem_map.mp hi) fun j hj er1=>?_;subst er1
 have:=List.mem_range.mp hj
 rw [List.getElem?_take_of_lt (by lia)]
noncomputable def clp (v:Option Int)(d:Int)(n:Nat):Int:=match v with
 |none=>d
 |some i=>max 0 (min (if i<0 then i+n else i) n)
theorem ssi_eq {lo hi:Option Int}{n:Nat}:Builtin.Str.strSliceIndices lo hi 1 n=sliceRange (clp lo 0 n) (clp hi n n) 1:=by
 unfold Builtin.Str.strSliceIndices clp
 cases lo<;>cases hi<;>simp only [show (1:Int) > 0 by decide,if_true]
set_option tactic.hygienic true in
theorem slice_tx {l:List Nat}{lo hi:Option Int}{a b:Nat}(h1:clp lo 0 l.length=(a:Int))(h2:clp hi l.length l.length=(b:Int))(hb:b≤l.length) :
  Txt.slice (tx l) lo hi=tx ((l.drop a).take (b - a)):=by
 unfold Txt.slice
 have key:Builtin.Str.strSliceIndices lo hi 1 (tx l).length=(List.range (b - a)).map fun i=>a+i:=by
  rw [ssi_eq,tx_len,h1,h2]
  unfold sliceRange
  simp only [show (1:Int) > 0 by decide,if_true]
  by_cases hab:(a:Int)<b
  ·rw [if_pos hab,show (((b:Int) - a+1 - 1) / 1).toNat=b - a by rw [Int.ediv_one];simp]
   exact List.map_congr_left fun i _=>by lia
  ·rw [if_neg hab,show b - a=0 by lia];rfl
 rw [key]
 have e2:((List.range (b - a)).map fun i=>a+i).filterMap ((tx l).cps[·]?)=(l.drop a).take (b - a):=by
  by_cases hab:a≤b
  ·rw [←fm_mid l a (b - a) (by lia)]
   refine fmc fun i _=>?_
   simp [tx]
  ·rw [show b - a=0 by lia];simp
 rw [e2]
 split
 ·next h =>
  have hlen:(b - a)=l.length:=by simpa [tx_len] using h
  by_cases h0:l=[]
  ·subst h0;simp
  ·have:=List.length_pos_iff.mpr h0
   have ha:a=0∧b=l.length:=by lia
   rw [ha.1,ha.2];simp
 ·rfl
theorem clp_nat {i n:Nat}{d:Int}:clp (some (i:Int)) d n=((min i n:Nat):Int):=by
 unfold clp
 simp only [show ¬ (i:Int)<0 by lia,if_false]
 lia
theorem slice_to {l:List Nat}{b:Nat}:Txt.slice (tx l) none (some (b:Int))=tx (l.take b):=by
 rw [slice_tx (a:=0) (b:=min b l.length) rfl clp_nat (by lia)]
 congr 1
 by_cases h:b≤l.length
 ·simp [Nat.min_eq_left h]
 ·rw [Nat.min_eq_right (by lia),List.take_of_length_le (show l.length≤b by lia)];simp
theorem slice_from {l:List Nat}{a:Nat}:Txt.slice (tx l) (some (a:Int)) none=tx (l.drop a):=by
 rw [slice_tx (a:=min a l.length) (b:=l.length) clp_nat rfl (Nat.le_refl _)]
 congr 1
 by_cases h:a≤l.length
 ·rw [Nat.min_eq_left h];exact List.take_of_length_le (by simp)
 ·rw [List.drop_of_length_le (i:=a) (by lia),List.drop_of_length_le (by lia)];simp
theorem slice_mid {l:List Nat}{a b:Nat}:Txt.slice (tx l) (some (a:Int)) (some (b:Int))=tx ((l.drop a).take (b - a)):=by
 rw [slice_tx (a:=min a l.length) (b:=min b l.length) clp_nat clp_nat (by lia)]
 congr 1
 by_cases h:a≤l.length
 ·rw [Nat.min_eq_left h]
  by_cases hb:b≤l.length
  ·rw [Nat.min_eq_left hb]
  ·rw [List.take_of_length_le (by simp;omega),List.take_of_length_le (by simp;lia)]
 ·rw [List.drop_of_length_le (i:=a) (by lia),List.drop_of_length_le (by lia)];simp
noncomputable def sg (l:List Nat)(k:Nat):PySem.Str:=match l[k]? with
 |some c=>tx [c]
 |none=>tx []
theorem CALL.to {w:World}{K:Frag}{d:Nat}{f:PySem.Value}{args:List V}{σ σ₀:NN.St}{v₀:V}{Q:V→NN.St→Prop}(h:CALL w K d f args σ fun v σ'=>v=v₀∧σ'=σ₀)(hq:Q v₀ σ₀):CALL w K d f args σ Q :=
 h.mono fun v σ' ⟨e1,e2⟩=>by rw [e1,e2];exact hq
end Hd
end
section
open PySem PySem.W PySem.Calls PyProof.Rows NN
namespace Hd
variable {c:Cx}{σ σ':NN.St}{a C:Addr}{n i:Nat}{vs vs':List V}{v:V}{M:Mc}{K:List Fr}{m:Mp}{f:Addr}{as:List RX}
theorem gA0 {Q:V→Prop}(hm:(a,Cell.ins C (c.T.nsl C) vs)∈σ)(h:Q v)(hi:lk (c.T.fld C) n=some i:=by rfl)(hv:nthV vs i=some v:=by rfl)(ho:okV v=true:=by rfl):getA c (.own a) n σ Q:=⟨C,vs,⟨hm⟩,optP_i hi (optP_i hv (by rw [ho];exact h))⟩
theorem gA (hm:(a,Cell.ins C (c.T.nsl C) vs)∈σ)(h:M.V K v m σ)(hi:lk (c.T.fld C) n=some i:=by rfl)(hv:nthV vs i=some v:=by rfl)(ho:okV v=true:=by rfl):getA c (.own a) n σ fun r=>M.V K r m σ:=gA0 hm h hi hv ho
theorem mO (hm:(a,Cell.ins C (c.T.nsl C) vs)∈σ)(h:M.L as [] (.obj (.own a) f) K m σ)(hf:lk (c.T.meth C) n=some f:=by rfl):mthV M c (.own a) n as K m σ:=by
 refine ⟨_,⟨hm⟩,⟨rfl⟩,?_⟩
 rw [hf]
 exact h
noncomputable def stL:List V→Nat→V→Option (List V)
 |[],0,v=>some [v]
 |[],_+1,_=>none
 |_::vs,0,v=>some (v::vs)
 |u::vs,n+1,v=>match stL vs n v with | some r=>some (u::r) | none=>none
theorem stV_of {u:V}:∀ {vs:List V} {i:Nat} {vs':List V} {f:List V→Prop},stL vs i u=some vs'→f vs'→stV vs i u f
 |[],0,_,_,h,k=>by cases h;exact k
 |[],_+1,_,_,h,k=>by cases h
 |_::vs,0,_,_,h,k=>by cases h;exact k
 |x::vs,n+1,_,f,h,k=>by
  unfold stL at h
  cases e:stL vs n u with
  |none=>rw [e] at h;cases h
  |some r=>rw [e] at h;cases h;exact stV_of (f:=fun r=>f (x::r)) e k
theorem sO {u:V}(hm:(a,Cell.ins C (c.T.nsl C) vs)∈σ)(U:Upc a (.ins C (c.T.nsl C) vs) (.ins C (c.T.nsl C) vs') σ σ')(h:M.F K .next m σ')(hi:lk (c.T.fld C) n=some i:=by rfl)(hv:stL vs i u=some vs':=by rfl):satV M c n u (.own a) K m σ:=by
 refine ⟨C,vs,⟨hm⟩,?_⟩
 rw [hi]
 exact stV_of hv ⟨σ',⟨U⟩,h⟩
theorem bt {A B:Prop}(b:Bool)(e:b=true)(h:A):(b=true→A)∧(b=false→B):=⟨fun _=>h,(fun e'=>by rw [e] at e';cases e')⟩
theorem bf {A B:Prop}(b:Bool)(e:b=false)(h:B):(b=true→A)∧(b=false→B):=⟨(fun e'=>by rw [e] at e';cases e'),fun _=>h⟩
theorem whlL {M:Mc}{K:List Fr}{t:RX}{x rest:List RS}{m:Mp}{σ:NN.St}(P:Nat→Mp→NN.St→Prop)(N:Nat)(h0:P N m σ)
  (step:∀ (I:Nat→Mp→NN.St→Prop) n m σ,P n m σ→(∀ {n' m' σ'},n'<n→P n' m' σ'→∃ n',n'<n∧I n' m' σ')→M.T t (.whT x::.wh I n::.seq rest::K) m σ) :
  ∃ (I:Nat→Mp→NN.St→Prop) (n:Nat),Lf (I n m σ)∧∀ n m σ,I n m σ→M.T t (.whT x::.wh I n::.seq rest::K) m σ :=
 ⟨P,N,⟨h0⟩,fun n m σ h=>step P n m σ h fun a b=>⟨_,a,b⟩⟩
end Hd
end
section
open PySem PySem.W PySem.Calls PyProof.Rows NN
namespace Hd
noncomputable abbrev cur (t:PySem.Str)(n:Int):Cell:=.ins 222 (nslF 222) [.str t,.int n]
structure CS (a:Addr)(t:List Nat)(G:Int→NN.St):Prop where
 c:∀ k,(a,cur (tx t) k)∈G k
 u:∀ k k',Upc a (cur (tx t) k) (cur (tx t) k') (G k) (G k')
 l:t.length≤16000000
variable {w:World}{d:Nat}{σ:NN.St}{a:Addr}{t:List Nat}{G:Int→NN.St}{Q:V→NN.St→Prop}
theorem CS.l60 (H:CS a t G):(tx t).length<2^60:=by rw [tx_len];have:=H.l;omega
theorem CS.l40 (H:CS a t G):t.length<2^40:=by have:=H.l;omega
theorem CS.l24 (H:CS a t G):(tx t).length≤16777216:=by rw [tx_len];have:=H.l;omega
theorem back {v v':V}(h:Q v σ)(e:v'=v):NN.Back Q v' σ:=⟨_,_,.rfl,by rw [e];exact h⟩
theorem back' {v:V}(h:Q v σ):NN.Back Q v σ:=⟨_,_,.rfl,h⟩
theorem lt_of {t:List Nat}{k:Int}{n:Nat}(e:k=n)(h:decide (k<((tx t).length:Int))=true):n<t.length:=by
 have:=of_decide_eq_true h;rw [tx_len,e] at this;omega
theorem ge_of {t:List Nat}{k:Int}{n:Nat}(e:k=n)(h:decide (k<((tx t).length:Int))=false):t.length≤n:=by
 have:=of_decide_eq_false h;rw [tx_len,e] at this;omega
theorem sg_at {k:Nat}(h:k<t.length):sg t k=tx [t[k]]:=by unfold sg;rw [List.getElem?_eq_getElem h]
theorem sg_no {k:Nat}(h:t.length≤k):sg t k=tx []:=by unfold sg;rw [List.getElem?_eq_none h]
theorem CS.sa (H:CS a t G){k:Nat}(h:k<t.length){j:Int}(e:j=k):strAt (tx t) j t[k]:=by rw [e];exact strAt_tx (List.getElem?_eq_getElem h) H.l40
theorem c_done (H:CS a t G){k:Nat}(hq:Q (.bool (decide (t.length≤k))) (G k)):CALL w (fr w.params) (d+1) (.ref 119) [.own a] (G k) Q:=by
 refine O_Cursor_is_done ?_
 refine gA (H.c _) ?_
 refine gA (H.c _) ?_
 refine ⟨⟨H.l60⟩,back hq ?_⟩
 simp [retv,tx_len]
theorem c_peekj (H:CS a t G){k j:Nat}(hq:Q (.str (sg t (k+j))) (G k)):CALL w (fr w.params) (d+1) (.ref 127) [.own a,.int j] (G k) Q:=by
 refine O_Cursor_peek ?_
 refine gA (H.c _) ?_
 refine gA (H.c _) ?_
 refine ⟨⟨H.l60⟩,fun h=>?_,fun h=>back hq ?_⟩
 ·have h':=lt_of (n:=k+j) rfl h
  rw [sg_at h'] at hq
  refine gA (H.c _) ?_
  exact ⟨_,⟨H.sa h' rfl⟩,back' hq⟩
 ·rw [sg_no (ge_of (n:=k+j) rfl h)];rfl
theorem c_peek (H:CS a t G){k:Nat}(hq:Q (.str (sg t k)) (G k)):CALL w (fr w.params) (d+1) (.ref 127) [.own a] (G k) Q:=by
 refine O_Cursor_peek_1 ?_
 refine gA (H.c _) ?_
 refine gA (H.c _) ?_
 refine ⟨⟨H.l60⟩,fun h=>?_,fun h=>back hq ?_⟩
 ·have h':=lt_of (n:=k) (Int.add_zero _) h
  rw [sg_at h'] at hq
  refine gA (H.c _) ?_
  exact ⟨_,⟨H.sa h' (Int.add_zero _)⟩,back' hq⟩
 ·rw [sg_no (ge_of (n:=k) (Int.add_zero _) h)];rfl
theorem c_take (H:CS a t G){k c:Nat}(hc:t[k]?=some c)(hq:Q (.str (tx [c])) (G (k+1))):CALL w (fr w.params) (d+2) (.ref 141) [.own a] (G k) Q:=by
 have hk:k<t.length:=(List.getElem?_eq_some_iff.mp hc).1
 refine O_Cursor_take ?_
 refine mO (H.c _) ⟨c_done H (bf _ (decide_eq_false (Nat.not_le.mpr hk)) ?_)⟩
 refine gA (H.c _) ?_
 refine gA (H.c _) ?_
 refine ⟨c,⟨strAt_tx hc H.l40⟩,?_⟩
 refine gA (H.c _) ?_
 exact sO (H.c _) (H.u _ _) (back' hq)
theorem c_starts (H:CS a t G){k:Nat}{ws:List Nat}(hq:Q (.bool (decide ((t.drop k).take ws.length=ws))) (G k))(hw:ws.length≤1000:=by decide):CALL w (fr w.params) (d+1) (.ref 134) [.own a,.str (tx ws)] (G k) Q:=by
 refine O_Cursor_starts ?_
 refine gA (H.c _) ?_
 refine ⟨⟨H.l24⟩,?_⟩
 refine gA (H.c _) ?_
 refine gA (H.c _) ?_
 refine ⟨⟨by rw [tx_len];omega⟩,tx ((t.drop k).take ws.length),⟨?_⟩,back hq ?_⟩
 rotate_left
 ·exact congrArg V.bool tx_beq
 have e:(k:Int)+((tx ws).length:Int)=((k+ws.length:Nat):Int):=by rw [tx_len];omega
 rw [e,slice_mid,Nat.add_sub_cancel_left]
theorem c_skipY (H:CS a t G){k:Nat}{ws:List Nat}(h:(t.drop k).take ws.length=ws)(hq:Q (.bool true) (G (k+ws.length:Nat)))(hw:ws.length≤1000:=by decide):CALL w (fr w.params) (d+2) (.ref 148) [.own a,.str (tx ws)] (G k) Q:=by
 rw [←tx_len (l:=ws)] at hq
 refine O_Cursor_skip ?_
 refine mO (H.c _) ⟨c_starts H (bf _ (by rw [decide_eq_true h];rfl) ?_) hw⟩
 refine gA (H.c _) ?_
 refine ⟨⟨by rw [tx_len];omega⟩,?_⟩
 exact sO (H.c _) (H.u _ _) (back' hq)
theorem c_skipN (H:CS a t G){k:Nat}{ws:List Nat}(h:¬ (t.drop k).take ws.length=ws)(hq:Q (.bool false) (G k))(hw:ws.length≤1000:=by decide):CALL w (fr w.params) (d+2) (.ref 148) [.own a,.str (tx ws)] (G k) Q:=by
 refine O_Cursor_skip ?_
 exact mO (H.c _) ⟨c_starts H (bt _ (by rw [decide_eq_false h];rfl) (back' hq)) hw⟩
theorem tw_at {p:Nat→Bool}{l:List Nat}{k i:Nat}(hi:i<((l.drop k).takeWhile p).length):∃ c,l[k+i]?=some c∧p c=true:=by
 refine xEo (⟨_,List.getElem?_eq_getElem hi⟩:∃ c,((l.drop k).takeWhile p)[i]?=some c) fun c hc=>?_
 refine ⟨c,?_,List.all_eq_true.mp (List.all_takeWhile (p:=p) (l:=l.drop k)) _ (List.mem_of_getElem? hc)⟩
 have e:=List.prefix_iff_eq_take.mp (List.takeWhile_prefix p (l:=l.drop k))
 rw [e,List.getElem?_take_of_lt hi,List.getElem?_drop] at hc
 exact hc
theorem tw_end {p:Nat→Bool}:∀ {l:List Nat} {c:Nat},l[(l.takeWhile p).length]?=some c→p c=false
 |[],_,h=>by simp at h
 |x::l,c,h=>by
  rw [List.takeWhile_cons] at h
  by_cases hx:p x=true
  ·rw [if_pos hx] at h
   exact tw_end (l:=l) (by simpa using h)
  ·rw [if_neg hx] at h
   simp at h;subst h;simpa using hx
theorem tw_take {p:Nat→Bool}{l:List Nat}:l.take (l.takeWhile p).length=l.takeWhile p:=(List.prefix_iff_eq_take.mp (List.takeWhile_prefix p)).symm
theorem c_takeWhile (H:CS a t G){k:Nat}{ss:List Nat}(hq:Q (.str (tx ((t.drop k).takeWhile (·∈ss)))) (G (k+((t.drop k).takeWhile (·∈ss)).length:Nat))):CALL w (fr w.params) (d+1) (.ref 155) [.own a,.str (tx ss)] (G k) Q:=by
 refine O_Cursor_take_while ?_
 refine gA (H.c _) ?_
 revert hq
 refine gen ((t.drop k).takeWhile (·∈ss)).length fun N hN hq=>?_
 have hsl:tx ((t.drop k).takeWhile (·∈ss))=Txt.slice (tx t) (some (k:Int)) (some ((k+N:Nat):Int)):=by
  rw [slice_mid,Nat.add_sub_cancel_left,←hN,tw_take]
 have hle:k+N≤t.length∨N=0:=by
  have:=(List.takeWhile_prefix (·∈ss) (l:=t.drop k)).length_le
  rw [List.length_drop] at this
  omega
 have hat:∀ i (h:k+i<t.length),i<N→t[k+i]∈ss:=fun i h hi=>by
  refine xEAoo (tw_at (p:=(·∈ss)) (l:=t) (k:=k) (i:=i) (by rw [hN];exact hi)) fun c hc hp=>?_
  rw [List.getElem?_eq_getElem h] at hc
  cases hc
  exact of_decide_eq_true hp
 have hno:∀ (h:k+N<t.length),¬ t[k+N]∈ss:=fun h=>by
  have:=tw_end (p:=(·∈ss)) (l:=t.drop k) (c:=t[k+N]) (by rw [hN,List.getElem?_drop];exact List.getElem?_eq_getElem h)
  exact of_decide_eq_false this
 have ret:∀ {i:Nat},i=N→∃ r,Lf (r=Txt.slice (tx t) (some (k:Int)) (some ((k+i:Nat):Int)))∧NN.Back Q (.str r) (G (k+i:Nat)):=fun e=>by subst e;exact ⟨_,⟨hsl⟩,back' hq⟩
 refine ⟨fun n m σ=>∃ i,i≤N∧n=N - i∧m=[some (.own a),some (.str (tx ss)),some (.int k),none]∧σ=G (k+i:Nat),N,⟨⟨0,Nat.zero_le _,rfl,rfl,rfl⟩⟩,?_⟩
 rintro n m σ ⟨i,hi,rfl,rfl,rfl⟩
 refine gA (H.c _) ?_
 refine gA (H.c _) ?_
 refine ⟨⟨H.l60⟩,fun h=>?_,fun h=>?_⟩
 ·have h':=lt_of (n:=k+i) rfl h
  refine gA (H.c _) ?_
  refine gA (H.c _) ?_
  refine ⟨_,⟨H.sa h' rfl⟩,?_⟩
  show (inS (tx [t[k+i]]) (tx ss)=true→_)∧(inS (tx [t[k+i]]) (tx ss)=false→_)
  rw [inS_tx]
  refine ⟨fun h2=>?_,fun h2=>?_⟩
  ·have hlt:i<N:=(Nat.lt_or_eq_of_le hi).resolve_right fun e=>by subst e;exact hno h' (of_decide_eq_true h2)
   refine gA (H.c _) ?_
   exact sO (H.c _) (H.u _ _) ⟨N - (i+1),by omega,i+1,hlt,rfl,rfl,rfl⟩
  ·have he:i=N:=(Nat.lt_or_eq_of_le hi).resolve_left fun e=>of_decide_eq_false h2 (hat i h' e)
   refine gA (H.c _) ?_
   refine ⟨⟨H.l24⟩,?_⟩
   refine gA (H.c _) ?_
   exact ret he
 ·have he:i=N:=by have:=ge_of (n:=k+i) rfl h;omega
  refine bf _ rfl ?_
  refine gA (H.c _) ?_
  refine ⟨⟨H.l24⟩,?_⟩
  refine gA (H.c _) ?_
  exact ret he
end Hd
end
section
open PySem PySem.W PySem.Calls PyProof.Rows NN
namespace Hd
section
variable {c:Cx}{σ σ':NN.St}{a C:Addr}{n i:Nat}{ns:List PySem.Str}{vs vs' us:List V}{v:V}{M:Mc}{K:List Fr}{m:Mp}{f:Addr}{as:List RX}
theorem gI {Q:V→Prop}(h:Q v)(hns:ns=c.T.nsl C:=by rfl)(hi:lk (c.T.fld C) n=some i:=by rfl)(hv:nthV vs i=some v:=by rfl)(ho:okV v=true:=by rfl):Lf (ns=c.T.nsl C)∧fldV c C vs n fun v=>bif okV v then Q v else False:=⟨⟨hns⟩,optP_i hi (optP_i hv (by rw [ho];exact h))⟩
theorem gC {Q:V→Prop}(h:Q v)(hns:ns=c.T.nsl C:=by rfl)(hi:lk (c.T.fld C) n=none:=by rfl)(hv:lk (c.T.cla C) n=some v:=by rfl)(ho:okV v=true:=by rfl):Lf (ns=c.T.nsl C)∧fldV c C vs n fun v=>bif okV v then Q v else False:=⟨⟨hns⟩,optP_n hi (optP_i hv (by rw [ho];exact h))⟩
theorem mApp (hm:(a,Cell.lst us)∈σ)(h:M.L as [] (.lm .append (.own a)) K m σ)(hf:lk c.T.lm n=some .append:=by rfl):mthV M c (.own a) n as K m σ:=by
 refine ⟨_,⟨hm⟩,?_⟩
 dsimp only
 rw [hf]
 exact h
theorem mPop (hm:(a,Cell.lst us)∈σ)(h:M.L as [] (.lm .pop (.own a)) K m σ)(hf:lk c.T.lm n=some .pop:=by rfl):mthV M c (.own a) n as K m σ:=by
 refine ⟨_,⟨hm⟩,?_⟩
 dsimp only
 rw [hf]
 exact h
theorem mRev (hm:(a,Cell.lst us)∈σ)(h:M.L as [] (.lm .reverse (.own a)) K m σ)(hf:lk c.T.lm n=some .reverse:=by rfl):mthV M c (.own a) n as K m σ:=by
 refine ⟨_,⟨hm⟩,?_⟩
 dsimp only
 rw [hf]
 exact h
end
variable {w:World}{d:Nat}{σ:NN.St}{Q:V→NN.St→Prop}{v:V}
theorem back1 {v:V}{p:Addr×Cell}(h:Q v σ):NN.Back Q v (p::σ):=⟨_,_,.drop,h⟩
theorem back2 {v:V}{p q:Addr×Cell}(h:Q v σ):NN.Back Q v (p::q::σ):=⟨_,_,.trans .drop .drop,h⟩
noncomputable abbrev Sp:=List (Nat×Nat)
noncomputable def tn (p:Nat×Nat):V:=.tup [.int p.1,.int p.2]
noncomputable abbrev csV (s:Sp):V:=.inst 442 (nslF 442) [.tup (s.map tn)]
theorem nd_ (w:World)(C:Addr):(nslF C).Nodup:=((tb_ok w).nsl C).1
theorem k_CharSet (hq:Q (.inst 442 (nslF 442) [v]) σ):CALL w (fr w.params) (d+2) (.ref 442) [v] σ Q:=by
 refine call_class (ns:=nslF 442) (K_CharSet _) (I_CharSet _) (J_CharSet _) (nd_ w _) fun a=>O_CharSet___init__ ?_
 exact sO (.head _) .head (back' ⟨rfl,_,_,.ins,hq⟩)
theorem k_Chars (hq:Q (.inst 543 (nslF 543) [v]) σ):CALL w (fr w.params) (d+2) (.ref 543) [v] σ Q:=by
 refine call_class (ns:=nslF 543) (K_Chars _) (I_Chars _) (J_Chars _) (nd_ w _) fun a=>O_Chars___init__ ?_
 exact sO (.head _) .head (back' ⟨rfl,_,_,.ins,hq⟩)
variable {u:V}
theorem k_Cat (hq:Q (.inst 588 (nslF 588) [v,u]) σ):CALL w (fr w.params) (d+2) (.ref 588) [v,u] σ Q:=by
 refine call_class (ns:=nslF 588) (K_Cat _) (I_Cat _) (J_Cat _) (nd_ w _) fun a=>O_Pair___init__ ?_
 refine sO (.head _) .head ?_
 exact sO (.head _) .head (back' ⟨rfl,_,_,.ins,hq⟩)
theorem k_Alt (hq:Q (.inst 600 (nslF 600) [v,u]) σ):CALL w (fr w.params) (d+2) (.ref 600) [v,u] σ Q:=by
 refine call_class (ns:=nslF 600) (K_Alt _) (I_Alt _) (J_Alt _) (nd_ w _) fun a=>O_Pair___init__ ?_
 refine sO (.head _) .head ?_
 exact sO (.head _) .head (back' ⟨rfl,_,_,.ins,hq⟩)
theorem k_Star (hq:Q (.inst 645 (nslF 645) [v]) σ):CALL w (fr w.params) (d+2) (.ref 645) [v] σ Q:=by
 refine call_class (ns:=nslF 645) (K_Star _) (I_Star _) (J_Star _) (nd_ w _) fun a=>O_Loop___init__ ?_
 exact sO (.head _) .head (back' ⟨rfl,_,_,.ins,hq⟩)
theorem k_Plus (hq:Q (.inst 657 (nslF 657) [v]) σ):CALL w (fr w.params) (d+2) (.ref 657) [v] σ Q:=by
 refine call_class (ns:=nslF 657) (K_Plus _) (I_Plus _) (J_Plus _) (nd_ w _) fun a=>O_Loop___init__ ?_
 exact sO (.head _) .head (back' ⟨rfl,_,_,.ins,hq⟩)
theorem k_Opt (hq:Q (.inst 669 (nslF 669) [v]) σ):CALL w (fr w.params) (d+2) (.ref 669) [v] σ Q:=by
 refine call_class (ns:=nslF 669) (K_Opt _) (I_Opt _) (J_Opt _) (nd_ w _) fun a=>O_Loop___init__ ?_
 exact sO (.head _) .head (back' ⟨rfl,_,_,.ins,hq⟩)
theorem k_Empty (hq:Q (.inst 505 [] []) σ):CALL w (fr w.params) d (.ref 505) [] σ Q:=call_class0 (K_Empty _) (I_Empty _) hq
theorem k_Never (hq:Q (.inst 517 [] []) σ):CALL w (fr w.params) d (.ref 517) [] σ Q:=call_class0 (K_Never _) (I_Never _) hq
noncomputable def hiV:Option Nat→V
 |none=>.none
 |some n=>.int n
theorem k_Repeat {l:Nat}{h:Option Nat}(hl:l≤40)(hh:∀ n,h=some n→l≤n∧n≤40)(hq:Q (.inst 695 (nslF 695) [v,.int l,hiV h]) σ):CALL w (fr w.params) (d+3) (.ref 695) [v,.int l,hiV h] σ Q:=by
 refine call_class (ns:=nslF 695) (K_Repeat _) (I_Repeat _) (J_Repeat _) (nd_ w _) fun a=>O_Repeat___init__ ?_
 refine ⟨O_Loop___init__ ?_⟩
 refine sO (.head _) .head (back' ?_)
 refine bf _ (decide_eq_false (by simp)) ?_
 refine bf _ (decide_eq_false (by lia)) ?_
 cases h with
 |none =>
  refine bf _ rfl ?_
  refine bf _ rfl ?_
  refine sO (.head _) .head ?_
  exact sO (.head _) .head (back' ⟨rfl,_,_,.ins,hq⟩)
 |some n =>
  refine xAoo (hh n rfl) fun h1 h2=>?_
  refine bt _ rfl ?_
  refine bf _ (decide_eq_false (by lia)) ?_
  refine bf _ (decide_eq_false (by lia)) ?_
  refine sO (.head _) .head ?_
  exact sO (.head _) .head (back' ⟨rfl,_,_,.ins,hq⟩)
theorem k_none (hq:Q (csV []) σ):CALL w (fr w.params) (d+3) (.ref 297) [] σ Q:=O_CharSet_none ⟨k_CharSet (back' hq)⟩
theorem k_dot (hq:Q (csV [(0,9),(11,127)]) σ):CALL w (fr w.params) (d+3) (.ref 317) [] σ Q:=O_CharSet_dot ⟨k_CharSet (back' hq)⟩
theorem k_key (hq:Q v σ)(ho:okV v=true:=by rfl):CALL w (fr w.params) (d+1) (.ref 439) [.inst 442 (nslF 442) [v]] σ Q:=by
 refine O_CharSet_key ?_
 exact gI (back' hq) (ho:=ho)
theorem k_isEmpty {s:Sp}(hl:s.length≤1000)(hq:Q (.bool s.isEmpty) σ):CALL w (fr w.params) (d+1) (.ref 383) [csV s] σ Q:=by
 refine O_CharSet_is_empty ?_
 refine gI ?_
 refine ⟨⟨by rw [List.length_map];exact zz6⟩,back hq ?_⟩
 rw [List.length_map]
 cases s with
 |nil=>rfl
 |cons p s=>show V.bool (decide ((((p::s).length:Nat):Int)=0))=_;rw [decide_eq_false (by simp;lia)];rfl
end Hd
end
section
open PySem PySem.W PySem.Calls PyProof.Rows NN
namespace Hd
variable {w:World}{d:Nat}{σ:NN.St}{Q:V→NN.St→Prop}{v:V}
theorem bq {A B p:Prop}[Decidable p](b:Bool)(e:b=decide p)(h1:p→A)(h2:¬ p→B):(b=true→A)∧(b=false→B):=⟨fun h=>h1 (of_decide_eq_true (e▸h)),fun h=>h2 (of_decide_eq_false (e▸h))⟩
theorem ll {x y:PySem.Str}{a b:List Nat}(hl:a.length+b.length≤16777216:=by simp)(e1:x=tx a:=by rfl)(e2:y=tx b:=by rfl):Lf (x.length+y.length≤sizeLine):=⟨by rw [e1,e2,tx_len,tx_len];exact hl⟩
theorem lb {x y:PySem.Str}(h:Nat.ble (x.length+y.length) 16777216=true:=by rfl):Lf (x.length+y.length≤sizeLine):=⟨Nat.le_of_ble_eq_true h⟩
theorem inT {c:Nat}{l:List Nat}{x:PySem.Str}(e:x=tx [c]:=by rfl):inS x (tx l)=decide (c∈l):=by rw [e];exact inS_tx
theorem eqT {a b:List Nat}{x:PySem.Str}(e:x=tx a:=by rfl):(x == tx b)=decide (a=b):=by rw [e];exact tx_beq
theorem neT {a b:List Nat}{x:PySem.Str}(e:x=tx a:=by rfl):(x != tx b)=decide (a≠b):=by rw [e,tx_bne];by_cases h:a=b<;>simp [h]
theorem ltN {i:Int}{a b:Nat}(e1:i=a:=by rfl){j:Int}(e2:j=b:=by rfl):decide (i<j)=decide (a<b):=by rw [e1,e2];simp
theorem gtN {i:Int}{a b:Nat}(e1:i=a:=by rfl){j:Int}(e2:j=b:=by rfl):decide (i > j)=decide (b<a):=by rw [e1,e2];simp
noncomputable def hx (n:Nat):Nat:=if n<10 then 48+n else 87+n
noncomputable def esc (c:Nat):List Nat:=[92,120,hx (c / 16),hx (c % 16)]
theorem hx_at:∀ n,n<16→([48,49,50,51,52,53,54,55,56,57,97,98,99,100,101,102]:List Nat)[n]?=some (hx n):=by unfold hx;decide
theorem fd {a b:Nat}:((a / b:Nat):Int)=Int.fdiv a b:=by rw [Int.fdiv_eq_ediv_of_nonneg _ (by simp)];rfl
theorem fm {a b:Nat}:((a % b:Nat):Int)=Int.fmod a b:=by rw [Int.fmod_eq_emod_of_nonneg _ (by lia)];rfl
theorem hx_q {c:Nat}(h:c<128):strAt (tx [48,49,50,51,52,53,54,55,56,57,97,98,99,100,101,102]) (c / 16:Nat) (hx (c / 16)):=by
 exact strAt_tx (hx_at _ (by lia)) (by decide)
theorem hx_r {c:Nat}:strAt (tx [48,49,50,51,52,53,54,55,56,57,97,98,99,100,101,102]) (c % 16:Nat) (hx (c % 16)):=by
 exact strAt_tx (hx_at _ (by lia)) (by decide)
noncomputable def shc (c:Nat):List Nat:=if c∈[92,93,91,94,45] then [92,c] else if c<32∨126<c then esc c else [c]
noncomputable def marks:List Nat:=[34,91,93,40,41,123,125,46,42,43,63,124,94,36,47,60,37]
noncomputable def shs (c:Nat):List Nat:=if c=32 then [92,120,50,48] else if c=10 then [92,110] else if c=9 then [92,116] else if c∈marks∨c=92 then [92,c] else if c<32∨126<c then esc c else [c]
theorem k_showCode {c:Nat}(h:c<128)(hq:Q (.str (tx (shc c))) σ):CALL w (fr w.params) (d+1) (.ref 453) [.int c] σ Q:=by
 unfold shc at hq
 refine O_show_code ?_
 refine ⟨⟨by lia,by lia⟩,?_⟩
 refine bq _ (inT (c:=c)) (fun h1=>?_) fun h1=>?_
 ·rw [if_pos h1] at hq
  exact ⟨lb,back' hq⟩
 rw [if_neg h1] at hq
 refine bq _ ltN (fun h2=>?_) fun h2=>?_
 ·rw [if_pos (.inl h2)] at hq
  refine bt _ rfl ?_
  refine ⟨⟨by decide,rfl⟩,_,⟨fd⟩,_,⟨hx_q h⟩,?_⟩
  refine ⟨lb,⟨by decide⟩,_,⟨fm⟩,_,⟨hx_r⟩,?_⟩
  exact ⟨lb,back' hq⟩
 refine bq _ gtN (fun h3=>?_) fun h3=>?_
 ·rw [if_pos (.inr h3)] at hq
  refine ⟨⟨by decide,rfl⟩,_,⟨fd⟩,_,⟨hx_q h⟩,?_⟩
  refine ⟨lb,⟨by decide⟩,_,⟨fm⟩,_,⟨hx_r⟩,?_⟩
  exact ⟨lb,back' hq⟩
 rw [if_neg (fun h=>h.elim h2 h3)] at hq
 exact back' hq
theorem k_hex {c:Nat}(h:c<128)(hq:Q (.str (tx (esc c))) σ):CALL w (fr w.params) (d+1) (.ref 233) [.int c] σ Q:=by
 refine O_hex_escape ?_
 refine ⟨⟨by decide,rfl⟩,_,⟨fd⟩,_,⟨hx_q h⟩,?_⟩
 refine ⟨lb,⟨by decide⟩,_,⟨fm⟩,_,⟨hx_r⟩,?_⟩
 exact ⟨lb,back' hq⟩
theorem k_showSign {c:Nat}(h:c<128)(hq:Q (.str (tx (shs c))) σ):CALL w (fr w.params) (d+3) (.ref 928) [.str (tx [c])] σ Q:=by
 unfold shs at hq
 refine O_show_sign ?_
 refine bq _ (eqT (a:=[c]) (b:=[32])) (fun h1=>?_) fun h1=>?_
 ·rw [if_pos (List.cons.inj h1).1] at hq
  exact back' hq
 rw [if_neg (fun e=>h1 (by rw [e]))] at hq
 refine ⟨O_escaped_sign ?_⟩
 refine bq _ (eqT (a:=[c]) (b:=[10])) (fun h1=>?_) fun h1=>?_
 ·rw [if_pos (List.cons.inj h1).1] at hq
  exact back' (back' hq)
 rw [if_neg (fun e=>h1 (by rw [e]))] at hq
 refine bq _ (eqT (a:=[c]) (b:=[9])) (fun h1=>?_) fun h1=>?_
 ·rw [if_pos (List.cons.inj h1).1] at hq
  exact back' (back' hq)
 rw [if_neg (fun e=>h1 (by rw [e]))] at hq
 refine bq _ (inT (c:=c)) (fun h1=>?_) fun h1=>?_
 ·rw [if_pos (.inl h1)] at hq
  refine bt _ rfl ?_
  exact ⟨lb,back' (back' hq)⟩
 refine bq _ (eqT (a:=[c]) (b:=[92])) (fun h2=>?_) fun h2=>?_
 ·rw [if_pos (.inr (List.cons.inj h2).1)] at hq
  exact ⟨lb,back' (back' hq)⟩
 rw [if_neg (fun e=>e.elim h1 fun e=>h2 (by rw [e]))] at hq
 refine ⟨c,⟨rfl⟩,?_⟩
 refine bq _ ltN (fun h2=>?_) fun h2=>?_
 ·rw [if_pos (.inl h2)] at hq
  refine bt _ rfl ?_
  refine bt _ (decide_eq_true (by lia)) ?_
  exact ⟨k_hex h (back' (back' hq))⟩
 refine bq _ gtN (fun h3=>?_) fun h3=>?_
 ·rw [if_pos (.inr h3)] at hq
  refine bt _ (decide_eq_true (by lia)) ?_
  exact ⟨k_hex h (back' (back' hq))⟩
 rw [if_neg (fun h=>h.elim h2 h3)] at hq
 refine bf _ rfl ?_
 exact back' (back' hq)
end Hd
end
section
open PySem PySem.W PySem.Calls PyProof.Rows NN
namespace Hd
structure LI {α:Type}(P:List α→Mp→NN.St→Prop)(l:List α)(i:Nat)(m:Mp)(σ:NN.St):Prop where
 out:∃ dn td,dn++td=l∧dn.length=i∧P dn m σ
theorem LI.next {α:Type}{P:List α→Mp→NN.St→Prop}{l:List α}{m:Mp}{σ:NN.St}{dn td:List α}{x:α}(e:dn++x::td=l)(h:P (dn++[x]) m σ):LI P l (dn.length+1) m σ :=
 ⟨dn++[x],td,by rw [←e];simp,by simp,h⟩
theorem map_at {α:Type}{f:α→V}{l:List α}{i:Nat}{u:V}{dn td:List α}(h:(l.map f)[i]?=some u)(e:dn++td=l)(hi:dn.length=i):∃ x r,td=x::r∧u=f x:=by
 subst e hi
 cases td with
 |nil=>rw [List.append_nil,List.getElem?_eq_none (by simp)] at h;cases h
 |cons x r =>
  refine ⟨x,r,rfl,?_⟩
  rw [List.map_append,List.getElem?_append_right (by simp)] at h
  simpa using h.symm
theorem forL0 {α:Type}{l:List α}{f:α→V}{M:Mc}{K:List Fr}{t:RT}{b:List RS}{m:Mp}{σ:NN.St}{it:V}(P:List α→Mp→NN.St→Prop)(hs:srcV it (l.map f))(h0:P [] m σ)
  (step:∀ dn x td m σ,dn++x::td=l→P dn m σ→M.A t (f x) (.body b::.frr (LI P l) dn.length::K) m σ) (hend:∀ m σ,P l m σ→M.F K .next m σ) :
  ∃ vs,Lf (srcV it vs)∧∃ I:Nat→Mp→NN.St→Prop,Lf (I 0 m σ)∧(∀ i u m σ,vs[i]?=some u→I i m σ→M.A t u (.body b::.frr I i::K) m σ)∧∀ m σ,I vs.length m σ→M.F K .next m σ:=by
 refine ⟨l.map f,⟨hs⟩,LI P l,⟨⟨[],l,rfl,rfl,h0⟩⟩,fun i u m σ hu ⟨dn,td,e,hi,hp⟩=>?_,fun m σ ⟨dn,td,e,hi,hp⟩=>hend m σ ?_⟩
 ·refine xEEAoo (map_at hu e hi) fun x r er1 er2=>?_;subst er1;subst er2
  subst hi
  exact step dn x r m σ e hp
 ·have:td=[]:=List.eq_nil_of_length_eq_zero (by have:=congrArg List.length e;rw [List.length_append,hi,List.length_map] at this;lia)
  subst this
  rw [List.append_nil] at e
  rw [←e];exact hp
theorem forL {α:Type}{l:List α}{f:α→V}{M:Mc}{K:List Fr}{t:RT}{b:List RS}{m:Mp}{σ:NN.St}{it:V}(P:List α→Mp→NN.St→Prop)(hs:srcV it (l.map f))(h0:P [] m σ)
  (step:∀ (I:Nat→Mp→NN.St→Prop) dn x td m σ,dn++x::td=l→P dn m σ→(∀ {m' σ'},P (dn++[x]) m' σ'→I (dn.length+1) m' σ')→M.A t (f x) (.body b::.frr I dn.length::K) m σ) (hend:∀ m σ,P l m σ→M.F K .next m σ) :
  ∃ vs,Lf (srcV it vs)∧∃ I:Nat→Mp→NN.St→Prop,Lf (I 0 m σ)∧(∀ i u m σ,vs[i]?=some u→I i m σ→M.A t u (.body b::.frr I i::K) m σ)∧∀ m σ,I vs.length m σ→M.F K .next m σ :=
 forL0 P hs h0 (fun dn x td m σ e h=>step _ dn x td m σ e h fun h=>LI.next e h) hend
theorem compL {α:Type}{l:List α}{f g:α→V}{M:Mc}{elt:RX}{mask:List Bool}{σ:NN.St}{it:V}{QE:List V→NN.St→Addr→Prop}(hs:srcC it (l.map f))(hl:l.length≤16000000)
  (step:∀ x,x∈l→∀ Q:V→NN.St→Prop,Q (g x) σ→M.E elt [.finV Q] (mask.map fun b=>bif b then some (f x) else none) σ) (hend:∀ a,QE (l.map g) σ a):cmpM M it elt mask σ QE:=by
 refine ⟨l.map f,⟨hs⟩,⟨by rw [List.length_map];exact hl⟩,fun i ys σ'=>∃ dn td,dn++td=l∧dn.length=i∧ys=dn.map g∧σ'=σ,⟨⟨[],l,rfl,rfl,rfl,rfl⟩⟩,?_,?_⟩
 ·rintro i v ys σ' hv ⟨dn,td,e,hi,rfl,rfl⟩
  refine xEEAoo (map_at hv e hi) fun x r er1 er2=>?_;subst er1;subst er2
  refine step x (by rw [←e];simp) _ ⟨dn++[x],r,by rw [←e];simp,by simp [hi],by simp,rfl⟩
 ·rintro ys σ' a ⟨dn,td,e,hi,rfl,rfl⟩
  have:td=[]:=List.eq_nil_of_length_eq_zero (by have:=congrArg List.length e;rw [List.length_append,hi,List.length_map] at this;lia)
  subst this
  rw [List.append_nil] at e
  rw [e];exact hend a
end Hd
end
section
open PySem PySem.W PySem.Calls PyProof.Rows NN
namespace Hd
variable {w:World}{d:Nat}{σ:NN.St}{Q:V→NN.St→Prop}{v:V}
theorem CALL.wk {K:Frag}{f:PySem.Value}{v v':V}{σ':NN.St}(hw:Wk v σ v' σ')(h:CALL w K d f [v'] σ' Q):CALL w K d f [v] σ Q:=by
 intro fn d' X m A z s rs R h1 h2 h3 h4 W hv k
 cases hv with
 |cons a b =>
  cases b
  refine xEAoAoo (W.weak hw a) fun z' sub W' hv'=>?_
  exact h fn d' X m A z' s _ R h1 h2 h3 h4 W' (.cons hv' .nil) fun r v σ' z'' s' a b c e q=>k r v σ' z'' s' (sub.trans a) b c e q
theorem sum_fold (l:List (List Nat))(n c:Nat):List.foldl (fun x (y:PySem.Str)=>x+y.length+n) c (l.map tx)=c+(l.map List.length).sum+l.length*n:=by
 induction l generalizing c with
 |nil=>simp
 |cons x l ih=>rw [List.map_cons,List.foldl_cons,ih,tx_len,List.map_cons,List.sum_cons,List.length_cons,Nat.succ_mul];lia
theorem join_ok {s:List Nat}{xs:List (List Nat)}(h2:(xs.map List.length).sum+xs.length*s.length≤16000000):JoinOk (tx s) (xs.map tx)=true:=by
 unfold JoinOk
 rw [List.foldl_toArray' _ _ _ rfl,sum_fold,tx_len,Nat.zero_add]
 have e:sizeLine=16777216:=rfl
 unfold Builtin.Str.tooLong
 rw [e,decide_eq_false (by lia)];rfl
theorem join_tx' {s:List Nat}:∀ {xs:List (List Nat)},tx (List.intercalate s xs)=PySem.Str.join (tx s) (xs.map tx)
 |[]=>rfl
 |[x]=>by simp [List.intercalate];rfl
 |x::y::r=>by
  show _=tx x++tx s++PySem.Str.join (tx s) ((y::r).map tx)
  rw [←join_tx',tx_app,tx_app]
  simp [List.intercalate]
theorem join_tx {s:List Nat}{xs:List (List Nat)}:tx (List.intercalate s xs)=Txt.join (tx s) (xs.map tx):=by
 unfold Txt.join
 rw [PySem.StrLaws.glued_eq_join,join_tx']
theorem k_size {s:Sp}(hn:∀ p∈s,p.1≤p.2)(hq:Q (.int ((s.map fun p=>p.2 - p.1+1).sum:Nat)) σ):CALL w (fr w.params) (d+1) (.ref 362) [csV s] σ Q:=by
 refine O_CharSet_size ?_
 refine gI ?_
 refine forL0 (f:=tn) (l:=s) (fun dn m σ'=>∃ x y:Option V,m=[some (csV s),some (.int ((dn.map fun p=>p.2 - p.1+1).sum:Nat)),x,y]∧σ'=σ) ?_ ?_ ?_ ?_
 ·rfl
 ·exact ⟨none,none,rfl,rfl⟩
 ·rintro dn p td m σ' e ⟨x,y,rfl,rfl⟩
  refine LI.next e ?_
  refine ⟨some (.int p.1),some (.int p.2),?_,rfl⟩
  have:=hn p (by rw [←e];simp)
  have e2:(((dn.map fun p=>p.2 - p.1+1).sum:Nat):Int)+p.2 - p.1+1=(((dn++[p]).map fun p=>p.2 - p.1+1).sum:Nat):=by
   rw [List.map_append,List.sum_append];simp;lia
  rw [←e2]
 ·rintro m σ' ⟨x,y,rfl,rfl⟩
  exact back' hq
theorem k_least {p:Nat×Nat}{s:Sp}(hq:Q (.int p.1) σ)(hl:s.length≤1000):CALL w (fr w.params) (d+1) (.ref 376) [csV (p::s)] σ Q:=by
 refine O_CharSet_least ?_
 refine gI ?_
 refine ⟨⟨by simp;lia⟩,?_⟩
 refine bf _ rfl ?_
 refine gI ?_
 refine ⟨_,⟨⟨by decide,by decide⟩,0,by simp [seqIndex?],rfl⟩,?_⟩
 exact ⟨_,⟨⟨by decide,by decide⟩,0,rfl,rfl⟩,back' hq⟩
end Hd
end
section
open PySem PySem.W PySem.Calls PyProof.Rows NN
namespace Hd
mutual
noncomputable def nb:PyData→Bool
 |.none=>true
 |.int _=>true
 |.str _=>true
 |.tuple xs=>nbs xs
 |_=>false
noncomputable def nbs:List PyData→Bool
 |[]=>true
 |x::xs=>nb x && nbs xs
end
mutual
theorem eqv_nb:∀ {a b:PyData},nb a=true→nb b=true→a.eqv b=true→a=b
 |.none,b,_,h2,h=>by cases b<;>first | rfl | cases h
 |.int i,b,_,h2,h=>by
  cases b with
  |int j=>rw [eq_of_beq (show (i == j)=true from h)]
  |bool b=>cases h2
  |_=>cases h
 |.str i,b,_,h2,h=>by
  cases b with
  |str j=>rw [eq_of_beq (show (i == j)=true from h)]
  |_=>cases h
 |.tuple xs,b,h1,h2,h=>by
  cases b with
  |tuple ys=>rw [eqvs_nb (a:=xs) (b:=ys) h1 h2 (by rw [PyData.eqv] at h;exact h)]
  |_=>cases h
 |.bool _,_,h1,_,_=>by cases h1
 |.list _,_,h1,_,_=>by cases h1
 |.dict _,_,h1,_,_=>by cases h1
theorem eqvs_nb:∀ {a b:List PyData},nbs a=true→nbs b=true→PyData.eqvAll a b=true→a=b
 |[],[],_,_,_=>rfl
 |[],_::_,_,_,h=>by cases h
 |_::_,[],_,_,h=>by cases h
 |x::xs,y::ys,h1,h2,h=>by
  have h1':nb x=true∧nbs xs=true:=Bool.and_eq_true_iff.mp h1
  have h2':nb y=true∧nbs ys=true:=Bool.and_eq_true_iff.mp h2
  rw [PyData.eqvAll] at h
  have h':=Bool.and_eq_true_iff.mp h
  rw [eqv_nb h1'.1 h2'.1 h'.1,eqvs_nb h1'.2 h2'.2 h'.2]
end
theorem eqv_dec {a b:PyData}(h1:nb a=true)(h2:nb b=true)(hc:a.canLay0=true){p:Prop}[Decidable p](hp:p↔a=b):a.eqv b=decide p:=by
 by_cases h:a=b
 ·rw [decide_eq_true (hp.mpr h),←h];exact PySem.SeqAt.eqv_refl a hc
 ·rw [decide_eq_false (fun q=>h (hp.mp q))]
  cases e:a.eqv b with
  |false=>rfl
  |true=>exact absurd (eqv_nb h1 h2 e) h
noncomputable def dS (s:List (Nat×Nat)):PyData:=.tuple (s.map fun p=>.tuple [.int p.1,.int p.2])
theorem dS_of (s:List (Nat×Nat)):datsO (s.map tn)=some (s.map fun p=>PyData.tuple [.int p.1,.int p.2]):=by
 induction s with
 |nil=>rfl
 |cons p s ih =>
  show ((datO (tn p)).bind fun d=>(datsO (s.map tn)).map (d::·))=_
  rw [ih];rfl
theorem dS_dat {s:List (Nat×Nat)}:datO (.tup (s.map tn))=some (dS s):=by
 show (datsO (s.map tn)).map PyData.tuple=_
 rw [dS_of];rfl
theorem dS_nb:∀ {s:List (Nat×Nat)},nb (dS s)=true
 |[]=>rfl
 |p::s=>dS_nb (s:=s)
theorem dS_lay:∀ {s:List (Nat×Nat)},(dS s).canLay0=true
 |[]=>rfl
 |p::s=>dS_lay (s:=s)
theorem dS_depth:∀ {s:List (Nat×Nat)},(dS s).depth≤2
 |[]=>by decide
 |p::s=>by
  have:=dS_depth (s:=s)
  show max 1 (PyData.depthAll (s.map fun p=>PyData.tuple [.int p.1,.int p.2]))+1≤2
  have e:(dS s).depth=PyData.depthAll (s.map fun p=>PyData.tuple [.int p.1,.int p.2])+1:=rfl
  lia
theorem dS_inj:∀ {s s':List (Nat×Nat)},dS s=dS s'→s=s':=by
 intro s s' h
 induction s generalizing s' with
 |nil=>cases s' with
  |nil=>rfl
  |cons p s'=>have h:=PyData.tuple.inj h;cases h
 |cons p s ih=>cases s' with
  |nil=>have h:=PyData.tuple.inj h;cases h
  |cons q s' =>
   have h:=PyData.tuple.inj h
   rw [List.map_cons,List.map_cons] at h
   have h':=List.cons.inj h
   have h1:=List.cons.inj (PyData.tuple.inj h'.1)
   have e1:=PyData.int.inj h1.1
   have e2:=PyData.int.inj (List.cons.inj h1.2).1
   rw [ih (congrArg PyData.tuple h'.2)]
   congr 1
   exact Prod.ext (by lia) (by lia)
inductive Tr where
 |emp | nev | chs (s:List (Nat×Nat)) | cat (a b:Tr) | alt (a b:Tr) | star (a:Tr) | plus (a:Tr) | opt (a:Tr) | rep (a:Tr) (lo:Nat) (hi:Option Nat)
noncomputable def hiD:Option Nat→PyData
 |none=>.none
 |some n=>.int n
theorem bad {l l':List Nat}{G:Prop}(h:l=l')(e:Nat.beq l.sum l'.sum=false):G:=by subst h;rw [Nat.beq_refl] at e;cases e
noncomputable def nm:Tr→List Nat
 |.emp=>[101,109,112,116,121]
 |.nev=>[110,101,118,101,114]
 |.chs _=>[99,104,97,114,115]
 |.cat _ _=>[99,97,116]
 |.alt _ _=>[97,108,116]
 |.star _=>[115,116,97,114]
 |.plus _=>[112,108,117,115]
 |.opt _=>[111,112,116]
 |.rep _ _ _=>[114,101,112,101,97,116]
theorem nmE1:nm Tr.emp=[101,109,112,116,121]:=rfl
theorem nmE2:nm Tr.nev=[110,101,118,101,114]:=rfl
theorem nmE3 (s:List (Nat×Nat)):nm (Tr.chs s)=[99,104,97,114,115]:=rfl
theorem nmE4 (a b:Tr):nm (a.cat b)=[99,97,116]:=rfl
theorem nmE5 (a b:Tr):nm (a.alt b)=[97,108,116]:=rfl
theorem nmE6 (a:Tr):nm a.star=[115,116,97,114]:=rfl
theorem nmE7 (a:Tr):nm a.plus=[112,108,117,115]:=rfl
theorem nmE8 (a:Tr):nm a.opt=[111,112,116]:=rfl
theorem nmE9 (a:Tr)(lo:Nat)(hi:Option Nat):nm (a.rep lo hi)=[114,101,112,101,97,116]:=rfl
noncomputable def tv (t:Tr):V:=match t with
 |.emp=>.tup [.str (tx (nm t))]
 |.nev=>.tup [.str (tx (nm t))]
 |.chs s=>.tup [.str (tx (nm t)),.tup (s.map tn)]
 |.cat a b=>.tup [.str (tx (nm t)),tv a,tv b]
 |.alt a b=>.tup [.str (tx (nm t)),tv a,tv b]
 |.star a=>.tup [.str (tx (nm t)),tv a]
 |.plus a=>.tup [.str (tx (nm t)),tv a]
 |.opt a=>.tup [.str (tx (nm t)),tv a]
 |.rep a lo hi=>.tup [.str (tx (nm t)),tv a,.int lo,hiV hi]
noncomputable def dT (t:Tr):PyData:=match t with
 |.emp=>.tuple [.str (tx (nm t))]
 |.nev=>.tuple [.str (tx (nm t))]
 |.chs s=>.tuple [.str (tx (nm t)),dS s]
 |.cat a b=>.tuple [.str (tx (nm t)),dT a,dT b]
 |.alt a b=>.tuple [.str (tx (nm t)),dT a,dT b]
 |.star a=>.tuple [.str (tx (nm t)),dT a]
 |.plus a=>.tuple [.str (tx (nm t)),dT a]
 |.opt a=>.tuple [.str (tx (nm t)),dT a]
 |.rep a lo hi=>.tuple [.str (tx (nm t)),dT a,.int lo,hiD hi]
theorem dTE1:dT Tr.emp=PySem.PyData.tuple [PySem.PyData.str (tx (nm Tr.emp))]:=rfl
theorem dTE2:dT Tr.nev=PySem.PyData.tuple [PySem.PyData.str (tx (nm Tr.nev))]:=rfl
theorem dTE3 (s:List (Nat×Nat)):dT (Tr.chs s)=PySem.PyData.tuple [PySem.PyData.str (tx (nm (Tr.chs s))),dS s]:=rfl
theorem dTE4 (a b:Tr):dT (a.cat b)=PySem.PyData.tuple [PySem.PyData.str (tx (nm (a.cat b))),dT a,dT b]:=rfl
theorem dTE5 (a b:Tr):dT (a.alt b)=PySem.PyData.tuple [PySem.PyData.str (tx (nm (a.alt b))),dT a,dT b]:=rfl
theorem dTE6 (a:Tr):dT a.star=PySem.PyData.tuple [PySem.PyData.str (tx (nm a.star)),dT a]:=rfl
theorem dTE7 (a:Tr):dT a.plus=PySem.PyData.tuple [PySem.PyData.str (tx (nm a.plus)),dT a]:=rfl
theorem dTE8 (a:Tr):dT a.opt=PySem.PyData.tuple [PySem.PyData.str (tx (nm a.opt)),dT a]:=rfl
theorem dTE9 (a:Tr)(lo:Nat)(hi:Option Nat):dT (a.rep lo hi)=PySem.PyData.tuple [PySem.PyData.str (tx (nm (a.rep lo hi))),dT a,PySem.PyData.int ↑lo,hiD hi]:=rfl
noncomputable def nv:Tr→V
 |.emp=>.inst 505 [] []
 |.nev=>.inst 517 [] []
 |.chs s=>.inst 543 (nslF 543) [csV s]
 |.cat a b=>.inst 588 (nslF 588) [nv a,nv b]
 |.alt a b=>.inst 600 (nslF 600) [nv a,nv b]
 |.star a=>.inst 645 (nslF 645) [nv a]
 |.plus a=>.inst 657 (nslF 657) [nv a]
 |.opt a=>.inst 669 (nslF 669) [nv a]
 |.rep a lo hi=>.inst 695 (nslF 695) [nv a,.int lo,hiV hi]
theorem hi_dat {h:Option Nat}:datO (hiV h)=some (hiD h):=by cases h<;>rfl
theorem dats_c {v:V}{vs:List V}{d:PyData}{ds:List PyData}(h:datO v=some d)(h':datsO vs=some ds):datsO (v::vs)=some (d::ds):=by
 show ((datO v).bind fun d=>(datsO vs).map (d::·))=_
 rw [h,h'];rfl
theorem dat_t {vs:List V}{ds:List PyData}(h:datsO vs=some ds):datO (.tup vs)=some (.tuple ds):=by
 show (datsO vs).map PyData.tuple=_
 rw [h];rfl
theorem dat2 {a:PySem.Str}{x:V}{d:PyData}(h:datO x=some d):datO (.tup [.str a,x])=some (.tuple [.str a,d]):=dat_t (dats_c rfl (dats_c h rfl))
theorem dat3 {a:PySem.Str}{x y:V}{d e:PyData}(h:datO x=some d)(h':datO y=some e):datO (.tup [.str a,x,y])=some (.tuple [.str a,d,e]):=dat_t (dats_c rfl (dats_c h (dats_c h' rfl)))
theorem dT_dat {t:Tr}:datO (tv t)=some (dT t):=by
 induction t with
 |emp=>exact rfl
 |nev=>exact rfl
 |chs s=>exact dat2 dS_dat
 |cat a b iha ihb=>exact dat3 iha ihb
 |alt a b iha ihb=>exact dat3 iha ihb
 |star a iha=>exact dat2 iha
 |plus a iha=>exact dat2 iha
 |opt a iha=>exact dat2 iha
 |rep a lo hi iha=>exact dat_t (dats_c rfl (dats_c iha (dats_c rfl (dats_c hi_dat rfl))))
noncomputable def dep:Tr→Nat
 |.emp=>1
 |.nev=>1
 |.chs _=>3
 |.cat a b=>max (dep a) (dep b)+1
 |.alt a b=>max (dep a) (dep b)+1
 |.star a=>dep a+1
 |.plus a=>dep a+1
 |.opt a=>dep a+1
 |.rep a _ _=>dep a+1
theorem nb_hi {h:Option Nat}:nb (hiD h)=true:=by cases h<;>rfl
theorem nb_tup2 {a:List Nat}{x:PyData}(h:nb x=true):nb (.tuple [.str (tx a),x])=true:=by show (true && (nb x && true))=true;rw [h];rfl
theorem nb_tup3 {a:List Nat}{x y:PyData}(h:nb x=true)(h':nb y=true):nb (.tuple [.str (tx a),x,y])=true:=by show (true && (nb x && (nb y && true)))=true;rw [h,h'];rfl
theorem dT_nb:∀ {t:Tr},nb (dT t)=true
 |.emp=>rfl
 |.nev=>rfl
 |.chs s=>nb_tup2 dS_nb
 |.cat a b=>nb_tup3 dT_nb dT_nb
 |.alt a b=>nb_tup3 dT_nb dT_nb
 |.star a=>nb_tup2 dT_nb
 |.plus a=>nb_tup2 dT_nb
 |.opt a=>nb_tup2 dT_nb
 |.rep a lo hi=>by show (true && (nb (dT a) && (true && (nb (hiD hi) && true))))=true;rw [dT_nb,nb_hi];rfl
end Hd
end
section
open PySem PySem.W PySem.Calls PyProof.Rows NN
namespace Hd
variable {w:World}{d:Nat}{σ:NN.St}{Q:V→NN.St→Prop}{v:V}
theorem k_same {s s':Sp}(hq:Q (.bool (decide (s=s'))) σ):CALL w (fr w.params) (d+1) (.ref 418) [csV s,csV s'] σ Q:=by
 refine O_CharSet_same ?_
 refine gI ?_
 refine gI ?_
 refine ⟨dS s,dS s',⟨.pure dS_dat,.pure dS_dat,?_,?_⟩,back hq ?_⟩
 ·have:=dS_depth (s:=s);unfold SeqAt.shaped;rw [dS_lay,decide_eq_true (by exact zz6)];rfl
 ·have:=dS_depth (s:=s');unfold SeqAt.shaped;rw [dS_lay,decide_eq_true (by lia)];rfl
 ·exact congrArg V.bool (eqv_dec dS_nb dS_nb dS_lay ⟨congrArg dS,dS_inj⟩)
noncomputable def itp (p:Nat×Nat):List (List Nat):=shc p.1::((if p.1+1<p.2 then [[45]] else [])++if p.1<p.2 then [shc p.2] else [])
noncomputable def cls (s:Sp):List Nat:=if s.isEmpty then [91,94]++shc 0++[45]++shc 127++[93] else [91]++List.intercalate [] (s.flatMap itp)++[93]
noncomputable abbrev txs (l:List (List Nat)):List V:=(l.map tx).map .str
theorem ic0:∀ {l:List (List Nat)},List.intercalate [] l=l.flatten
 |[]=>rfl
 |[x]=>by simp [List.intercalate]
 |x::y::r=>by
  have:=ic0 (l:=y::r)
  unfold List.intercalate at this ⊢
  rw [List.intersperse_cons₂,List.flatten_cons,List.flatten_cons,this];simp
theorem shc_len {c:Nat}:(shc c).length≤4:=by
 unfold shc
 split;· simp
 split;· simp [esc]
 ·simp
theorem itp_len {p:Nat×Nat}:(itp p).length≤3∧((itp p).map List.length).sum≤9:=by
 have h1:=shc_len (c:=p.1)
 have h2:=shc_len (c:=p.2)
 unfold itp
 split<;>split<;>simp<;>lia
theorem itps_len {s:Sp}:(s.flatMap itp).length≤3*s.length∧((s.flatMap itp).map List.length).sum≤9*s.length:=by
 induction s with
 |nil=>simp
 |cons p s ih =>
  have:=itp_len (p:=p)
  rw [List.flatMap_cons,List.length_append,List.map_append,List.sum_append,List.length_cons]
  lia
theorem k_told {s:Sp}(h:∀ p∈s,p.1<128∧p.2<128)(hl:s.length≤1000)(hq:Q (.str (tx (cls s))) σ):CALL w (fr w.params) (d+2) (.ref 460) [csV s] σ Q:=by
 unfold cls at hq
 refine O_told ?_
 refine ⟨⟨rfl⟩,?_⟩
 refine ⟨k_isEmpty hl ?_⟩
 refine ⟨fun he=>?_,fun he=>?_⟩
 ·rw [if_pos he] at hq
  refine ⟨k_showCode (c:=0) (by decide) ?_⟩
  refine ⟨lb,lb,⟨k_showCode (c:=127) (by decide) ?_⟩⟩
  exact ⟨lb,lb,back' hq⟩
 rw [if_neg (by rw [he];simp)] at hq
 intro a
 refine ⟨_,_,⟨.rfl⟩,?_⟩
 refine gI ?_
 refine forL (f:=tn) (l:=s) (fun dn m σ'=>∃ x y:Option V,m=[some (csV s),some (.own a),x,y,none,none]∧σ'=(a,.lst (txs (dn.flatMap itp)))::σ) ?_ ?_ ?_ ?_
 ·rfl
 ·exact ⟨none,none,rfl,rfl⟩
 ·intro I dn p td m σ' e hJ nx
  refine fo fun Gx gx=>?_
  obtain ⟨x,y,rfl,rfl⟩:=hJ
  refine gx ?_
  refine xAoo (h p (by rw [←e];simp)) fun h1 h2=>?_
  have hle:(txs (dn.flatMap itp)).length≤3000:=by
   have:=(itps_len (s:=dn)).1
   have e2:=congrArg List.length e
   rw [List.length_append] at e2
   simp only [List.length_map]
   lia
  refine mApp (.head _) ?_
  refine ⟨k_showCode h1 ?_⟩
  refine ⟨_,_,⟨.head⟩,⟨by exact zz6⟩,?_⟩
  refine bq _ (gtN (b:=p.1+1)) (fun h3=>?_) fun h3=>?_
  ·refine mApp (.head _) ?_
   refine ⟨_,_,⟨.head⟩,⟨by rw [List.length_append];simp only [List.length_cons,List.length_nil];exact zz8⟩,?_⟩
   refine bq _ gtN (fun h4=>?_) fun h4=>absurd (show p.1<p.2 by exact zz5) h4
   refine mApp (.head _) ?_
   refine ⟨k_showCode h2 ?_⟩
   refine ⟨_,_,⟨.head⟩,⟨by rw [List.length_append,List.length_append];simp only [List.length_cons,List.length_nil];lia⟩,?_⟩
   refine nx ?_
   refine ⟨_,_,rfl,?_⟩
   rw [List.flatMap_append,List.flatMap_cons,List.flatMap_nil]
   unfold itp
   rw [if_pos h3,if_pos h4]
   simp [tx]
  refine bq _ gtN (fun h4=>?_) fun h4=>?_
  ·refine mApp (.head _) ?_
   refine ⟨k_showCode h2 ?_⟩
   refine ⟨_,_,⟨.head⟩,⟨by rw [List.length_append];simp only [List.length_cons,List.length_nil];lia⟩,?_⟩
   refine nx ?_
   refine ⟨_,_,rfl,?_⟩
   rw [List.flatMap_append,List.flatMap_cons,List.flatMap_nil]
   unfold itp
   rw [if_neg h3,if_pos h4]
   simp
  refine nx ?_
  refine ⟨_,_,rfl,?_⟩
  rw [List.flatMap_append,List.flatMap_cons,List.flatMap_nil]
  unfold itp
  rw [if_neg h3,if_neg h4]
  simp
 ·rintro m σ' ⟨x,y,rfl,rfl⟩
  have hb:=itps_len (s:=s)
  have hj:(List.intercalate [] (s.flatMap itp)).length≤9000:=by rw [ic0,List.length_flatten];lia
  refine ⟨_,⟨.head _⟩,⟨join_ok (by rw [List.length_nil];lia)⟩,_,⟨join_tx⟩,?_⟩
  refine ⟨ll (a:=[91]) (b:=List.intercalate [] (s.flatMap itp)) (by simp;lia),ll (a:=[91]++List.intercalate [] (s.flatMap itp)) (b:=[93]) (by simp;exact zz6),?_⟩
  exact back1 hq
end Hd
end
section
open PySem PySem.W PySem.Calls PyProof.Rows NN
namespace Hd
variable {w:World}{d:Nat}{σ:NN.St}{Q:V→NN.St→Prop}{v:V}
noncomputable def stM (acc:Sp)(p:Nat×Nat):Sp:=match acc.getLast? with
 |some q=>if p.1≤q.2+1 then (if q.2<p.2 then acc.dropLast++[(q.1,p.2)] else acc) else acc++[p]
 |none=>acc++[p]
noncomputable def mrg (l:Sp):Sp:=l.foldl stM []
noncomputable def ci (p:Nat×Nat):Int×Int:=(p.1,p.2)
theorem tn_tp {s:Sp}:(s.map ci).map tp=s.map tn:=by rw [List.map_map];rfl
theorem asc_ci:∀ {s:Sp},s.Pairwise (fun p q=>p.1<q.1)→Asc (s.map ci)
 |[],_=>trivial
 |[_],_=>trivial
 |p::q::s,h=>⟨by have:=(List.pairwise_cons.mp h).1 q (.head _);show (p.1:Int)<q.1;lia,asc_ci (List.pairwise_cons.mp h).2⟩
theorem stM_len {acc:Sp}{p:Nat×Nat}:(stM acc p).length≤acc.length+1:=by
 unfold stM
 split
 ·split
  ·split<;>simp<;>lia
  ·simp
 ·simp
theorem mrg_len (l:Sp):(mrg l).length≤l.length:=by
 unfold mrg
 suffices ∀ acc:Sp,(l.foldl stM acc).length≤acc.length+l.length by simpa using this []
 induction l with
 |nil=>intro acc;simp
 |cons p l ih=>intro acc;have:=ih (stM acc p);have h2:=stM_len (acc:=acc) (p:=p);simp only [List.foldl_cons,List.length_cons];lia
theorem tq0 {x:V}{r:List V}(hl:(x::r).length≤1000:=by simp):Lf (tupAt (x::r) 0 x):=⟨⟨by decide,by decide⟩,0,by simp [seqIndex?],rfl⟩
theorem tq1 {x y:V}{r:List V}:Lf (tupAt (x::y::r) 1 y):=⟨⟨by decide,by decide⟩,1,by simp [seqIndex?];lia,rfl⟩
theorem k_made {s:Sp}{it:V}(hit:srcV it (s.map tn))(h:∀ p∈s,p.1≤p.2∧p.2≤127)(asc:s.Pairwise fun p q=>p.1<q.1)(hl:s.length<64)(hq:Q (csV (mrg s)) σ):CALL w (fr w.params) (d+3) (.ref 345) [it] σ Q:=by
 refine O_CharSet_made ?_
 intro a
 refine ⟨_,_,⟨.rfl⟩,?_⟩
 refine forL (f:=tn) (l:=s) (fun dn m σ'=>∃ x y z u:Option V,m=[some it,some (.own a),x,y,z,u,none,none,none,none,none,none,none]∧σ'=(a,.lst (dn.map tn))::σ) hit ?_ ?_ ?_
 ·exact ⟨none,none,none,none,rfl,rfl⟩
 ·rintro I dn p td m σ' e ⟨x,y,z,u,rfl,rfl⟩ nx
  refine xAoo (h p (by rw [←e];simp)) fun h1 h2=>?_
  have hd:dn.length<64:=by have e2:=congrArg List.length e;rw [List.length_append] at e2;lia
  refine ⟨p.1,⟨by rw [if_neg (by simp)]⟩,?_⟩
  refine ⟨p.2,⟨by rw [if_neg (by lia)]⟩,?_⟩
  refine bt _ (decide_eq_true (by lia)) ?_
  refine mApp (.head _) ?_
  refine ⟨_,_,⟨.head⟩,⟨by rw [List.length_map];exact zz9⟩,?_⟩
  refine nx ?_
  refine ⟨_,_,_,_,rfl,?_⟩
  rw [List.map_append];rfl
 rintro m σ' ⟨x,y,z,u,rfl,rfl⟩
 intro b
 refine ⟨_,_,⟨.rfl⟩,?_⟩
 refine ⟨s.map ci,⟨by rw [tn_tp];exact .tail _ (.head _)⟩,⟨by rw [List.length_map];exact hl,asc_ci asc⟩,?_⟩
 refine forL (f:=tn) (l:=s) (fun dn m σ'=>∃ x y z u:Option V,m=[some it,some (.own a),x,y,z,u,some (.own b),none,none,none,none,none,none]∧σ'=(b,.lst ((mrg dn).map tn))::(a,.lst (s.map tn))::σ) ?_ ?_ ?_ ?_
 ·exact tn_tp.symm
 ·exact ⟨_,_,_,_,rfl,rfl⟩
 ·rintro I dn p td m σ' e ⟨x,y,z,u,rfl,rfl⟩ nx
  refine xAoo (h p (by rw [←e];simp)) fun h1 h2=>?_
  have hd:(mrg dn).length<64:=by have e2:=congrArg List.length e;rw [List.length_append] at e2;have:=mrg_len dn;lia
  have em:mrg (dn++[p])=stM (mrg dn) p:=by unfold mrg;rw [List.foldl_append];rfl
  refine ⟨_,⟨.head _⟩,⟨by rw [List.length_map];exact zz7⟩,?_⟩
  rcases List.eq_nil_or_concat (mrg dn) with h0 | ⟨us,q,h0⟩
  ·refine bf _ (by rw [h0];rfl) ?_
   refine bf _ rfl ?_
   refine mApp (.head _) ?_
   refine ⟨_,_,⟨.head⟩,⟨by rw [List.length_map];exact zz9⟩,?_⟩
   refine nx ?_
   refine ⟨_,_,_,_,rfl,?_⟩
   rw [em]
   unfold stM
   rw [h0];rfl
  ·rw [List.concat_eq_append] at h0
   have hv:(mrg dn).map tn=us.map tn++[tn q]:=by rw [h0,List.map_append];rfl
   have hu:us.length<64:=by rw [h0,List.length_append] at hd;exact zz5
   have i1:itemAt ((mrg dn).map tn) (-1) (tn q):=.inr ⟨rfl,us.map tn,hv,by rw [List.length_map];exact zz7⟩
   have gl:(mrg dn).getLast?=some q:=by rw [h0];simp
   refine bt _ (by rw [hv];simp) ?_
   refine ⟨_,_,⟨.head _⟩,⟨i1⟩,?_⟩
   refine ⟨_,tq1,?_⟩
   refine bq (p:=p.1≤q.2+1) _ (by simp;omega) (fun h3=>?_) fun h3=>?_
   ·refine ⟨_,_,⟨.head _⟩,⟨i1⟩,?_⟩
    refine ⟨_,tq1,?_⟩
    refine bq _ gtN (fun h4=>?_) fun h4=>?_
    ·refine ⟨_,_,⟨.head _⟩,⟨i1⟩,?_⟩
     refine ⟨_,tq0,?_⟩
     refine ⟨_,us.length,_,⟨?_,?_,by decide,by decide⟩,⟨.head⟩,?_⟩
     ·rw [hv];simp [seqIndex?];lia
     ·rw [hv];simp
     refine nx ?_
     refine ⟨_,_,_,_,rfl,?_⟩
     rw [em]
     unfold stM
     rw [gl]
     dsimp only
     rw [if_pos h3,if_pos h4,hv,h0]
     simp;rfl
    ·refine nx ?_
     refine ⟨_,_,_,_,rfl,?_⟩
     rw [em]
     unfold stM
     rw [gl]
     dsimp only
     rw [if_pos h3,if_neg h4]
   ·refine mApp (.head _) ?_
    refine ⟨_,_,⟨.head⟩,⟨by rw [List.length_map];lia⟩,?_⟩
    refine nx ?_
    refine ⟨_,_,_,_,rfl,?_⟩
    rw [em]
    unfold stM
    rw [gl]
    dsimp only
    rw [if_neg h3,List.map_append];rfl
 rintro m σ' ⟨x,y,z,u,rfl,rfl⟩
 refine ⟨_,⟨.head _⟩,⟨by rw [List.length_map];have:=mrg_len s;lia⟩,?_⟩
 exact ⟨k_CharSet (back2 hq)⟩
end Hd
end
section
open PySem PySem.W PySem.Calls PyProof.Rows NN
namespace Hd
variable {w:World}{d:Nat}{σ:NN.St}{Q:V→NN.St→Prop}{v:V}
theorem k_span {a b:Nat}(h:a≤b∧b≤127)(hq:Q (csV [(a,b)]) σ):CALL w (fr w.params) (d+4) (.ref 335) [.int a,.int b] σ Q:=by
 refine O_CharSet_span ?_
 intro x
 refine ⟨_,_,⟨.lst⟩,?_⟩
 refine ⟨k_made (s:=[(a,b)]) rfl (fun p hp=>?_) (by simp) (by simp) (back' hq)⟩
 rw [List.mem_singleton.mp hp];exact h
theorem k_of {c:Nat}(h:c≤127)(hq:Q (csV [(c,c)]) σ):CALL w (fr w.params) (d+4) (.ref 325) [.str (tx [c])] σ Q:=by
 refine O_CharSet_of ?_
 refine compL (l:=[c]) (f:=fun c=>.str (tx [c])) (g:=fun c=>tn (c,c)) ⟨?_,rfl⟩ (by simp) ?_ ?_
 ·simp [tx];exact zz3
 ·intro x hx Q' hq'
  exact ⟨x,⟨rfl⟩,x,⟨rfl⟩,hq'⟩
 intro a
 refine ⟨_,_,⟨.lst⟩,?_⟩
 refine ⟨k_made (s:=[(c,c)]) rfl (fun p hp=>?_) (by simp) (by simp) (back' hq)⟩
 rw [List.mem_singleton.mp hp];exact ⟨Nat.le_refl _,h⟩
theorem k_compl (hq:Q (csV []) σ):CALL w (fr w.params) (d+3) (.ref 404) [csV [(0,127)]] σ Q:=by
 refine O_CharSet_complement ?_
 intro a
 refine ⟨_,_,⟨.rfl⟩,?_⟩
 refine gI ?_
 refine forL0 (f:=tn) (l:=[(0,127)]) (fun dn m σ'=>∃ x y:Option V,m=[some (csV [(0,127)]),some (.own a),some (.int (if dn=[] then 0 else 128)),x,y,none,none,none]∧σ'=(a,.lst [])::σ) ?_ ?_ ?_ ?_
 ·rfl
 ·exact ⟨none,none,rfl,rfl⟩
 ·rintro dn p td m σ' e ⟨x,y,rfl,rfl⟩
  cases dn with
  |cons q dn=>simp at e
  |nil =>
   refine xAoo (by simpa using e:p=(0,127)∧td=[]) fun er1 er2=>?_;subst er1;subst er2
   refine bf _ rfl ?_
   refine LI.next (dn:=[]) e ?_
   exact ⟨_,_,rfl,rfl⟩
 rintro m σ' ⟨x,y,rfl,rfl⟩
 refine bf _ rfl ?_
 refine ⟨_,⟨.head _⟩,⟨by decide⟩,?_⟩
 exact ⟨k_CharSet (back1 hq)⟩
theorem k_charsNode {s:Sp}(hl:s.length≤1000)(hs:s≠[])(hq:Q (nv (.chs s)) σ):CALL w (fr w.params) (d+3) (.ref 718) [csV s] σ Q:=by
 refine O_chars_node ?_
 refine ⟨⟨rfl⟩,?_⟩
 refine ⟨k_isEmpty hl ?_⟩
 refine bf _ (by cases s with | nil=>exact absurd rfl hs | cons _ _=>rfl) ?_
 exact ⟨k_Chars (back' hq)⟩
theorem k_charsNode0 (hq:Q (nv .nev) σ):CALL w (fr w.params) (d+3) (.ref 718) [csV []] σ Q:=by
 refine O_chars_node ?_
 refine ⟨⟨rfl⟩,?_⟩
 refine ⟨k_isEmpty (s:=[]) (by decide) ?_⟩
 refine bt _ rfl ?_
 exact ⟨k_Never (back' hq)⟩
noncomputable def dot:Sp:=[(0,9),(11,127)]
noncomputable def siz (s:Sp):Nat:=(s.map fun p=>p.2 - p.1+1).sum
noncomputable def shch (s:Sp):List Nat:=if s=dot then [46] else if siz s=1 then shs (s.headD (0,0)).1 else cls s
noncomputable def OkS (s:Sp):Prop:=(∀ p∈s,p.1≤p.2∧p.2<128)∧s.length<32
theorem k_showChars {s:Sp}(h:OkS s)(hq:Q (.str (tx (shch s))) σ):CALL w (fr w.params) (d+4) (.ref 935) [csV s] σ Q:=by
 refine xAoo h fun h1 h2=>?_
 unfold shch at hq
 refine O_show_chars ?_
 refine ⟨⟨rfl⟩,?_⟩
 refine ⟨k_dot ?_⟩
 refine ⟨k_same (s:=s) (s':=dot) ?_⟩
 refine bq _ rfl (fun h3=>?_) fun h3=>?_
 ·rw [if_pos h3] at hq;exact back' hq
 rw [if_neg h3] at hq
 refine ⟨⟨rfl⟩,?_⟩
 refine ⟨k_size (fun p hp=>(h1 p hp).1) ?_⟩
 refine bq (p:=siz s=1) _ (by show (((siz s:Nat):Int) == 1)=_;rw [Bool.eq_iff_iff];simp;lia) (fun h4=>?_) fun h4=>?_
 ·rw [if_pos h4] at hq
  cases s with
  |nil=>cases h4
  |cons p s =>
   refine ⟨⟨rfl⟩,?_⟩
   refine ⟨k_least ?_ (by simp only [List.length_cons] at h2;lia)⟩
   have:=h1 p (.head _)
   refine ⟨⟨by simp,by lia⟩,?_⟩
   exact ⟨k_showSign (c:=p.1) (by lia) (back' hq)⟩
 rw [if_neg h4] at hq
 exact ⟨k_told (fun p hp=>⟨by have:=h1 p hp;lia,(h1 p hp).2⟩) (by exact zz9) (back' hq)⟩
noncomputable def dec (n:Nat):List Nat:=if n<10 then [48+n] else [48+n / 10,48+n % 10]
theorem dec_eq:∀ n,n<41→tx (dec n)=PySem.Str.ofString (toString (n:Int)):=by
 unfold dec
 decide +kernel
noncomputable def shct (lo:Nat):Option Nat→List Nat
 |none=>[123]++dec lo++[44,125]
 |some hi=>if hi=lo then [123]++dec lo++[125] else [123]++dec lo++[44]++dec hi++[125]
theorem log_ok {n:Nat}(h:n<41):(n:Int).natAbs.log2<1920:=Nat.lt_of_le_of_lt (Nat.log2_le_self _) (by exact zz7)
theorem dec_len {n:Nat}:(dec n).length≤2:=by unfold dec;split<;>simp
theorem k_showCount {lo:Nat}{hi:Option Nat}(h:lo<41)(hh:∀ n,hi=some n→n<41)(hq:Q (.str (tx (shct lo hi))) σ):CALL w (fr w.params) (d+1) (.ref 942) [.int lo,hiV hi] σ Q:=by
 have l1:=dec_len (n:=lo)
 refine O_show_count ?_
 cases hi with
 |none =>
  refine bt _ rfl ?_
  refine ⟨⟨log_ok (by omega)⟩,_,⟨dec_eq lo h⟩,?_⟩
  refine ⟨ll (a:=[123]) (b:=dec lo) (by simp;lia),ll (a:=[123]++dec lo) (b:=[44,125]) (by simp;exact zz6),?_⟩
  exact back' hq
 |some n =>
  have hn:=hh n rfl
  have l2:=dec_len (n:=n)
  unfold shct at hq
  dsimp only at hq
  refine bf _ rfl ?_
  refine bq (p:=n=lo) _ (by show ((n:Int) == lo)=_;rw [Bool.eq_iff_iff];simp;lia) (fun h4=>?_) fun h4=>?_
  ·rw [if_pos h4] at hq
   refine ⟨⟨log_ok (by lia)⟩,_,⟨dec_eq lo h⟩,?_⟩
   refine ⟨ll (a:=[123]) (b:=dec lo) (by simp;lia),ll (a:=[123]++dec lo) (b:=[125]) (by simp;exact zz6),?_⟩
   exact back' hq
  ·rw [if_neg h4] at hq
   refine ⟨⟨log_ok (by lia)⟩,_,⟨dec_eq lo h⟩,?_⟩
   refine ⟨ll (a:=[123]) (b:=dec lo) (by simp;lia),ll (a:=[123]++dec lo) (b:=[44]) (by simp;lia),⟨log_ok (by lia)⟩,_,⟨dec_eq n hn⟩,?_⟩
   refine ⟨ll (a:=[123]++dec lo++[44]) (b:=dec n) (by simp;lia),ll (a:=[123]++dec lo++[44]++dec n) (b:=[125]) (by simp;lia),?_⟩
   exact back' hq
end Hd
end
section
open PySem PySem.W PySem.Calls PyProof.Rows NN
namespace Hd
variable {w:World}{d:Nat}{σ:NN.St}{Q:V→NN.St→Prop}{v:V}
theorem gN {t:Tr}{Q:V→Prop}(h:Q (.str (tx (nm t)))):getA (cx0 w tb d) (nv t) 482046190 σ Q:=by
 cases t<;>exact gC h
noncomputable def spC:Tr→List Tr
 |.cat a b=>spC a++[b]
 |.emp=>[.emp]
 |.nev=>[.nev]
 |.chs s=>[.chs s]
 |.alt a b=>[.alt a b]
 |.star a=>[.star a]
 |.plus a=>[.plus a]
 |.opt a=>[.opt a]
 |.rep a l h=>[.rep a l h]
theorem spCE1:spC Tr.emp=[Tr.emp]:=rfl
theorem spCE2:spC Tr.nev=[Tr.nev]:=rfl
theorem spCE3 (s:List (Nat×Nat)):spC (Tr.chs s)=[Tr.chs s]:=rfl
theorem spCE4 (a b:Tr):spC (a.cat b)=spC a++[b]:=rfl
theorem spCE5 (a b:Tr):spC (a.alt b)=[a.alt b]:=rfl
theorem spCE6 (a:Tr):spC a.star=[a.star]:=rfl
theorem spCE7 (a:Tr):spC a.plus=[a.plus]:=rfl
theorem spCE8 (a:Tr):spC a.opt=[a.opt]:=rfl
theorem spCE9 (a:Tr)(l:Nat)(h:Option Nat):spC (a.rep l h)=[a.rep l h]:=rfl
noncomputable def spA:Tr→List Tr
 |.alt a b=>spA a++[b]
 |.emp=>[.emp]
 |.nev=>[.nev]
 |.chs s=>[.chs s]
 |.cat a b=>[.cat a b]
 |.star a=>[.star a]
 |.plus a=>[.plus a]
 |.opt a=>[.opt a]
 |.rep a l h=>[.rep a l h]
theorem spAE1:spA Tr.emp=[Tr.emp]:=rfl
theorem spAE2:spA Tr.nev=[Tr.nev]:=rfl
theorem spAE3 (s:List (Nat×Nat)):spA (Tr.chs s)=[Tr.chs s]:=rfl
theorem spAE4 (a b:Tr):spA (a.cat b)=[a.cat b]:=rfl
theorem spAE5 (a b:Tr):spA (a.alt b)=spA a++[b]:=rfl
theorem spAE6 (a:Tr):spA a.star=[a.star]:=rfl
theorem spAE7 (a:Tr):spA a.plus=[a.plus]:=rfl
theorem spAE8 (a:Tr):spA a.opt=[a.opt]:=rfl
theorem spAE9 (a:Tr)(l:Nat)(h:Option Nat):spA (a.rep l h)=[a.rep l h]:=rfl
noncomputable def spn (k:List Nat)(t:Tr):List Tr:=if k=[99,97,116] then spC t else if k=[97,108,116] then spA t else [t]
noncomputable def sz:Tr→Nat
 |.cat a b=>sz a+sz b+1
 |.alt a b=>sz a+sz b+1
 |.star a=>sz a+1
 |.plus a=>sz a+1
 |.opt a=>sz a+1
 |.rep a _ _=>sz a+1
 |.emp=>1
 |.nev=>1
 |.chs _=>1
theorem szE1:sz Tr.emp=1:=rfl
theorem szE2:sz Tr.nev=1:=rfl
theorem szE3 (s:List (Nat×Nat)):sz (Tr.chs s)=1:=rfl
theorem szE4 (a b:Tr):sz (a.cat b)=sz a+sz b+1:=rfl
theorem szE5 (a b:Tr):sz (a.alt b)=sz a+sz b+1:=rfl
theorem szE6 (a:Tr):sz a.star=sz a+1:=rfl
theorem szE7 (a:Tr):sz a.plus=sz a+1:=rfl
theorem szE8 (a:Tr):sz a.opt=sz a+1:=rfl
theorem szE9 (a:Tr)(lo:Nat)(hi:Option Nat):sz (a.rep lo hi)=sz a+1:=rfl
theorem sz_pos {t:Tr}:1≤sz t:=by cases t<;>simp [szE1,szE2,szE3,szE4,szE5,szE6,szE7,szE8,szE9]
theorem nm_cat {t:Tr}(h:nm t=[99,97,116]):∃ a b,t=.cat a b:=by cases t<;>first | exact ⟨_,_,rfl⟩ | exact bad h rfl
theorem nm_alt {t:Tr}(h:nm t=[97,108,116]):∃ a b,t=.alt a b:=by cases t<;>first | exact ⟨_,_,rfl⟩ | exact bad h rfl
set_option tactic.hygienic true in
theorem spn_end {k:List Nat}{t:Tr}(h:nm t≠k∨(nm t≠[99,97,116]∧nm t≠[97,108,116])):spn k t=[t]:=by
 unfold spn
 split
 ·next e=>subst e;cases t<;>first | rfl | (exfalso;rcases h with h | h;exact h rfl;exact h.1 rfl)
 split
 ·next e=>subst e;cases t<;>first | rfl | (exfalso;rcases h with h | h;exact h rfl;exact h.2 rfl)
 rfl
theorem k_spine {t:Tr}(hz:sz t≤1000000)(hq:Q (.lst ((spn (nm t) t).map nv)) σ):CALL w (fr w.params) (d+1) (.ref 704) [nv t] σ Q:=by
 refine O_spine ?_
 intro a
 refine ⟨_,_,⟨.rfl⟩,?_⟩
 refine ⟨fun n m σ'=>∃ h rs,n=sz h∧spn (nm t) t=spn (nm t) h++rs.reverse∧m=[some (nv t),some (.own a),some (nv h)]∧σ'=(a,.lst (rs.map nv))::σ∧rs.length+sz h≤sz t,_,⟨⟨t,[],rfl,by simp,rfl,rfl,by simp⟩⟩,?_⟩
 rintro n m σ' ⟨h,rs,rfl,hs,rfl,rfl,hl⟩
 have fin:(nm h≠nm t∨(nm h≠[99,97,116]∧nm h≠[97,108,116]))→NN.Back Q (.own a) ((a,.lst (rs.map nv++[nv h]).reverse)::σ):=by
  intro he
  rw [spn_end he] at hs
  refine ⟨_,_,.lst,?_⟩
  rw [hs] at hq
  rw [show (rs.map nv++[nv h]).reverse=([h]++rs.reverse).map nv by simp]
  exact hq
 have hp:=sz_pos (t:=h)
 refine gN ?_
 refine gN ?_
 refine bq _ (eqT (a:=nm h) (b:=nm t)) (fun h1=>?_) fun h1=>?_
 ·refine gN ?_
  refine bq _ (eqT (a:=nm h)) (fun h2=>?_) fun h2=>?_
  ·refine bt _ rfl ?_
   clear fin hp
   refine xEEo (nm_cat h2) fun x y er1=>?_;subst er1
   have hsz:sz (.cat x y)=sz x+sz y+1:=rfl
   refine mApp (.head _) ?_
   refine gI ?_ (v:=nv y) (ho:=by cases y<;>rfl)
   refine ⟨_,_,⟨.head⟩,⟨by rw [List.length_map];lia⟩,?_⟩
   refine gI ?_ (v:=nv x) (ho:=by cases x<;>rfl)
   refine ⟨sz x,by lia,x,rs++[y],rfl,?_,rfl,by rw [List.map_append];rfl,?_⟩
   ·rw [hs,←h1]
    simp [spn,nmE1,nmE2,nmE3,nmE4,nmE5,nmE6,nmE7,nmE8,nmE9,spCE1,spCE2,spCE3,spCE4,spCE5,spCE6,spCE7,spCE8,spCE9]
   ·rw [List.length_append,List.length_singleton];lia
  refine gN ?_
  refine bq _ (eqT (a:=nm h)) (fun h3=>?_) fun h3=>?_
  ·clear fin hp
   refine xEEo (nm_alt h3) fun x y er1=>?_;subst er1
   have hsz:sz (.alt x y)=sz x+sz y+1:=rfl
   refine mApp (.head _) ?_
   refine gI ?_ (v:=nv y) (ho:=by cases y<;>rfl)
   refine ⟨_,_,⟨.head⟩,⟨by rw [List.length_map];lia⟩,?_⟩
   refine gI ?_ (v:=nv x) (ho:=by cases x<;>rfl)
   refine ⟨sz x,by lia,x,rs++[y],rfl,?_,rfl,by rw [List.map_append];rfl,?_⟩
   ·rw [hs,←h1]
    simp [spn,nmE1,nmE2,nmE3,nmE4,nmE5,nmE6,nmE7,nmE8,nmE9,spAE1,spAE2,spAE3,spAE4,spAE5,spAE6,spAE7,spAE8,spAE9]
   ·rw [List.length_append,List.length_singleton];lia
  ·refine mApp (.head _) ?_
   refine ⟨_,_,⟨.head⟩,⟨by rw [List.length_map];lia⟩,?_⟩
   refine mRev (.head _) ?_
   exact ⟨_,_,⟨.head⟩,⟨by rw [List.length_append,List.length_map];simp;lia⟩,fin (.inr ⟨h2,h3⟩)⟩
 ·refine bf _ rfl ?_
  refine mApp (.head _) ?_
  refine ⟨_,_,⟨.head⟩,⟨by rw [List.length_map];lia⟩,?_⟩
  refine mRev (.head _) ?_
  exact ⟨_,_,⟨.head⟩,⟨by rw [List.length_append,List.length_map];simp;lia⟩,fin (.inl h1)⟩
end Hd
end
section
open PySem PySem.W PySem.Calls PyProof.Rows NN
namespace Hd
variable {w:World}{d:Nat}{σ:NN.St}{Q:V→NN.St→Prop}{v:V}
noncomputable def ht:Tr→Nat
 |.cat a b=>max (ht a) (ht b)+1
 |.alt a b=>max (ht a) (ht b)+1
 |.star a=>ht a+1
 |.plus a=>ht a+1
 |.opt a=>ht a+1
 |.rep a _ _=>ht a+1
 |.emp=>0
 |.nev=>0
 |.chs _=>0
theorem htE1:ht Tr.emp=0:=rfl
theorem htE2:ht Tr.nev=0:=rfl
theorem htE3 (s:List (Nat×Nat)):ht (Tr.chs s)=0:=rfl
theorem htE4 (a b:Tr):ht (a.cat b)=max (ht a) (ht b)+1:=rfl
theorem htE5 (a b:Tr):ht (a.alt b)=max (ht a) (ht b)+1:=rfl
theorem htE6 (a:Tr):ht a.star=ht a+1:=rfl
theorem htE7 (a:Tr):ht a.plus=ht a+1:=rfl
theorem htE8 (a:Tr):ht a.opt=ht a+1:=rfl
theorem htE9 (a:Tr)(lo:Nat)(hi:Option Nat):ht (a.rep lo hi)=ht a+1:=rfl
noncomputable def tx3:Tr→List Nat×List Nat×List Nat
 |.emp=>([40,41],[40,41],[40,41])
 |.nev=>(cls [],cls [],cls [])
 |.chs s=>(shch s,shch s,shch s)
 |.cat a b=>([40]++((tx3 a).2.1++(tx3 b).1)++[41],(tx3 a).2.1++(tx3 b).1,(tx3 a).2.1++(tx3 b).1)
 |.alt a b=>([40]++((tx3 a).2.2++[124]++(tx3 b).2.1)++[41],[40]++((tx3 a).2.2++[124]++(tx3 b).2.1)++[41],(tx3 a).2.2++[124]++(tx3 b).2.1)
 |.star a=>((tx3 a).1++[42],(tx3 a).1++[42],(tx3 a).1++[42])
 |.plus a=>((tx3 a).1++[43],(tx3 a).1++[43],(tx3 a).1++[43])
 |.opt a=>((tx3 a).1++[63],(tx3 a).1++[63],(tx3 a).1++[63])
 |.rep a lo hi=>((tx3 a).1++shct lo hi,(tx3 a).1++shct lo hi,(tx3 a).1++shct lo hi)
theorem tx3E1:tx3 Tr.emp=([40,41],[40,41],[40,41]):=rfl
theorem tx3E2:tx3 Tr.nev=(cls [],cls [],cls []):=rfl
theorem tx3E3 (s:List (Nat×Nat)):tx3 (Tr.chs s)=(shch s,shch s,shch s):=rfl
theorem tx3E4 (a b:Tr):tx3 (a.cat b)=([40]++((tx3 a).snd.fst++(tx3 b).fst)++[41],(tx3 a).snd.fst++(tx3 b).fst,(tx3 a).snd.fst++(tx3 b).fst):=rfl
theorem tx3E5 (a b:Tr):tx3 (a.alt b)=([40]++((tx3 a).snd.snd++[124]++(tx3 b).snd.fst)++[41],[40]++((tx3 a).snd.snd++[124]++(tx3 b).snd.fst)++[41],(tx3 a).snd.snd++[124]++(tx3 b).snd.fst):=rfl
theorem tx3E6 (a:Tr):tx3 a.star=((tx3 a).fst++[42],(tx3 a).fst++[42],(tx3 a).fst++[42]):=rfl
theorem tx3E7 (a:Tr):tx3 a.plus=((tx3 a).fst++[43],(tx3 a).fst++[43],(tx3 a).fst++[43]):=rfl
theorem tx3E8 (a:Tr):tx3 a.opt=((tx3 a).fst++[63],(tx3 a).fst++[63],(tx3 a).fst++[63]):=rfl
theorem tx3E9 (a:Tr)(lo:Nat)(hi:Option Nat):tx3 (a.rep lo hi)=((tx3 a).fst++shct lo hi,(tx3 a).fst++shct lo hi,(tx3 a).fst++shct lo hi):=rfl
noncomputable abbrev tT (t:Tr):List Nat:=(tx3 t).1
noncomputable abbrev tR (t:Tr):List Nat:=(tx3 t).2.1
noncomputable abbrev tL (t:Tr):List Nat:=(tx3 t).2.2
noncomputable def tLev (t:Tr)(l:Nat):List Nat:=if l=0 then tL t else if l=1 then tR t else tT t
theorem ic_snoc {s x:List Nat}:∀ {l:List (List Nat)},l≠[]→List.intercalate s (l++[x])=List.intercalate s l++s++x
 |[],h=>absurd rfl h
 |[y],_=>by simp [List.intercalate]
 |y::z::r,_=>by
  have:=ic_snoc (s:=s) (x:=x) (l:=z::r) (by simp)
  simp only [List.intercalate,List.cons_append] at this ⊢
  rw [List.intersperse_cons₂,List.intersperse_cons₂,List.flatten_cons,List.flatten_cons,List.flatten_cons,List.flatten_cons,this]
  simp
theorem spA_ne {t:Tr}:spA t≠[]:=by cases t<;>simp [spAE1,spAE2,spAE3,spAE4,spAE5,spAE6,spAE7,spAE8,spAE9]
theorem spC_tx (t:Tr):List.intercalate [] ((spC t).map tT)=tR t:=by
 rw [ic0]
 induction t with
 |cat a b iha ihb=>show ((spC a++[b]).map tT).flatten=tR a++tT b;rw [List.map_append,List.flatten_append,iha];simp
 |_=>simp [spCE1,spCE2,spCE3,spCE4,spCE5,spCE6,spCE7,spCE8,spCE9];rfl
theorem spA_tx (t:Tr):List.intercalate [124] ((spA t).map tR)=tL t:=by
 induction t with
 |alt a b iha ihb=>show List.intercalate [124] ((spA a++[b]).map tR)=tL a++[124]++tR b;rw [List.map_append,List.map_singleton,ic_snoc (by simp [spA_ne]),iha]
 |_=>simp [spAE1,spAE2,spAE3,spAE4,spAE5,spAE6,spAE7,spAE8,spAE9,List.intercalate];rfl
noncomputable def OkT:Tr→Prop
 |.chs s=>OkS s∧s≠[]∧s.Pairwise fun p q=>p.2+1<q.1
 |.cat a b=>OkT a∧OkT b
 |.alt a b=>OkT a∧OkT b
 |.star a=>OkT a
 |.plus a=>OkT a
 |.opt a=>OkT a
 |.rep a lo hi=>OkT a∧lo≤40∧∀ n,hi=some n→lo≤n∧n≤40
 |_=>True
theorem shs_len {c:Nat}:(shs c).length≤4:=by
 unfold shs
 split;· simp
 split;· simp
 split;· simp
 split;· simp
 split<;>simp [esc]
theorem shct_len {lo:Nat}{hi:Option Nat}:(shct lo hi).length≤7:=by
 have h1:=dec_len (n:=lo)
 cases hi with
 |none=>simp [shct];exact zz6
 |some n=>have h2:=dec_len (n:=n);simp only [shct];split<;>simp<;>lia
theorem cls_len {s:Sp}(h:s.length≤32):(cls s).length≤300:=by
 unfold cls
 have h0:=shc_len (c:=0)
 have h1:=shc_len (c:=127)
 split
 ·simp;exact Nat.le_add_left _ _
 ·have:=(itps_len (s:=s)).2
  rw [ic0]
  simp only [List.length_append,List.length_flatten,List.length_singleton]
  lia
theorem shch_len {s:Sp}(h:OkS s):(shch s).length≤300:=by
 have h1:=cls_len (s:=s) (by have:=h.2;exact zz0)
 have h2:=shs_len (c:=(s.headD (0,0)).1)
 unfold shch
 split;· simp
 split<;>exact zz6
theorem tx_len3 {t:Tr}:OkT t→(tT t).length≤300*sz t∧(tR t).length≤300*sz t∧(tL t).length≤300*sz t:=by
 induction t with
 |emp=>intro _;simp only [tT,tR,tL,tx3E1,szE1];decide
 |nev=>intro _;have:=cls_len (s:=[]) (by decide);simp only [tT,tR,tL,tx3E2,szE2];decide
 |chs s=>intro h;have:=shch_len h.1;simp only [tT,tR,tL,tx3E3,szE3];lia
 |cat a b iha ihb=>intro h;have:=iha h.1;have:=ihb h.2;simp only [tT,tR,tL,tx3E4,szE4,List.length_append,List.length_singleton] at *;lia
 |alt a b iha ihb=>intro h;have:=iha h.1;have:=ihb h.2;simp only [tT,tR,tL,tx3E5,szE5,List.length_append,List.length_singleton] at *;lia
 |star a iha=>intro h;have:=iha h;simp only [tT,tR,tL,tx3E6,szE6,List.length_append,List.length_singleton] at *;lia
 |plus a iha=>intro h;have:=iha h;simp only [tT,tR,tL,tx3E7,szE7,List.length_append,List.length_singleton] at *;lia
 |opt a iha=>intro h;have:=iha h;simp only [tT,tR,tL,tx3E8,szE8,List.length_append,List.length_singleton] at *;lia
 |rep a lo hi iha=>intro h;have:=iha h.1;have:=shct_len (lo:=lo) (hi:=hi);simp only [tT,tR,tL,tx3E9,szE9,List.length_append,List.length_singleton] at *;lia
theorem spC_mem {t:Tr}:∀ {p:Tr},p∈spC t→sz p≤sz t∧ht p≤ht t∧(OkT t→OkT p):=by
 have one:∀ {t p:Tr},p∈[t]→sz p≤sz t∧ht p≤ht t∧(OkT t→OkT p):=fun h=>List.mem_singleton.mp h▸⟨Nat.le_refl _,Nat.le_refl _,id⟩
 induction t with
 |cat a b iha ihb =>
  intro p h
  rcases List.mem_append.mp (show p∈spC a++[b] from h) with h | h
  ·have:=iha h
   exact ⟨by simp only [szE4];lia,by simp only [htE4];lia,fun o=>this.2.2 o.1⟩
  ·rw [List.mem_singleton.mp h]
   exact ⟨by simp only [szE4];lia,by simp only [htE4];lia,fun o=>o.2⟩
 |_=>exact one
theorem spA_mem {t:Tr}:∀ {p:Tr},p∈spA t→sz p≤sz t∧ht p≤ht t∧(OkT t→OkT p):=by
 have one:∀ {t p:Tr},p∈[t]→sz p≤sz t∧ht p≤ht t∧(OkT t→OkT p):=fun h=>List.mem_singleton.mp h▸⟨Nat.le_refl _,Nat.le_refl _,id⟩
 induction t with
 |alt a b iha ihb =>
  intro p h
  rcases List.mem_append.mp (show p∈spA a++[b] from h) with h | h
  ·have:=iha h
   exact ⟨by simp only [szE5];lia,by simp only [htE5];lia,fun o=>this.2.2 o.1⟩
  ·rw [List.mem_singleton.mp h]
   exact ⟨by simp only [szE5];lia,by simp only [htE5];lia,fun o=>o.2⟩
 |_=>exact one
theorem catP {a b p:Tr}(h:p∈spC (.cat a b)):sz p<sz (.cat a b)∧ht p<ht (.cat a b)∧(OkT (.cat a b)→OkT p):=by
 rcases List.mem_append.mp (show p∈spC a++[b] from h) with h | h
 ·have:=spC_mem h
  exact ⟨by simp only [szE1,szE2,szE3,szE4,szE5,szE6,szE7,szE8,szE9];lia,by simp only [htE1,htE2,htE3,htE4,htE5,htE6,htE7,htE8,htE9];lia,fun o=>this.2.2 o.1⟩
 ·rw [List.mem_singleton.mp h]
  exact ⟨by simp only [szE1,szE2,szE3,szE4,szE5,szE6,szE7,szE8,szE9];exact Nat.le_add_left _ _,by simp only [htE1,htE2,htE3,htE4,htE5,htE6,htE7,htE8,htE9];lia,fun o=>o.2⟩
theorem altP {a b p:Tr}(h:p∈spA (.alt a b)):sz p<sz (.alt a b)∧ht p<ht (.alt a b)∧(OkT (.alt a b)→OkT p):=by
 rcases List.mem_append.mp (show p∈spA a++[b] from h) with h | h
 ·have:=spA_mem h
  exact ⟨by simp only [szE1,szE2,szE3,szE4,szE5,szE6,szE7,szE8,szE9];lia,by simp only [htE1,htE2,htE3,htE4,htE5,htE6,htE7,htE8,htE9];lia,fun o=>this.2.2 o.1⟩
 ·rw [List.mem_singleton.mp h]
  exact ⟨by simp only [szE1,szE2,szE3,szE4,szE5,szE6,szE7,szE8,szE9];lia,by simp only [htE1,htE2,htE3,htE4,htE5,htE6,htE7,htE8,htE9];lia,fun o=>o.2⟩
end Hd
end
section
open PySem PySem.W PySem.Calls PyProof.Rows NN
namespace Hd
variable {w:World}{d:Nat}{σ:NN.St}{Q:V→NN.St→Prop}{v:V}
theorem spn_cat {a b:Tr}:spn (nm (.cat a b)) (.cat a b)=spC (.cat a b):=rfl
theorem spn_alt {a b:Tr}:spn (nm (.alt a b)) (.alt a b)=spA (.alt a b):=rfl
theorem gtL {lev k:Nat}:decide ((lev:Int) > (k:Int))=decide (k<lev):=gtN
theorem sum_txs {l:List Tr}{f:Tr→List Nat}{n:Nat}(h:∀ p∈l,(f p).length≤n):((l.map f).map List.length).sum≤l.length*n:=by
 induction l with
 |nil=>simp
 |cons p l ih =>
  have h1:=h p (.head _)
  have h2:=ih fun q hq=>h q (.tail _ hq)
  simp only [List.map_cons,List.sum_cons,List.length_cons]
  rw [Nat.succ_mul];lia
theorem spC_len (t:Tr):(spC t).length≤sz t:=by
 induction t with
 |cat a b iha ihb=>have:=sz_pos (t:=b);simp only [spCE4,List.length_append,List.length_singleton,szE4];lia
 |_=>simp [spCE1,spCE2,spCE3,spCE4,spCE5,spCE6,spCE7,spCE8,spCE9,szE1,szE2,szE3,szE4,szE5,szE6,szE7,szE8,szE9]
theorem spA_len (t:Tr):(spA t).length≤sz t:=by
 induction t with
 |alt a b iha ihb=>have:=sz_pos (t:=b);simp only [spAE5,List.length_append,List.length_singleton,szE5];lia
 |_=>simp [spAE1,spAE2,spAE3,spAE4,spAE5,spAE6,spAE7,spAE8,spAE9,szE1,szE2,szE3,szE4,szE5,szE6,szE7,szE8,szE9]
theorem k_showAt:∀ (n:Nat) {t:Tr} {lev d:Nat} {σ:NN.St} {Q:V→NN.St→Prop},sz t≤n→ht t≤d→OkT t→sz t≤100→Q (.str (tx (tLev t lev))) σ→CALL w (fr w.params) (d+8) (.ref 947) [nv t,.int lev] σ Q:=by
 intro n
 induction n with
 |zero=>intro t lev d σ Q h;exact absurd (sz_pos (t:=t)) (by lia)
 |succ n ih =>
  intro t lev d σ Q hn hd ok hz hq
  refine O_show_at ?_
  refine gN ?_
  cases t with
  |emp =>
   refine bt _ rfl ?_
   have e:tLev .emp lev=[40,41]:=by unfold tLev;split;rfl;split<;>rfl
   rw [e] at hq
   exact back' hq
  |nev =>
   refine bf _ rfl ?_
   refine gC ?_
   refine bt _ rfl ?_
   refine ⟨k_none ?_⟩
   have e:tLev .nev lev=cls []:=by unfold tLev;split;rfl;split<;>rfl
   rw [e] at hq
   exact ⟨k_told (s:=[]) (fun p hp=>by cases hp) (by decide) (back' hq)⟩
  |chs s =>
   refine bf _ rfl ?_
   refine gC ?_
   refine bf _ rfl ?_
   refine gC ?_
   refine bt _ rfl ?_
   refine gI ?_
   have e:tLev (.chs s) lev=shch s:=by unfold tLev;split;rfl;split<;>rfl
   rw [e] at hq
   exact ⟨k_showChars ok.1 (back' hq)⟩
  |alt a b =>
   refine bf _ rfl ?_
   refine gC ?_
   refine bf _ rfl ?_
   refine gC ?_
   refine bf _ rfl ?_
   refine gC ?_
   refine bt _ rfl ?_
   refine xEo (⟨d - 1,by simp only [htE5] at hd;lia⟩:∃ e,d=e+1) fun d er1=>?_;subst er1
   refine ⟨k_spine (t:=.alt a b) (by exact zz6) ?_⟩
   rw [spn_alt]
   refine compL (l:=spA (.alt a b)) (f:=nv) (g:=fun p=>.str (tx (tR p))) rfl (by have:=spA_len (.alt a b);lia) ?_ ?_
   ·intro p hp Q' hq'
    refine xAoAoo (altP hp) fun h1 h2 h3=>?_
    exact ⟨ih (lev:=1) (by lia) (by lia) (h3 ok) (by lia) hq'⟩
   intro x
   refine ⟨_,_,⟨.lst⟩,?_⟩
   have hlen:=tx_len3 ok
   have hj:(((spA (.alt a b)).map tR).map List.length).sum≤(spA (.alt a b)).length*60000:=sum_txs fun p hp=>by
    refine xAoAoo (altP hp) fun h1 h2 h3=>?_
    have:=tx_len3 (h3 ok);lia
   have hl:=spA_len (.alt a b)
   refine ⟨((spA (.alt a b)).map tR).map tx,⟨by simp⟩,⟨join_ok (s:=[124]) (by simp only [List.length_map,List.length_singleton] at *;lia)⟩,tx (tL (.alt a b)),⟨by rw [←spA_tx,join_tx]⟩,?_⟩
   refine bq _ (gtL (k:=0)) (fun h4=>?_) fun h4=>?_
   ·refine ⟨ll (a:=[40]) (b:=tL (.alt a b)) (by simp only [List.length_singleton];lia),ll (a:=[40]++tL (.alt a b)) (b:=[41]) (by simp only [List.length_append,List.length_singleton];lia),?_⟩
    have e:tLev (.alt a b) lev=[40]++tL (.alt a b)++[41]:=by unfold tLev;rw [if_neg (by lia)];split<;>rfl
    rw [e] at hq
    exact back' hq
   ·have e:tLev (.alt a b) lev=tL (.alt a b):=by unfold tLev;rw [if_pos (by lia)]
    rw [e] at hq
    exact back' hq
  |cat a b =>
   refine bf _ rfl ?_
   refine gC ?_
   refine bf _ rfl ?_
   refine gC ?_
   refine bf _ rfl ?_
   refine gC ?_
   refine bf _ rfl ?_
   refine gC ?_
   refine bt _ rfl ?_
   refine xEo (⟨d - 1,by simp only [htE4] at hd;lia⟩:∃ e,d=e+1) fun d er1=>?_;subst er1
   refine ⟨k_spine (t:=.cat a b) (by exact zz6) ?_⟩
   rw [spn_cat]
   refine compL (l:=spC (.cat a b)) (f:=nv) (g:=fun p=>.str (tx (tT p))) rfl (by have:=spC_len (.cat a b);lia) ?_ ?_
   ·intro p hp Q' hq'
    refine xAoAoo (catP hp) fun h1 h2 h3=>?_
    exact ⟨ih (lev:=2) (by lia) (by lia) (h3 ok) (by lia) hq'⟩
   intro x
   refine ⟨_,_,⟨.lst⟩,?_⟩
   have hlen:=tx_len3 ok
   have hj:(((spC (.cat a b)).map tT).map List.length).sum≤(spC (.cat a b)).length*60000:=sum_txs fun p hp=>by
    refine xAoAoo (catP hp) fun h1 h2 h3=>?_
    have:=tx_len3 (h3 ok);lia
   have hl:=spC_len (.cat a b)
   refine ⟨((spC (.cat a b)).map tT).map tx,⟨by simp⟩,⟨join_ok (s:=[]) (by simp only [List.length_map,List.length_nil] at *;lia)⟩,tx (tR (.cat a b)),⟨by rw [←spC_tx,join_tx]⟩,?_⟩
   refine bq _ (gtL (k:=1)) (fun h4=>?_) fun h4=>?_
   ·refine ⟨ll (a:=[40]) (b:=tR (.cat a b)) (by simp only [List.length_singleton];lia),ll (a:=[40]++tR (.cat a b)) (b:=[41]) (by simp only [List.length_append,List.length_singleton];lia),?_⟩
    have e:tLev (.cat a b) lev=[40]++tR (.cat a b)++[41]:=by unfold tLev;rw [if_neg (by lia),if_neg (by lia)];rfl
    rw [e] at hq
    exact back' hq
   ·have e:tLev (.cat a b) lev=tR (.cat a b):=by unfold tLev;split;rfl;rw [if_pos (by lia)]
    rw [e] at hq
    exact back' hq
  |star a =>
   refine bf _ rfl ?_
   refine gC ?_
   refine bf _ rfl ?_
   refine gC ?_
   refine bf _ rfl ?_
   refine gC ?_
   refine bf _ rfl ?_
   refine gC ?_
   refine bf _ rfl ?_
   refine xEo (⟨d - 1,by simp only [htE6] at hd;lia⟩:∃ e,d=e+1) fun d er1=>?_;subst er1
   have e:tLev (.star a) lev=tT a++[42]:=by unfold tLev;split;rfl;split<;>rfl
   rw [e] at hq
   simp only [szE6] at hn hz
   simp only [htE6] at hd
   have hl:=tx_len3 (t:=a) ok
   refine gI ?_ (v:=nv a) (ho:=by cases a<;>rfl)
   refine ⟨ih (t:=a) (lev:=2) (by exact zz4) (by exact zz4) ok (by exact zz0) ?_⟩
   refine gC ?_
   refine bt _ rfl ?_
   exact ⟨ll (a:=tT a) (b:=[42]) (by simp only [List.length_singleton];lia),back' hq⟩
  |plus a =>
   refine bf _ rfl ?_
   refine gC ?_
   refine bf _ rfl ?_
   refine gC ?_
   refine bf _ rfl ?_
   refine gC ?_
   refine bf _ rfl ?_
   refine gC ?_
   refine bf _ rfl ?_
   refine xEo (⟨d - 1,by simp only [htE7] at hd;lia⟩:∃ e,d=e+1) fun d er1=>?_;subst er1
   have e:tLev (.plus a) lev=tT a++[43]:=by unfold tLev;split;rfl;split<;>rfl
   rw [e] at hq
   simp only [szE7] at hn hz
   simp only [htE7] at hd
   have hl:=tx_len3 (t:=a) ok
   refine gI ?_ (v:=nv a) (ho:=by cases a<;>rfl)
   refine ⟨ih (t:=a) (lev:=2) (by lia) (by lia) ok (by lia) ?_⟩
   refine gC ?_
   refine bf _ rfl ?_
   refine gC ?_
   refine bt _ rfl ?_
   exact ⟨ll (a:=tT a) (b:=[43]) (by simp only [List.length_singleton];lia),back' hq⟩
  |opt a =>
   refine bf _ rfl ?_
   refine gC ?_
   refine bf _ rfl ?_
   refine gC ?_
   refine bf _ rfl ?_
   refine gC ?_
   refine bf _ rfl ?_
   refine gC ?_
   refine bf _ rfl ?_
   refine xEo (⟨d - 1,by simp only [htE8] at hd;lia⟩:∃ e,d=e+1) fun d er1=>?_;subst er1
   have e:tLev (.opt a) lev=tT a++[63]:=by unfold tLev;split;rfl;split<;>rfl
   rw [e] at hq
   simp only [szE8] at hn hz
   simp only [htE8] at hd
   have hl:=tx_len3 (t:=a) ok
   refine gI ?_ (v:=nv a) (ho:=by cases a<;>rfl)
   refine ⟨ih (t:=a) (lev:=2) (by lia) (by lia) ok (by lia) ?_⟩
   refine gC ?_
   refine bf _ rfl ?_
   refine gC ?_
   refine bf _ rfl ?_
   refine gC ?_
   refine bt _ rfl ?_
   exact ⟨ll (a:=tT a) (b:=[63]) (by simp only [List.length_singleton];lia),back' hq⟩
  |rep a lo hi =>
   refine bf _ rfl ?_
   refine gC ?_
   refine bf _ rfl ?_
   refine gC ?_
   refine bf _ rfl ?_
   refine gC ?_
   refine bf _ rfl ?_
   refine gC ?_
   refine bf _ rfl ?_
   refine xEo (⟨d - 1,by simp only [htE9] at hd;lia⟩:∃ e,d=e+1) fun d er1=>?_;subst er1
   have e:tLev (.rep a lo hi) lev=tT a++shct lo hi:=by unfold tLev;split;rfl;split<;>rfl
   rw [e] at hq
   simp only [szE9] at hn hz
   simp only [htE9] at hd
   have hl:=tx_len3 (t:=a) ok.1
   refine gI ?_ (v:=nv a) (ho:=by cases a<;>rfl)
   refine ⟨ih (t:=a) (lev:=2) (by lia) (by lia) ok.1 (by lia) ?_⟩
   refine gC ?_
   refine bf _ rfl ?_
   refine gC ?_
   refine bf _ rfl ?_
   refine gC ?_
   refine bf _ rfl ?_
   have hs:=shct_len (lo:=lo) (hi:=hi)
   refine gI ?_
   refine gI ?_ (v:=hiV hi) (ho:=by cases hi<;>rfl)
   refine ⟨k_showCount (by have:=ok.2.1;exact zz3) (fun n hn=>by have:=ok.2.2 n hn;lia) ?_⟩
   exact ⟨ll (a:=tT a) (b:=shct lo hi) (by lia),back' hq⟩
theorem k_showRegex {t:Tr}(hd:ht t≤d)(ok:OkT t)(hz:sz t≤100)(hq:Q (.str (tx (tL t))) σ):CALL w (fr w.params) (d+9) (.ref 954) [nv t] σ Q:=by
 refine O_show_regex ?_
 exact ⟨k_showAt (sz t) (lev:=0) (Nat.le_refl _) hd ok hz (back' hq)⟩
end Hd
end
section
open PySem PySem.W PySem.Calls PyProof.Rows NN
namespace Hd
variable {w:World}{d:Nat}{σ:NN.St}{Q:V→NN.St→Prop}{v:V}
noncomputable def tf:Tr→Addr
 |.emp=>488
 |.nev=>488
 |.chs _=>540
 |.cat _ _=>573
 |.alt _ _=>573
 |.rep _ _ _=>692
 |_=>630
theorem mTold {t:Tr}{n:Nat}{K:List Fr}{m:Mp}(h:CALL w (fr w.params) d (.ref (tf t)) [nv t] σ fun v σ'=>(mach (cx0 w tb d) n).V K v m σ'):mthV (mach (cx0 w tb d) (n+1)) (cx0 w tb d) (nv t) 479934452 [] K m σ:=by
 cases t<;>exact ⟨⟨rfl⟩,⟨h⟩⟩
noncomputable def acT (k:List Nat)(v:V)(p:Tr):V:=.tup [.str (tx k),v,tv p]
theorem foldC (t:Tr):∃ h r,spC t=h::r∧(∃ x,spC t=x++r)∧r.foldl (acT [99,97,116]) (tv h)=tv t:=by
 induction t with
 |cat a b iha ihb =>
  refine xEEAoAEoo iha fun h r e1 x e2 e3=>?_
  refine ⟨h,r++[b],by simp only [spCE4,e1,List.cons_append],⟨x,by simp only [spCE4];rw [e2,List.append_assoc]⟩,?_⟩
  rw [List.foldl_append,e3];rfl
 |_=>exact ⟨_,[],rfl,⟨[_],rfl⟩,rfl⟩
theorem foldA (t:Tr):∃ h r,spA t=h::r∧(∃ x,spA t=x++r)∧r.foldl (acT [97,108,116]) (tv h)=tv t:=by
 induction t with
 |alt a b iha ihb =>
  refine xEEAoAEoo iha fun h r e1 x e2 e3=>?_
  refine ⟨h,r++[b],by simp only [spAE5,e1,List.cons_append],⟨x,by simp only [spAE5];rw [e2,List.append_assoc]⟩,?_⟩
  rw [List.foldl_append,e3];rfl
 |_=>exact ⟨_,[],rfl,⟨[_],rfl⟩,rfl⟩
theorem tupN {c:Cx}{l:List V}{i:Nat}{v:V}(h:l[i]?=some v)(hl:l.length≤1000000):Lf (∃ j:Nat,(i:Int)=j∧l[j]?=some v∧(j:Int)<2^62):=⟨i,rfl,h,by have:=(List.getElem?_eq_some_iff.mp h).1;lia⟩
theorem k_told_:∀ (n:Nat) {t:Tr} {d:Nat} {σ:NN.St} {Q:V→NN.St→Prop},sz t≤n→ht t≤d→sz t≤100→Q (tv t) σ→CALL w (fr w.params) (d+3) (.ref (tf t)) [nv t] σ Q:=by
 intro n
 induction n with
 |zero=>intro t d σ Q h;exact absurd (sz_pos (t:=t)) (by lia)
 |succ n ih =>
  intro t d σ Q hn hd hz hq
  cases t with
  |emp=>refine O_Node_told ?_;refine gC ?_;exact back' hq
  |nev=>refine O_Node_told ?_;refine gC ?_;exact back' hq
  |chs s =>
   refine O_Chars_told ?_
   refine gC ?_
   refine gI ?_
   refine ⟨⟨rfl⟩,?_⟩
   exact ⟨k_key (back' hq)⟩
  |star a =>
   refine O_Loop_told ?_
   refine xEo (⟨d - 1,by simp only [htE6] at hd;lia⟩:∃ e,d=e+1) fun d er1=>?_;subst er1
   simp only [szE6] at hn hz
   simp only [htE6] at hd
   refine gC ?_
   refine gI ?_ (v:=nv a) (ho:=by cases a<;>rfl)
   exact mTold (ih (by exact zz4) (by exact zz4) (by exact zz0) (back' hq))
  |plus a =>
   refine O_Loop_told ?_
   refine xEo (⟨d - 1,by simp only [htE7] at hd;lia⟩:∃ e,d=e+1) fun d er1=>?_;subst er1
   simp only [szE7] at hn hz
   simp only [htE7] at hd
   refine gC ?_
   refine gI ?_ (v:=nv a) (ho:=by cases a<;>rfl)
   exact mTold (ih (by lia) (by lia) (by lia) (back' hq))
  |opt a =>
   refine O_Loop_told ?_
   refine xEo (⟨d - 1,by simp only [htE8] at hd;lia⟩:∃ e,d=e+1) fun d er1=>?_;subst er1
   simp only [szE8] at hn hz
   simp only [htE8] at hd
   refine gC ?_
   refine gI ?_ (v:=nv a) (ho:=by cases a<;>rfl)
   exact mTold (ih (by lia) (by lia) (by lia) (back' hq))
  |rep a lo hi =>
   refine O_Repeat_told ?_
   refine xEo (⟨d - 1,by simp only [htE9] at hd;lia⟩:∃ e,d=e+1) fun d er1=>?_;subst er1
   simp only [szE9] at hn hz
   simp only [htE9] at hd
   refine gC ?_
   refine gI ?_ (v:=nv a) (ho:=by cases a<;>rfl)
   refine mTold (ih (by lia) (by lia) (by lia) ?_)
   refine gI ?_
   refine gI ?_ (v:=hiV hi) (ho:=by cases hi<;>rfl)
   exact back' hq
  |cat a b =>
   refine O_Pair_told ?_
   refine xEo (⟨d - 1,by simp only [htE4] at hd;lia⟩:∃ e,d=e+1) fun d er1=>?_;subst er1
   refine xEEAoAEoo (foldC (.cat a b)) fun h r e1 x e2 e3=>?_
   have hl:=spC_len (.cat a b)
   refine ⟨k_spine (t:=.cat a b) (by exact zz6) ?_⟩
   rw [spn_cat]
   have hh:h∈spC (.cat a b):=by rw [e1];exact .head _
   refine xAoAoo (catP hh) fun h1 h2 h3=>?_
   refine ⟨nv h,tupN (c:=cx0 w tb d) (i:=0) (by rw [e1];rfl) (by rw [List.length_map];lia),?_⟩
   refine mTold (ih (by lia) (by lia) (by lia) ?_)
   refine ⟨⟨by rw [List.length_map];lia⟩,⟨rfl⟩,?_⟩
   rw [show ((spC (.cat a b)).map nv).drop 1=r.map nv by rw [e1];rfl]
   refine forL (f:=nv) (l:=r) (fun dn m σ'=>∃ x:Option V,m=[some (nv (.cat a b)),some (.lst ((spC (.cat a b)).map nv)),some (dn.foldl (acT [99,97,116]) (tv h)),x,none]∧σ'=σ) ?_ ?_ ?_ ?_
   ·rfl
   ·exact ⟨none,rfl,rfl⟩
   ·rintro I dn p td m σ' e ⟨y,rfl,rfl⟩ nx
    have hp:p∈spC (.cat a b):=by rw [e2,←e];simp
    refine xAoAoo (catP hp) fun g1 g2 g3=>?_
    refine gC ?_
    refine mTold (ih (by lia) (by lia) (by lia) ?_)
    refine nx ?_
    exact ⟨_,by rw [List.foldl_append];rfl,rfl⟩
   ·rintro m σ' ⟨y,rfl,rfl⟩
    rw [e3]
    exact back' hq
  |alt a b =>
   refine O_Pair_told ?_
   refine xEo (⟨d - 1,by simp only [htE5] at hd;lia⟩:∃ e,d=e+1) fun d er1=>?_;subst er1
   refine xEEAoAEoo (foldA (.alt a b)) fun h r e1 x e2 e3=>?_
   have hl:=spA_len (.alt a b)
   refine ⟨k_spine (t:=.alt a b) (by exact zz6) ?_⟩
   rw [spn_alt]
   have hh:h∈spA (.alt a b):=by rw [e1];exact .head _
   refine xAoAoo (altP hh) fun h1 h2 h3=>?_
   refine ⟨nv h,tupN (c:=cx0 w tb d) (i:=0) (by rw [e1];rfl) (by rw [List.length_map];lia),?_⟩
   refine mTold (ih (by lia) (by lia) (by lia) ?_)
   refine ⟨⟨by rw [List.length_map];lia⟩,⟨rfl⟩,?_⟩
   rw [show ((spA (.alt a b)).map nv).drop 1=r.map nv by rw [e1];rfl]
   refine forL (f:=nv) (l:=r) (fun dn m σ'=>∃ x:Option V,m=[some (nv (.alt a b)),some (.lst ((spA (.alt a b)).map nv)),some (dn.foldl (acT [97,108,116]) (tv h)),x,none]∧σ'=σ) ?_ ?_ ?_ ?_
   ·rfl
   ·exact ⟨none,rfl,rfl⟩
   ·rintro I dn p td m σ' e ⟨y,rfl,rfl⟩ nx
    have hp:p∈spA (.alt a b):=by rw [e2,←e];simp
    refine xAoAoo (altP hp) fun g1 g2 g3=>?_
    refine gC ?_
    refine mTold (ih (by lia) (by lia) (by lia) ?_)
    refine nx ?_
    exact ⟨_,by rw [List.foldl_append];rfl,rfl⟩
   ·rintro m σ' ⟨y,rfl,rfl⟩
    rw [e3]
    exact back' hq
end Hd
end
section
open PySem PySem.W PySem.Calls PyProof.Rows NN
namespace Hd
theorem nm_lay {t:Tr}:(PyData.str (tx (nm t))).canLay0=true:=by rw [PyData.canLay0];cases t<;>simp [PyData.strOk,tx,nmE1,nmE2,nmE3,nmE4,nmE5,nmE6,nmE7,nmE8,nmE9]
theorem lay1 {x:PyData}(h:x.canLay0=true):PyData.canLayAll0 [x]=true:=by show (x.canLay0 && true)=true;rw [h];rfl
theorem layC {x:PyData}{l:List PyData}(h:x.canLay0=true)(h':PyData.canLayAll0 l=true):PyData.canLayAll0 (x::l)=true:=by show (x.canLay0 && PyData.canLayAll0 l)=true;rw [h,h'];rfl
theorem hi_lay {h:Option Nat}:(hiD h).canLay0=true:=by cases h<;>rfl
theorem dT_lay:∀ {t:Tr},(dT t).canLay0=true
 |.emp=>lay1 (nm_lay (t:=.emp))
 |.nev=>lay1 (nm_lay (t:=.nev))
 |.chs s=>layC (nm_lay (t:=.chs s)) (lay1 dS_lay)
 |.cat a b=>layC (nm_lay (t:=.cat a b)) (layC dT_lay (lay1 dT_lay))
 |.alt a b=>layC (nm_lay (t:=.alt a b)) (layC dT_lay (lay1 dT_lay))
 |.star a=>layC (nm_lay (t:=.star a)) (lay1 dT_lay)
 |.plus a=>layC (nm_lay (t:=.plus a)) (lay1 dT_lay)
 |.opt a=>layC (nm_lay (t:=.opt a)) (lay1 dT_lay)
 |.rep a lo hi=>layC (nm_lay (t:=.rep a lo hi)) (layC dT_lay (layC rfl (lay1 hi_lay)))
theorem dT_depth {t:Tr}:(dT t).depth≤ht t+3:=by
 induction t with
 |emp=>simp [dTE1,PyData.depth,PyData.depthAll,htE1]
 |nev=>simp [dTE2,PyData.depth,PyData.depthAll,htE2]
 |chs s=>have:=dS_depth (s:=s);simp only [dTE3,PyData.depth,PyData.depthAll,htE3];exact zz3
 |cat a b iha ihb=>have:=iha;have:=ihb;simp only [dTE4,PyData.depth,PyData.depthAll,htE4];lia
 |alt a b iha ihb=>have:=iha;have:=ihb;simp only [dTE5,PyData.depth,PyData.depthAll,htE5];lia
 |star a iha=>have:=iha;simp only [dTE6,PyData.depth,PyData.depthAll,htE6];lia
 |plus a iha=>have:=iha;simp only [dTE7,PyData.depth,PyData.depthAll,htE7];lia
 |opt a iha=>have:=iha;simp only [dTE8,PyData.depth,PyData.depthAll,htE8];lia
 |rep a lo hi iha =>
  have:=iha
  have:(hiD hi).depth=0:=by cases hi<;>rfl
  simp only [dTE9,PyData.depth,PyData.depthAll,htE9];lia
noncomputable def dN:PyData→Option PyData
 |.tuple (x::_)=>some x
 |_=>none
theorem dT_name (t:Tr):dN (dT t)=some (.str (tx (nm t))):=by cases t<;>rfl
theorem hiD_inj {h h':Option Nat}(e:hiD h=hiD h'):h=h':=by
 cases h with
 |none=>cases h' with
  |none=>rfl
  |some n=>cases e
 |some n=>cases h' with
  |none=>cases e
  |some n'=>have:=PyData.int.inj e;congr 1;lia
theorem arg1 {x y:PyData}{l l':List PyData}(h:PyData.tuple (x::l)=PyData.tuple (y::l')):l=l':=(List.cons.inj (PyData.tuple.inj h)).2
theorem dT_inj:∀ {t t':Tr},dT t=dT t'→t=t':=by
 intro t
 have hn:∀ {t t':Tr},dT t=dT t'→nm t=nm t':=fun h=>tx_inj (PyData.str.inj (Option.some.inj ((dT_name _).symm.trans ((congrArg dN h).trans (dT_name _)))))
 induction t with
 |emp=>intro t' h;have:=hn h;cases t'<;>first | rfl | exact bad this rfl
 |nev=>intro t' h;have:=hn h;cases t'<;>first | rfl | exact bad this rfl
 |chs s =>
  intro t' h;have:=hn h
  cases t' with
  |chs s'=>rw [dS_inj (List.cons.inj (arg1 h)).1]
  |_=>exact bad this rfl
 |cat a b iha ihb =>
  intro t' h;have:=hn h
  cases t' with
  |cat a' b'=>have h:=List.cons.inj (arg1 h);rw [iha h.1,ihb (List.cons.inj h.2).1]
  |_=>exact bad this rfl
 |alt a b iha ihb =>
  intro t' h;have:=hn h
  cases t' with
  |alt a' b'=>have h:=List.cons.inj (arg1 h);rw [iha h.1,ihb (List.cons.inj h.2).1]
  |_=>exact bad this rfl
 |star a ih =>
  intro t' h;have:=hn h
  cases t' with
  |star a'=>rw [ih (List.cons.inj (arg1 h)).1]
  |_=>exact bad this rfl
 |plus a ih =>
  intro t' h;have:=hn h
  cases t' with
  |plus a'=>rw [ih (List.cons.inj (arg1 h)).1]
  |_=>exact bad this rfl
 |opt a ih =>
  intro t' h;have:=hn h
  cases t' with
  |opt a'=>rw [ih (List.cons.inj (arg1 h)).1]
  |_=>exact bad this rfl
 |rep a lo hi ih =>
  intro t' h;have:=hn h
  cases t' with
  |rep a' lo' hi' =>
   have h:=List.cons.inj (arg1 h)
   have h2:=List.cons.inj h.2
   have e:=PyData.int.inj h2.1
   rw [ih h.1,hiD_inj (List.cons.inj h2.2).1,show lo=lo' by lia]
  |_=>exact bad this rfl
theorem tr_dec {t t':Tr}{p:Prop}[Decidable p](hp:p↔t=t'):(dT t).eqv (dT t')=decide p:=eqv_dec dT_nb dT_nb dT_lay (hp.trans ⟨congrArg dT,dT_inj⟩)
theorem dT_shaped {t:Tr}(h:ht t≤60):SeqAt.shaped (dT t)=true:=by
 have:=dT_depth (t:=t)
 unfold SeqAt.shaped
 rw [dT_lay,decide_eq_true (by lia)];rfl
end Hd
end
section
open PySem PySem.W PySem.Calls PyProof.Rows NN
namespace Hd
variable {w:World}{d:Nat}{σ:NN.St}{Q:V→NN.St→Prop}{v:V}
noncomputable def leT:Tr:=.chs [(10,10)]
noncomputable def isLe:Tr→Bool
 |.chs s=>decide (s=[(10,10)])
 |_=>false
theorem isLe_iff {t:Tr}:isLe t=true↔t=leT:=by
 cases t with
 |chs s=>exact ⟨fun h=>by rw [of_decide_eq_true h];rfl,fun h=>by cases h;rfl⟩
 |_=>exact ⟨fun h=>(by cases h),fun h=>(by cases h)⟩
theorem k_lineEnd (hq:Q (nv leT) σ):CALL w (fr w.params) (d+5) (.ref 767) [] σ Q:=by
 refine O_line_end ?_
 refine ⟨k_of (c:=10) (by decide) ?_⟩
 exact ⟨k_Chars (back' hq)⟩
noncomputable def otN:Option Tr→V
 |none=>.none
 |some t=>nv t
noncomputable def otT:Option Tr→V
 |none=>.none
 |some t=>tv t
noncomputable abbrev pv (b:Tr)(s:Bool)(t:Option Tr):V:=.inst 756 (nslF 756) [nv b,.bool s,otN t]
theorem ok_nv {t:Tr}:okV (nv t)=true:=by cases t<;>rfl
theorem k_Pattern {a b c:V}(hq:Q (.inst 756 (nslF 756) [a,b,c]) σ):CALL w (fr w.params) (d+2) (.ref 756) [a,b,c] σ Q:=by
 refine call_class (ns:=nslF 756) (K_Pattern _) (I_Pattern _) (J_Pattern _) (nd_ w _) fun x=>O_Pattern___init__ ?_
 refine sO (.head _) .head ?_
 refine sO (.head _) .head ?_
 exact sO (.head _) .head (back' ⟨rfl,_,_,.ins,hq⟩)
theorem notNone {t:Tr}:notRaw (nv t)=true∧(nv t).isNone=false:=by cases t<;>exact ⟨rfl,rfl⟩
theorem isR {t:Tr}{P:Prop}(h:P):bif notRaw (nv t) then P else False:=by rw [notNone.1];exact h
theorem nN {t:Tr}:(!(nv t).isNone)=true:=by rw [notNone.2];rfl
theorem k_isLineEnd {b t:Tr}{s:Bool}(hd:ht t≤d)(hz:sz t≤50)(h6:ht t≤60)(hq:Q (.bool (isLe t)) σ):CALL w (fr w.params) (d+6) (.ref 746) [pv b s (some t)] σ Q:=by
 refine O_Pattern_is_line_end ?_
 refine gI ?_ (v:=nv t) (ho:=ok_nv)
 refine isR ?_
 refine bt _ nN ?_
 refine gI ?_ (v:=nv t) (ho:=ok_nv)
 refine mTold (d:=d+5) (k_told_ (d:=d+2) (sz t) (Nat.le_refl _) (by lia) (by exact zz6) ?_)
 refine ⟨k_lineEnd (d:=d) ?_⟩
 refine mTold (t:=leT) (k_told_ (t:=leT) (d:=d+2) 1 (Nat.le_refl _) (Nat.zero_le _) (by decide) ?_)
 have key:datV σ (tv t) (tv leT) fun q=>NN.Back Q (.bool q) σ:=⟨_,_,⟨.pure dT_dat,.pure dT_dat,dT_shaped h6,dT_shaped (Nat.zero_le _)⟩,by rw [tr_dec isLe_iff,Bool.decide_eq_true];exact back' hq⟩
 cases t<;>exact key
theorem k_patTold {b:Tr}{s:Bool}{t:Option Tr}(hb:ht b≤d∧sz b≤100)(ht_:∀ x,t=some x→ht x≤d∧sz x≤100)(hq:Q (.tup [.bool s,tv b,otT t]) σ):CALL w (fr w.params) (d+4) (.ref 753) [pv b s t] σ Q:=by
 refine O_Pattern_told ?_
 cases t with
 |none =>
  refine gI ?_
  refine bf _ rfl ?_
  refine gI ?_
  refine gI ?_ (v:=nv b) (ho:=ok_nv)
  refine mTold (k_told_ (sz b) (Nat.le_refl _) hb.1 hb.2 ?_)
  exact back' hq
 |some x =>
  refine xAoo (ht_ x rfl) fun h1 h2=>?_
  refine gI ?_ (v:=nv x) (ho:=ok_nv)
  refine isR ?_
  refine bt _ nN ?_
  refine gI ?_ (v:=nv x) (ho:=ok_nv)
  refine mTold (k_told_ (sz x) (Nat.le_refl _) h1 h2 ?_)
  refine gI ?_
  refine gI ?_ (v:=nv b) (ho:=ok_nv)
  refine mTold (k_told_ (sz b) (Nat.le_refl _) hb.1 hb.2 ?_)
  exact back' hq
noncomputable def shp0 (b:Tr)(s:Bool):List Nat:=(if s=true then [94] else [])++tL b
noncomputable def shp (b:Tr)(s:Bool):Option Tr→List Nat
 |none=>shp0 b s
 |some t=>if isLe t=true then shp0 b s++[36] else shp0 b s++[47]++tL t
theorem k_showPattern {b:Tr}{s:Bool}{t:Option Tr}(hb:ht b≤d∧OkT b∧sz b≤100)(ht_:∀ x,t=some x→ht x≤d∧OkT x∧sz x≤50∧ht x≤60)(hq:Q (.str (tx (shp b s t))) σ):CALL w (fr w.params) (d+9) (.ref 961) [pv b s t] σ Q:=by
 refine O_show_pattern ?_
 have hl:=tx_len3 hb.2.1
 have hl0:(shp0 b s).length≤60001:=by unfold shp0;rw [List.length_append];split<;>simp<;>lia
 refine gI ?_ (v:=nv b) (ho:=ok_nv)
 refine ⟨k_showAt (sz b) (lev:=0) (Nat.le_refl _) hb.1 hb.2.1 hb.2.2 ?_⟩
 refine gI ?_
 cases s with
 |true =>
  refine bt _ rfl ?_
  refine ⟨ll (a:=[94]) (b:=tL b) (by simp only [List.length_singleton];lia),?_⟩
  cases t with
  |none =>
   refine gI ?_
   refine bt _ rfl ?_
   exact back' hq
  |some x =>
   refine xAoAoAoo (ht_ x rfl) fun h1 h2 h3 h4=>?_
   have hx:=tx_len3 h2
   refine gI ?_ (v:=nv x) (ho:=ok_nv)
   refine isR ?_
   refine bf _ notNone.2 ?_
   refine ⟨⟨rfl⟩,?_⟩
   refine ⟨k_isLineEnd (d:=d+2) (by lia) h3 h4 ?_⟩
   refine ⟨fun e=>?_,fun e=>?_⟩
   ·unfold shp at hq;dsimp only at hq
    rw [if_pos e] at hq
    exact ⟨ll (a:=shp0 b true) (b:=[36]) (by simp only [List.length_singleton];exact zz8),back' hq⟩
   ·unfold shp at hq;dsimp only at hq
    rw [if_neg (by rw [e];decide)] at hq
    refine ⟨ll (a:=shp0 b true) (b:=[47]) (by simp only [List.length_singleton];lia),?_⟩
    refine gI ?_ (v:=nv x) (ho:=ok_nv)
    refine ⟨k_showAt (sz x) (lev:=0) (Nat.le_refl _) h1 h2 (by lia) ?_⟩
    exact ⟨ll (a:=shp0 b true++[47]) (b:=tL x) (by simp only [List.length_append,List.length_singleton];lia),back' hq⟩
 |false =>
  refine bf _ rfl ?_
  cases t with
  |none =>
   refine gI ?_
   refine bt _ rfl ?_
   exact back' hq
  |some x =>
   refine xAoAoAoo (ht_ x rfl) fun h1 h2 h3 h4=>?_
   have hx:=tx_len3 h2
   refine gI ?_ (v:=nv x) (ho:=ok_nv)
   refine isR ?_
   refine bf _ notNone.2 ?_
   refine ⟨⟨rfl⟩,?_⟩
   refine ⟨k_isLineEnd (d:=d+2) (by lia) h3 h4 ?_⟩
   refine ⟨fun e=>?_,fun e=>?_⟩
   ·unfold shp at hq;dsimp only at hq
    rw [if_pos e] at hq
    exact ⟨ll (a:=shp0 b false) (b:=[36]) (by simp only [List.length_singleton];exact zz8),back' hq⟩
   ·unfold shp at hq;dsimp only at hq
    rw [if_neg (by rw [e];decide)] at hq
    refine ⟨ll (a:=shp0 b false) (b:=[47]) (by simp only [List.length_singleton];lia),?_⟩
    refine gI ?_ (v:=nv x) (ho:=ok_nv)
    refine ⟨k_showAt (sz x) (lev:=0) (Nat.le_refl _) h1 h2 (by lia) ?_⟩
    exact ⟨ll (a:=shp0 b false++[47]) (b:=tL x) (by simp only [List.length_append,List.length_singleton];lia),back' hq⟩
end Hd
end
section
open PySem PySem.W PySem.Calls PyProof.Rows NN
namespace Hd
variable {w:World}{d:Nat}{σ:NN.St}{Q:V→NN.St→Prop}{v:V}{a:Addr}{t:List Nat}{G:Int→NN.St}
noncomputable def hexs:List Nat:=[48,49,50,51,52,53,54,55,56,57,97,98,99,100,101,102,65,66,67,68,69,70]
theorem hx_in:∀ n,n<16→hx n∈hexs:=by unfold hx hexs;decide
theorem hx_v:∀ n,n<16→hexv (hx n)=some n:=by unfold hx;decide
theorem sg_some {k c:Nat}(h:t[k]?=some c):sg t k=tx [c]:=by unfold sg;rw [h]
theorem c_coded (H:CS a t G){k x y:Nat}(hx1:x<16)(hy1:y<16)(hc:16*x+y<128)(h1:t[k]?=some (hx x))(h2:t[k+1]?=some (hx y))(hq:Q (.str (tx [16*x+y])) (G (k+2:Nat))) :
  CALL w (fr w.params) (d+3) (.ref 205) [.own a,.str (tx hexs),.int 2,.int 16] (G k) Q:=by
 refine O_Cursor_coded ?_
 refine whlL (fun n m σ=>∃ i,i≤2∧n=2 - i∧m=[some (.own a),some (.str (tx hexs)),some (.int 2),some (.int 16),some (.int (if i=0 then 0 else if i=1 then x else 16*x+y:Nat)),some (.int i),none,none]∧σ=G (k+i:Nat)) _ ⟨0,by exact Nat.le_add_left _ _,rfl,rfl,rfl⟩ ?_
 rintro I n m σ ⟨i,hi,rfl,rfl,rfl⟩ nx
 refine bq (p:=i<2) _ (by simp;omega) (fun h=>?_) fun h=>?_
 ·refine xEAoo (by
   obtain rfl | rfl:i=0∨i=1:=by lia
   ·exact ⟨x,hx1,h1,by simp⟩
   ·exact ⟨y,hy1,h2,by simp;lia⟩:∃ z,z<16∧t[k+i]?=some (hx z)∧((if i=0 then 0 else if i=1 then x else 16*x+y)*16+z=if i+1=0 then 0 else if i+1=1 then x else 16*x+y)) fun z hz ht=>?_
  refine xAoo ht fun ht he=>?_
  refine mO (H.c _) ⟨c_peek H ?_⟩
  rw [sg_some ht]
  refine bt _ (by rw [neT (a:=[hx z])];simp) ?_
  refine mO (H.c _) ⟨c_peek H ?_⟩
  rw [sg_some ht]
  refine bt _ (by rw [inT (c:=hx z)];exact decide_eq_true (hx_in z hz)) ?_
  refine ⟨⟨?_⟩,?_⟩
  ·exact IntMulOk.of_right (by decide)
  refine mO (H.c _) ⟨c_take H ht ?_⟩
  refine ⟨hx z,z,⟨rfl,rfl,hx_v z hz⟩,?_⟩
  refine nx (n':=2 - (i+1)) (by lia) ⟨i+1,by assumption,rfl,?_,rfl⟩
  rw [←he]
  simp
 ·obtain rfl:i=2:=by lia
  refine bf _ rfl ?_
  refine ⟨⟨by simp;lia,by simp;lia⟩,?_⟩
  exact back' hq
end Hd
end
section
open PySem PySem.W PySem.Calls PyProof.Rows NN
namespace Hd
variable {w:World}{d:Nat}{σ:NN.St}{Q:V→NN.St→Prop}{v:V}{a:Addr}{t:List Nat}{G:Int→NN.St}
noncomputable def plK:List PySem.Str:=[S "n",S "t",S "r",S "f",S "v",S "a",S "b"]
noncomputable def plV:List V:=[.int 10,.int 9,.int 13,.int 12,.int 11,.int 7,.int 8]
theorem plK_eq:plK=[tx [110],tx [116],tx [114],tx [102],tx [118],tx [97],tx [98]]:=by kernel_rfl
theorem lk_no {c n:Nat}(h:c≠n):(tx [c] == tx [n])=false:=by rw [tx_beq];exact decide_eq_false fun e=>h (List.cons.inj e).1
theorem pl_none {c:Nat}(h:c∉[110,116,114,102,118,97,98]):(plK.zip plV).lookup (tx [c])=none:=by
 simp only [List.mem_cons,List.not_mem_nil,or_false,not_or] at h
 refine xAoAoAoAoAoAoo h fun h1 h2 h3 h4 h5 h6 h7=>?_
 rw [plK_eq]
 unfold plV
 simp only [List.zip_cons_cons,List.lookup_cons,lk_no h1,lk_no h2,lk_no h3,lk_no h4,lk_no h5,lk_no h6,lk_no h7]
 rfl
theorem pl_n:(plK.zip plV).lookup (tx [110])=some (.int 10):=by kernel_rfl
theorem pl_t:(plK.zip plV).lookup (tx [116])=some (.int 9):=by kernel_rfl
inductive Esc:List Nat→Nat→Prop
 |n:Esc [110] 10
 |t:Esc [116] 9
 |x {a b:Nat}:a<16→b<16→16*a+b<128→Esc [120,hx a,hx b] (16*a+b)
 |c {c:Nat}:c<128→c∉[110,116,114,102,118,97,98]→c∉[48,49,50,51,52,53,54,55]→c≠120→c≠10→Esc [c] c
theorem at0 {k c:Nat}{y r:List Nat}(h:t.drop k=c::y++r):t[k]?=some c:=by
 rw [←Nat.add_zero k,←List.getElem?_drop,h];rfl
theorem atN {k n c:Nat}{y:List Nat}(h:t.drop k=y)(hc:y[n]?=some c):t[k+n]?=some c:=by rw [←List.getElem?_drop,h];exact hc
theorem c_escape (H:CS a t G){k c:Nat}{y r:List Nat}(hE:Esc y c)(ht:t.drop k=y++r)(hq:Q (.str (tx [c])) (G (k+y.length:Nat))):CALL w (fr w.params) (d+4) (.ref 212) [.own a] (G k) Q:=by
 have plT:∀ {c:Nat} {v:V},(plK.zip plV).lookup (tx [c])=some v→((plK.zip plV).lookup (tx [c])).isSome=true:=fun h=>by rw [h];rfl
 refine O_Cursor_escape ?_
 refine mO (H.c _) ⟨c_peek H ?_⟩
 cases hE with
 |n =>
  have h0:=at0 ht
  rw [sg_some h0]
  refine bf _ (by rw [eqT (a:=[110])];rfl) ?_
  refine bt _ (plT pl_n) ?_
  refine mO (H.c _) ⟨c_take H h0 ?_⟩
  refine ⟨_,⟨pl_n⟩,⟨by decide,by decide⟩,?_⟩
  exact back' hq
 |t =>
  have h0:=at0 ht
  rw [sg_some h0]
  refine bf _ (by rw [eqT (a:=[116])];rfl) ?_
  refine bt _ (plT pl_t) ?_
  refine mO (H.c _) ⟨c_take H h0 ?_⟩
  refine ⟨_,⟨pl_t⟩,⟨by decide,by decide⟩,?_⟩
  exact back' hq
 |@x x y hx1 hy1 hc =>
  have h0:=at0 ht
  have h1:=atN (n:=1) ht rfl
  have h2:=atN (n:=2) ht rfl
  rw [sg_some h0]
  refine bf _ (by rw [eqT (a:=[120])];rfl) ?_
  refine bf _ (congrArg Option.isSome (pl_none (c:=120) (by decide))) ?_
  refine bf _ (by rw [inT (c:=120)];rfl) ?_
  refine bt _ (by rw [eqT (a:=[120])];rfl) ?_
  refine mO (H.c _) ⟨c_peekj H (j:=1) ?_⟩
  rw [sg_some h1]
  refine bt _ (by rw [neT (a:=[hx x])];simp) ?_
  refine mO (H.c _) ⟨c_peekj H (j:=1) ?_⟩
  rw [sg_some h1]
  refine bt _ (by rw [inT (c:=hx x)];exact decide_eq_true (hx_in x hx1)) ?_
  refine mO (H.c _) ⟨c_take H h0 ?_⟩
  refine mO (H.c _) ⟨c_coded H (k:=k+1) hx1 hy1 hc h1 h2 ?_⟩
  exact back' hq
 |c hc hp ho hx _ =>
  have h0:=at0 ht
  rw [sg_some h0]
  refine bf _ (by rw [eqT (a:=[c])];rfl) ?_
  refine bf _ (congrArg Option.isSome (pl_none hp)) ?_
  refine bf _ (by rw [inT (c:=c)];exact decide_eq_false ho) ?_
  refine bf _ (by rw [eqT (a:=[c])];exact decide_eq_false fun e=>hx (List.cons.inj e).1) ?_
  refine bf _ rfl ?_
  refine mO (H.c _) ⟨c_take H h0 ?_⟩
  exact back' hq
end Hd
end
section
open PySem PySem.W PySem.Calls PyProof.Rows NN
namespace Hd
noncomputable abbrev rdr (a:Addr)(df:V)(ip:Bool)(e:Int):Cell:=.ins 901 (nslF 901) [.own a,df,.bool ip,.int e]
structure RD (a r:Addr)(t:List Nat)(df:V)(ip:Bool)(G:Int→Int→NN.St):Prop where
 c:∀ k e,(a,cur (tx t) k)∈G k e
 u:∀ k k' e,Upc a (cur (tx t) k) (cur (tx t) k') (G k e) (G k' e)
 rc:∀ k e,(r,rdr a df ip e)∈G k e
 ru:∀ k e e',Upc r (rdr a df ip e) (rdr a df ip e') (G k e) (G k e')
 l:t.length≤16000000
 o:okV df=true
variable {w:World}{d:Nat}{Q:V→NN.St→Prop}{v:V}{a r:Addr}{t:List Nat}{df:V}{ip:Bool}{G:Int→Int→NN.St}{e:Int}
theorem RD.cons (H:RD a r t df ip G)(p:Addr×Cell):RD a r t df ip fun k e=>p::G k e :=
 ⟨fun k e=>.tail _ (H.c k e),fun k k' e=>.tail (H.u k k' e),fun k e=>.tail _ (H.rc k e),fun k e e'=>.tail (H.ru k e e'),H.l,H.o⟩
theorem RD.cs (H:RD a r t df ip G):CS a t fun k=>G k e:=⟨fun k=>H.c k e,fun k k'=>H.u k k' e,H.l⟩
theorem nin {c x:Nat}{l:List Nat}(h:c∉l)(hx:x∈l):c≠x:=fun e=>h (e▸hx)
theorem nsub {c:Nat}{l l':List Nat}(h:c∉l)(hs:∀ x∈l',x∈l):c∉l':=fun q=>h (hs c q)
inductive Cd:List Nat→Nat→Prop
 |raw {c:Nat}:c≠92→c≠10→c<128→Cd [c] c
 |esc {y:List Nat} {c:Nat}:Esc y c→Cd (92::y) c
theorem Esc.lt {y:List Nat}{c:Nat}(h:Esc y c):c<128:=by cases h<;>first | decide | assumption
theorem Esc.hd {y:List Nat}{c:Nat}(h:Esc y c):∃ x z,y=x::z∧x≠10:=by cases h<;>first | exact ⟨_,_,rfl,by decide⟩ | exact ⟨_,_,rfl,by assumption⟩
theorem r_codeRaw (H:RD a r t df ip G){k:Int}{c:Nat}{b:V}(h:c≠92)(hc:c<128)(hq:Q (.int c) (G k e)):CALL w (fr w.params) (d+1) (.ref 858) [.own r,.str (tx [c]),b] (G k e) Q:=by
 refine O_RegexReader_code_of ?_
 refine bf _ (by rw [eqT (a:=[c])];exact decide_eq_false fun q=>h (List.cons.inj q).1) ?_
 refine ⟨c,⟨rfl⟩,?_⟩
 refine bf _ (decide_eq_false (by lia)) ?_
 exact back' hq
theorem r_codeEsc (H:RD a r t df ip G){k c:Nat}{y z:List Nat}{b:V}(h:Esc y c)(ht:t.drop k=y++z)(hq:Q (.int c) (G (k+y.length:Nat) e)):CALL w (fr w.params) (d+5) (.ref 858) [.own r,.str (tx [92]),b] (G k e) Q:=by
 refine xEEAoo h.hd fun x y' er1 hx=>?_;subst er1
 have h0:=at0 ht
 refine O_RegexReader_code_of ?_
 refine bt _ (by rw [eqT (a:=[92])];rfl) ?_
 refine gA (H.rc _ _) ?_
 refine mO (H.c _ _) ⟨c_peek (H.cs (e:=e)) ?_⟩
 rw [sg_some h0]
 refine bf _ (by rw [eqT (a:=[x])];exact decide_eq_false fun q=>hx (List.cons.inj q).1) ?_
 refine gA (H.rc _ _) ?_
 refine mO (H.c _ _) ⟨c_escape (H.cs (e:=e)) h ht ?_⟩
 refine bf _ (by rw [eqT (a:=[c])];exact decide_eq_false fun q=>by cases q) ?_
 refine ⟨c,⟨rfl⟩,?_⟩
 refine bf _ (decide_eq_false (by have:=h.lt;lia)) ?_
 exact back' hq
theorem r_member (H:RD a r t df ip G){k c:Nat}{y z:List Nat}(h:Cd y c)(ht:t.drop k=y++z)(hq:Q (.int c) (G (k+y.length:Nat) e)):CALL w (fr w.params) (d+6) (.ref 898) [.own r] (G k e) Q:=by
 refine O_RegexReader_member ?_
 refine gA (H.rc _ _) ?_
 refine gA (H.c _ _) ?_
 refine gA (H.rc _ _) ?_
 cases h with
 |raw h1 h2 h3 =>
  have h0:=at0 ht
  refine mO (H.c _ _) ⟨c_take (H.cs (e:=e)) h0 ?_⟩
  refine bf _ (by rw [eqT (a:=[c])];exact decide_eq_false fun q=>h2 (List.cons.inj q).1) ?_
  refine mO (H.rc _ _) ⟨r_codeRaw H h1 h3 ?_⟩
  exact back' hq
 |@esc y c h =>
  have h0:=at0 ht
  have hd:t.drop (k+1)=y++z:=by rw [←List.drop_drop,ht];rfl
  refine mO (H.c _ _) ⟨c_take (H.cs (e:=e)) h0 ?_⟩
  refine bf _ (by rw [eqT (a:=[92])];rfl) ?_
  refine mO (H.rc _ _) ⟨r_codeEsc H (k:=k+1) h hd ?_⟩
  refine back' ?_
  rw [show k+1+y.length=k+(92::y).length by simp only [List.length_cons];lia]
  exact hq
end Hd
end
section
open PySem PySem.W PySem.Calls PyProof.Rows NN
namespace Hd
variable {w:World}{d:Nat}{Q:V→NN.St→Prop}{v:V}{a r:Addr}{t:List Nat}{df:V}{ip:Bool}{G:Int→Int→NN.St}{e:Int}
theorem c_skip {G:Int→NN.St}(H:CS a t G){k:Nat}{ws:List Nat}{b:Bool}(hb:decide ((t.drop k).take ws.length=ws)=b)(hq:Q (.bool b) (G (k+(if b=true then ws.length else 0):Nat)))(hw:ws.length≤1000:=by decide):CALL w (fr w.params) (d+2) (.ref 148) [.own a,.str (tx ws)] (G k) Q:=by
 cases b with
 |true=>exact c_skipY H (of_decide_eq_true hb) hq hw
 |false=>exact c_skipN H (of_decide_eq_false hb) hq hw
noncomputable def HO (y:List Nat):Prop:=∃ c z,y=c::z∧c≠93∧c≠91∧c≠45∧c≠94
inductive CI:List Nat→Nat×Nat→Prop
 |one {y:List Nat} {x:Nat}:Cd y x→HO y→CI y (x,x)
 |two {y z:List Nat} {x x':Nat}:Cd y x→HO y→Cd z x'→HO z→x≤x'→CI (y++45::z) (x,x')
theorem CI.ho {y:List Nat}{p:Nat×Nat}(h:CI y p):HO y:=by
 cases h with
 |one _ h=>exact h
 |two _ h _ _ _=>obtain ⟨c,z,rfl,h⟩:=h;exact ⟨c,_,rfl,h⟩
theorem st_head {k c:Nat}{y ws:List Nat}{b:Nat}(h:t.drop k=c::y)(hc:c≠b):decide ((t.drop k).take (b::ws).length=b::ws)=false:=decide_eq_false fun e=>by rw [h,List.length_cons,List.take_succ_cons] at e;exact hc (List.cons.inj e).1
theorem r_span (H:RD a r t df ip G){k:Nat}{y z:List Nat}{p:Nat×Nat}(h:CI y p)(ht:t.drop k=y++z)(hz:∃ c z',z=c::z'∧c≠45)(hq:Q (tn p) (G (k+y.length:Nat) e)):CALL w (fr w.params) (d+7) (.ref 891) [.own r] (G k e) Q:=by
 refine O_RegexReader_span ?_
 refine gA (H.rc _ _) ?_
 refine gA (H.c _ _) ?_
 cases h with
 |@one y x h1 h2 =>
  refine mO (H.rc _ _) ⟨r_member H h1 ht ?_⟩
  refine xEEAoo hz fun c z' er1 hc=>?_;subst er1
  have h0:t[k+y.length]?=some c:=atN (n:=y.length) ht (by simp)
  refine gA (H.rc _ _) ?_
  refine mO (H.c _ _) ⟨c_peek (H.cs (e:=e)) ?_⟩
  rw [sg_some h0]
  refine bt _ (by rw [neT (a:=[c])];exact decide_eq_true fun q=>hc (List.cons.inj q).1) ?_
  refine bt _ rfl ?_
  exact back' hq
 |@two y y' x x' h1 h2 h3 h4 h5 =>
  refine mO (H.rc _ _) ⟨r_member H h1 (by rw [ht,List.append_assoc]) ?_⟩
  refine xEEAoAoAoAoo h4 fun c y2 er1 g1 g2 g3 g4=>?_;subst er1
  have hd:t.drop (k+y.length)=45::(c::y2++z):=by rw [←List.drop_drop,ht];simp
  have hd1:t.drop (k+y.length+1)=c::y2++z:=by rw [←List.drop_drop,hd];rfl
  have h0:=at0 (y:=c::y2) hd
  have h1':=at0 hd1
  refine gA (H.rc _ _) ?_
  refine mO (H.c _ _) ⟨c_peek (H.cs (e:=e)) ?_⟩
  rw [sg_some h0]
  refine bf _ (by rw [neT (a:=[45])];rfl) ?_
  refine gA (H.rc _ _) ?_
  refine mO (H.c _ _) ⟨c_peekj (H.cs (e:=e)) (j:=1) ?_⟩
  rw [sg_some h1']
  refine bf _ (by rw [eqT (a:=[c])];exact decide_eq_false fun q=>g1 (List.cons.inj q).1) ?_
  refine gA (H.rc _ _) ?_
  refine mO (H.c _ _) ⟨c_peekj (H.cs (e:=e)) (j:=1) ?_⟩
  rw [sg_some h1']
  refine bf _ (by rw [eqT (a:=[c])];exact decide_eq_false fun q=>by cases q) ?_
  refine gA (H.rc _ _) ?_
  refine mO (H.c _ _) ⟨c_take (H.cs (e:=e)) h0 ?_⟩
  refine gA (H.rc _ _) ?_
  refine mO (H.c _ _) ⟨c_starts (H.cs (e:=e)) (k:=k+y.length+1) ?_⟩
  refine bf _ (st_head hd1 g2) ?_
  refine mO (H.rc _ _) ⟨r_member H (k:=k+y.length+1) h3 hd1 ?_⟩
  refine bf _ (decide_eq_false (by lia)) ?_
  refine back' ?_
  rw [show k+y.length+1+(c::y2).length=k+(y++45::c::y2).length by simp only [List.length_append,List.length_cons];lia]
  exact hq
noncomputable abbrev fl (its:List (List Nat×(Nat×Nat))):List Nat:=(its.map (·.1)).flatten
theorem r_class (H:RD a r t df ip G){k:Nat}{b:Bool}{bg:V}{its:List (List Nat×(Nat×Nat))}{z:List Nat}{u:Tr}(hne:its≠[])(hi:∀ x∈its,CI x.1 x.2)
  (ht:t.drop k=(if b=true then [94] else [])++(fl its++93::z)) (h:∀ x∈its,x.2.1≤x.2.2∧x.2.2≤127) (asc:(its.map (·.2)).Pairwise fun p q=>p.1<q.1) (hl:its.length<64)
  (hu:if b=true then mrg (its.map (·.2))=[(0,127)]∧u=.nev else mrg (its.map (·.2))≠[]∧u=.chs (mrg (its.map (·.2)))) (hq:Q (nv u) (G (k+(if b=true then 1 else 0)+(fl its).length+1:Nat) e)) :
  CALL w (fr w.params) (d+8) (.ref 877) [.own r,bg] (G k e) Q:=by
 revert hq
 refine gen (k+(if b=true then 1 else 0)) fun k0 hk0 hq=>?_
 have ht0:t.drop k0=fl its++93::z:=by
  rw [←hk0,←List.drop_drop,ht]
  cases b<;>rfl
 have hb:decide ((t.drop k).take 1=[94])=b:=by
  rw [ht]
  cases b with
  |true=>rfl
  |false =>
   refine xEEo (List.exists_cons_of_ne_nil hne) fun x its' er1=>?_;subst er1
   refine xEEAoAoAoAoo ((hi x (.head _)).ho) fun c y hy h1 h2 h3 h4=>?_
   refine decide_eq_false fun q=>?_
   simp only [fl,List.map_cons,List.flatten_cons,hy,Bool.false_eq_true,if_false,List.nil_append,List.cons_append,List.take_succ_cons] at q
   exact h4 (List.cons.inj q).1
 refine O_RegexReader_sign_class ?_
 refine gA (H.rc _ _) ?_
 refine mO (H.c _ _) ⟨c_skip (H.cs (e:=e)) (ws:=[94]) (b:=b) hb ?_⟩
 rw [show k+(if b=true then [94].length else 0)=k0 from hk0]
 intro pl
 refine ⟨_,_,⟨.rfl⟩,?_⟩
 refine ⟨fun n m σ=>∃ dn td,dn++td=its∧n=td.length∧m=[some (.own r),some bg,some (.bool b),some (.own pl),some (.bool dn.isEmpty),none,none,none,none]∧σ=(pl,.lst ((dn.map (·.2)).map tn))::G (k0+(fl dn).length:Nat) e,_,⟨⟨[],its,rfl,rfl,rfl,rfl⟩⟩,?_⟩
 rintro n m σ ⟨dn,td,he,rfl,rfl,rfl⟩
 have H1:=H.cons (pl,.lst ((dn.map (·.2)).map tn))
 have hdr:t.drop (k0+(fl dn).length)=fl td++93::z:=by
  rw [←List.drop_drop,ht0,←he]
  simp only [fl,List.map_append,List.flatten_append,List.append_assoc]
  rw [List.drop_left' rfl]
 have hdl:dn.length<64:=by have:=congrArg List.length he;rw [List.length_append] at this;lia
 cases td with
 |cons x td =>
  have hx:=hi x (by rw [←he];simp)
  refine xEEAoAoAoAoo hx.ho fun c y hy g1 g2 g3 g4=>?_
  have hdx:t.drop (k0+(fl dn).length)=x.1++(fl td++93::z):=by rw [hdr];simp [fl]
  have hdc:t.drop (k0+(fl dn).length)=c::(y++(fl td++93::z)):=by rw [hdx,hy];rfl
  have h0:=at0 (y:=y) hdc
  have hlt:k0+(fl dn).length<t.length:=(List.getElem?_eq_some_iff.mp h0).1
  have hz:∃ c z',fl td++93::z=c::z'∧c≠45:=by
   cases td with
   |nil=>exact ⟨93,z,rfl,by decide⟩
   |cons x' td' =>
    refine xEEAoAoAoAoo ((hi x' (by rw [←he];simp)).ho) fun c y hy q1 q2 q3 q4=>?_
    exact ⟨c,y++(fl td'++93::z),by simp [fl,hy],q3⟩
  have hn2:k0+(fl dn).length+x.1.length=k0+(fl (dn++[x])).length:=by simp [fl];lia
  refine ⟨fun h1=>?_,fun h1=>?_⟩
  rotate_left
  ·refine gA (.tail _ (H.rc _ _)) ?_
   refine mO (.tail _ (H.c _ _)) ⟨c_peek (H1.cs (e:=e)) ?_⟩
   rw [sg_some h0]
   refine bt _ (by rw [neT (a:=[c])];exact decide_eq_true fun q=>g1 (List.cons.inj q).1) ?_
   refine gA (.tail _ (H.rc _ _)) ?_
   refine mO (.tail _ (H.c _ _)) ⟨c_done (H1.cs (e:=e)) ?_⟩
   refine bf _ (decide_eq_false (by lia)) ?_
   refine gA (.tail _ (H.rc _ _)) ?_
   refine mO (.tail _ (H.c _ _)) ⟨c_starts (H1.cs (e:=e)) ?_⟩
   refine bf _ (st_head hdc g2) ?_
   refine mApp (.head _) ?_
   refine mO (.tail _ (H.rc _ _)) ⟨r_span H1 hx hdx hz ?_⟩
   refine ⟨_,_,⟨.head⟩,⟨by simp only [List.length_map];exact zz9⟩,?_⟩
   refine ⟨td.length,by simp,dn++[x],td,by rw [←he];simp,rfl,by cases dn<;>rfl,?_⟩
   rw [hn2];simp
  ·refine bt _ rfl ?_
   refine gA (.tail _ (H.rc _ _)) ?_
   refine mO (.tail _ (H.c _ _)) ⟨c_done (H1.cs (e:=e)) ?_⟩
   refine bf _ (decide_eq_false (by lia)) ?_
   refine gA (.tail _ (H.rc _ _)) ?_
   refine mO (.tail _ (H.c _ _)) ⟨c_starts (H1.cs (e:=e)) ?_⟩
   refine bf _ (st_head hdc g2) ?_
   refine mApp (.head _) ?_
   refine mO (.tail _ (H.rc _ _)) ⟨r_span H1 hx hdx hz ?_⟩
   refine ⟨_,_,⟨.head⟩,⟨by simp only [List.length_map];lia⟩,?_⟩
   refine ⟨td.length,by simp,dn++[x],td,by rw [←he];simp,rfl,by cases dn<;>rfl,?_⟩
   rw [hn2];simp
 |nil =>
  rw [List.append_nil] at he
  subst he
  have hd0:t.drop (k0+(fl dn).length)=93::([]++z):=hdr
  have h0:=at0 hd0
  refine bf _ (by cases dn with | nil=>exact absurd rfl hne | cons _ _=>rfl) ?_
  refine gA (.tail _ (H.rc _ _)) ?_
  refine mO (.tail _ (H.c _ _)) ⟨c_peek (H1.cs (e:=e)) ?_⟩
  rw [sg_some h0]
  refine bf _ (by rw [neT (a:=[93])];rfl) ?_
  refine gA (.tail _ (H.rc _ _)) ?_
  refine mO (.tail _ (H.c _ _)) ⟨c_take (H1.cs (e:=e)) h0 ?_⟩
  refine ⟨CALL.wk .lst (k_made (s:=dn.map Prod.snd) rfl ?_ asc (by rw [List.length_map];exact hl) ?_)⟩
  ·intro p hp
   refine xEAoo (List.mem_map.mp hp) fun x hx er1=>?_;subst er1
   exact h x hx
  cases b with
  |true =>
   refine xAoo hu fun h1 er1=>?_;subst er1
   rw [h1]
   refine bt _ rfl ?_
   refine ⟨⟨rfl⟩,?_⟩
   refine ⟨k_compl ?_⟩
   exact ⟨k_charsNode0 (back' hq)⟩
  |false =>
   refine xAoo hu fun h1 er1=>?_;subst er1
   refine bf _ rfl ?_
   exact ⟨k_charsNode (by have:=mrg_len (dn.map Prod.snd);rw [List.length_map] at this;lia) h1 (back' hq)⟩
end Hd
end
section
open PySem PySem.W PySem.Calls PyProof.Rows NN
namespace Hd
variable {w:World}{d:Nat}{Q:V→NN.St→Prop}{v:V}{a r:Addr}{t:List Nat}{df:V}{ip:Bool}{G:Int→Int→NN.St}{e:Int}
noncomputable def figs:List Nat:=[48,49,50,51,52,53,54,55,56,57]
theorem occ_fig:∀ i,i<10→Builtin.Str.occurrences (tx figs) (tx [48+i]) 0 (tx figs).length 1=[i]:=by unfold figs;decide +kernel
theorem fig_mem {c:Nat}:c∈figs↔48≤c∧c≤57:=⟨(show ∀ x∈figs,48≤x∧x≤57 by decide) c,fun h=>(show ∀ x,x<58→48≤x→x∈figs by decide) c (Nat.lt_succ_of_le h.2) h.1⟩
noncomputable def val (l:List Nat):Nat:=l.foldl (fun a c=>10*a+(c - 48)) 0
theorem dec_pre {n:Nat}(h:n≤40){dn td:List Nat}{c:Nat}(e:dn++c::td=dec n):48≤c∧c≤57∧val (dn++[c])≤40:=by
 unfold dec at e
 split at e
 ·cases dn with
  |nil=>have:=(List.cons.inj e).1;simp [val];lia
  |cons x dn=>have:=congrArg List.length e;simp at this
 ·cases dn with
  |nil=>have:=(List.cons.inj e).1;simp [val];lia
  |cons x dn =>
   have e1:=List.cons.inj e
   cases dn with
   |nil=>have:=(List.cons.inj e1.2).1;simp [val];lia
   |cons y dn=>have:=congrArg List.length e;simp at this
theorem dec_val {n:Nat}:val (dec n)=n:=by unfold dec val;split<;>simp<;>lia
theorem dec_fig {n:Nat}(h:n≤40):∀ c∈dec n,c∈figs:=fun c hc=>by
 refine xEEo (List.append_of_mem hc) fun dn td e=>?_
 have:=dec_pre h e.symm
 exact fig_mem.mpr ⟨this.1,this.2.1⟩
theorem dec_hd {n:Nat}(h:n≤40):∃ c y,dec n=c::y∧c∈figs:=by
 have:=dec_fig h
 cases e:dec n with
 |nil=>unfold dec at e;split at e<;>cases e
 |cons c y=>exact ⟨c,y,rfl,this c (by rw [e];exact .head _)⟩
theorem tw_dec {n c:Nat}{z:List Nat}(h:n≤40)(hc:c∉figs):(dec n++c::z).takeWhile (·∈figs)=dec n:=by
 rw [List.takeWhile_append_of_pos (fun x hx=>decide_eq_true (dec_fig h x hx)),List.takeWhile_cons_of_neg (by simpa using hc),List.append_nil]
theorem r_count (H:RD a r t df ip G){k n c:Nat}{z:List Nat}(h:n≤40)(hc:c∉figs)(ht:t.drop k=dec n++c::z)(hq:Q (.int n) (G (k+(dec n).length:Nat) e)):CALL w (fr w.params) (d+2) (.ref 844) [.own r] (G k e) Q:=by
 refine O_RegexReader_count ?_
 refine gA (H.rc _ _) ?_
 refine gA (H.c _ _) ?_
 refine gA (H.rc _ _) ?_
 refine mO (H.c _ _) ⟨c_takeWhile (H.cs (e:=e)) (ss:=figs) ?_⟩
 rw [ht,tw_dec h hc]
 refine forL (f:=fun c=>.str (tx [c])) (l:=dec n) (fun dn m σ'=>∃ x:Option V,m=[some (.own r),some (.int k),some (.int (val dn)),x,none,none,none,none]∧σ'=G (k+(dec n).length:Nat) e) ?_ ?_ ?_ ?_
 ·rfl
 ·exact ⟨none,rfl,rfl⟩
 ·intro I dn c td m σ' e1 hJ nx
  refine fo fun Gx gx=>?_
  obtain ⟨x,rfl,rfl⟩:=hJ
  refine gx ?_
  refine xAoAoo (dec_pre h e1) fun h1 h2 h3=>?_
  have hv:val (dn++[c])=10*val dn+(c - 48):=by unfold val;rw [List.foldl_append];rfl
  refine ⟨⟨IntMulOk.of_left (by decide)⟩,?_⟩
  refine ⟨c - 48,[],⟨?_⟩,?_⟩
  ·have:=occ_fig (c - 48) (by omega)
   rw [show 48+(c - 48)=c by omega] at this
   exact this
  refine ⟨(val (dn++[c]):Nat),⟨?_⟩,?_⟩
  ·show ((val (dn++[c]):Nat):Int)=if (40+1:Int)<10*(val dn:Int)+((c - 48:Nat):Int) then (40+1:Int) else 10*(val dn:Int)+((c - 48:Nat):Int)
   rw [if_neg (by lia)];lia
  refine nx ?_
  exact ⟨_,rfl,rfl⟩
 ·rintro m σ' ⟨x,rfl,rfl⟩
  rw [dec_val]
  refine bf _ (decide_eq_false (by lia)) ?_
  exact back' hq
theorem k_isFigure {l:List Nat}{b:Bool}{σ:NN.St}(hb:b=true↔∃ c,l=[c]∧c∈figs)(hl:l.length≤1)(hq:Q (.bool b) σ):CALL w (fr w.params) (d+1) (.ref 774) [.str (tx l)] σ Q:=by
 refine O_is_figure ?_
 cases l with
 |nil =>
  refine bf _ (by rw [neT (a:=[])];rfl) (back hq ?_)
  cases b with
  |false=>rfl
  |true=>refine xEAoo (hb.mp rfl) fun c h _=>?_;cases h
 |cons c l =>
  obtain rfl:l=[]:=List.eq_nil_of_length_eq_zero (by simp at hl;exact List.length_eq_zero_iff.mpr hl)
  refine bt _ (by rw [neT (a:=[c])];simp) (back hq ?_)
  show V.bool (inS (tx [c]) (tx figs))=_
  rw [inS_tx]
  congr 1
  rw [Bool.eq_iff_iff,hb,decide_eq_true_iff]
  exact ⟨fun h=>⟨c,rfl,h⟩,fun ⟨c',h,h'⟩=>by rw [(List.cons.inj h).1];exact h'⟩
end Hd
end
section
open PySem PySem.W PySem.Calls PyProof.Rows NN
namespace Hd
variable {w:World}{d:Nat}{Q:V→NN.St→Prop}{v:V}{a r:Addr}{t:List Nat}{df:V}{ip:Bool}{G:Int→Int→NN.St}{e:Int}
theorem dr {k n:Nat}{x y:List Nat}(h:t.drop k=x++y)(hn:x.length=n):t.drop (k+n)=y:=by rw [←List.drop_drop,h,←hn,List.drop_left' rfl]
theorem sg_hd {k c:Nat}{y:List Nat}(h:t.drop k=c::y):sg t k=tx [c]:=sg_some (at0 (y:=y) (r:=[]) (by rw [h];simp))
theorem take_hd {k c:Nat}{y:List Nat}(h:t.drop k=c::y):t[k]?=some c:=at0 (y:=y) (r:=[]) (by rw [h];simp)
theorem st_y {k c:Nat}{y:List Nat}(h:t.drop k=c::y):decide ((t.drop k).take [c].length=[c])=true:=by rw [h];exact decide_eq_true rfl
noncomputable def lpd (lo:Nat)(hi:Option Nat):Prop:=lo≤40∧∀ n,hi=some n→lo≤n∧n≤40
theorem not_fig {c:Nat}(h:c=44∨c=125):c∉figs:=by rw [fig_mem];lia
theorem r_counted (H:RD a r t df ip G){k lo:Nat}{hi:Option Nat}{z:List Nat}(h:lpd lo hi)(ht:t.drop k=shct lo hi++z)(hq:Q (.inst 695 (nslF 695) [v,.int lo,hiV hi]) (G (k+(shct lo hi).length:Nat) e)) :
  CALL w (fr w.params) (d+4) (.ref 837) [.own r,v] (G k e) Q:=by
 refine xAoo h fun h1 h2=>?_
 refine xEEAoo (dec_hd h1) fun c1 y1 ed hf=>?_
 refine xEo (by
  cases hi with
  |none=>exact ⟨[44,125],by simp [shct],.inr (.inl ⟨rfl,rfl⟩)⟩
  |some n =>
   by_cases hn:n=lo
   ·exact ⟨[125],by simp [shct,hn],.inl ⟨by rw [hn],rfl⟩⟩
   ·exact ⟨44::(dec n++[125]),by simp [shct,hn],.inr (.inr ⟨n,rfl,hn,rfl⟩)⟩:∃ m,shct lo hi=123::(dec lo++m)∧((hi=some lo∧m=[125])∨(hi=none∧m=[44,125])∨∃ n,hi=some n∧n≠lo∧m=44::(dec n++[125]))) fun m hm=>?_
 refine xAoo hm fun hs hm=>?_
 rw [hs] at ht hq
 have d1:t.drop (k+1)=dec lo++(m++z):=by rw [←List.drop_drop,ht];simp
 have d2:t.drop (k+1+(dec lo).length)=m++z:=dr d1 rfl
 have hl:k+(123::(dec lo++m)).length=k+1+(dec lo).length+m.length:=by simp only [List.length_cons,List.length_append];lia
 rw [hl] at hq
 refine O_RegexReader_counted ?_
 refine gA (H.rc _ _) ?_
 refine gA (H.c _ _) ?_
 refine gA (H.rc _ _) ?_
 refine mO (H.c _ _) ⟨c_take (H.cs (e:=e)) (take_hd (y:=dec lo++m++z) ht) ?_⟩
 have hc:∃ c z',m++z=c::z'∧c∉figs:=by
  rcases hm with ⟨_,rfl⟩ | ⟨_,rfl⟩ | ⟨n,_,_,rfl⟩
  ·exact ⟨125,_,rfl,not_fig (.inr rfl)⟩
  ·exact ⟨44,_,rfl,not_fig (.inl rfl)⟩
  ·exact ⟨44,_,rfl,not_fig (.inl rfl)⟩
 refine xEEAoo hc fun c z' hc1 hc2=>?_
 refine mO (H.rc _ _) ⟨r_count H (k:=k+1) h1 hc2 (by rw [d1,hc1]) ?_⟩
 refine gA (H.rc _ _) ?_
 have fin:∀ {k':Nat} {Q':V→NN.St→Prop},t.drop k'=125::z→Q' (.bool true) (G (k'+1:Nat) e)→CALL w (fr w.params) (d+3) (.ref 148) [.own a,.str (tx [125])] (G k' e) Q':=fun h q=>c_skip (H.cs (e:=e)) (ws:=[125]) (b:=true) (st_y h) q
 have nd:∀ {k':Nat} {Q':V→NN.St→Prop},t.drop k'=125::z→Q' (.bool false) (G k' e)→CALL w (fr w.params) (d+3) (.ref 119) [.own a] (G k' e) Q':=fun {k' Q'} h q=>c_done (H.cs (e:=e)) (by
  have:=(List.getElem?_eq_some_iff.mp (take_hd h)).1
  rw [decide_eq_false (by lia)];exact q)
 rcases hm with ⟨rfl,rfl⟩ | ⟨rfl,rfl⟩ | ⟨n,rfl,hn,rfl⟩
 ·refine mO (H.c _ _) ⟨c_skip (H.cs (e:=e)) (ws:=[44]) (b:=false) (st_head d2 (by decide)) ?_⟩
  refine bf _ rfl ?_
  refine gA (H.rc _ _) ?_
  refine mO (H.c _ _) ⟨nd d2 ?_⟩
  refine bf _ rfl ?_
  refine gA (H.rc _ _) ?_
  refine mO (H.c _ _) ⟨fin d2 ?_⟩
  refine bf _ rfl ?_
  refine bt _ rfl ?_
  refine bf _ (decide_eq_false (by simp)) ?_
  exact ⟨k_Repeat (h:=some lo) h1 h2 (back' hq)⟩
 ·refine mO (H.c _ _) ⟨c_skip (H.cs (e:=e)) (ws:=[44]) (b:=true) (st_y d2) ?_⟩
  have d3:t.drop (k+1+(dec lo).length+1)=125::z:=by rw [←List.drop_drop,d2];rfl
  refine bt _ rfl ?_
  refine gA (H.rc _ _) ?_
  refine mO (H.c _ _) ⟨c_peek (H.cs (e:=e)) (k:=k+1+(dec lo).length+1) ?_⟩
  rw [sg_hd d3]
  refine ⟨k_isFigure (l:=[125]) (b:=false) ⟨fun h=>(by cases h),fun ⟨c,h,h'⟩=>by rw [←(List.cons.inj h).1] at h';exact absurd h' (not_fig (.inr rfl))⟩ (by decide) ?_⟩
  refine bf _ rfl ?_
  refine gA (H.rc _ _) ?_
  refine mO (H.c _ _) ⟨nd (k':=k+1+(dec lo).length+1) d3 ?_⟩
  refine bf _ rfl ?_
  refine gA (H.rc _ _) ?_
  refine mO (H.c _ _) ⟨fin (k':=k+1+(dec lo).length+1) d3 ?_⟩
  refine bf _ rfl ?_
  refine bf _ rfl ?_
  refine bf _ rfl ?_
  exact ⟨k_Repeat (h:=none) h1 h2 (back' hq)⟩
 ·refine xAoo (h2 n rfl) fun hn1 hn2=>?_
  refine mO (H.c _ _) ⟨c_skip (H.cs (e:=e)) (ws:=[44]) (b:=true) (st_y d2) ?_⟩
  have d3:t.drop (k+1+(dec lo).length+1)=dec n++125::z:=by rw [←List.drop_drop,d2];simp
  have d4:t.drop (k+1+(dec lo).length+1+(dec n).length)=125::z:=dr d3 rfl
  refine xEEAoo (dec_hd hn2) fun c2 y2 ed2 hf2=>?_
  refine bt _ rfl ?_
  refine gA (H.rc _ _) ?_
  refine mO (H.c _ _) ⟨c_peek (H.cs (e:=e)) (k:=k+1+(dec lo).length+1) ?_⟩
  rw [sg_hd (y:=y2++125::z) (by rw [d3,ed2];rfl)]
  refine ⟨k_isFigure (l:=[c2]) (b:=true) ⟨fun _=>⟨c2,rfl,hf2⟩,fun _=>rfl⟩ (by simp) ?_⟩
  refine bt _ rfl ?_
  refine mO (H.rc _ _) ⟨r_count H (k:=k+1+(dec lo).length+1) hn2 (not_fig (.inr rfl)) d3 ?_⟩
  refine gA (H.rc _ _) ?_
  refine mO (H.c _ _) ⟨nd (k':=k+1+(dec lo).length+1+(dec n).length) d4 ?_⟩
  refine bf _ rfl ?_
  refine gA (H.rc _ _) ?_
  refine mO (H.c _ _) ⟨fin (k':=k+1+(dec lo).length+1+(dec n).length) d4 ?_⟩
  refine bf _ rfl ?_
  refine bt _ rfl ?_
  refine bf _ (decide_eq_false (by lia)) ?_
  rw [show k+1+(dec lo).length+(44::(dec n++[125])).length=k+1+(dec lo).length+1+(dec n).length+1 by simp only [List.length_cons,List.length_append];simp;lia] at hq
  exact ⟨k_Repeat (h:=some n) h1 h2 (back' hq)⟩
end Hd
end
section
open PySem PySem.W PySem.Calls PyProof.Rows NN
namespace Hd
variable {w:World}{d:Nat}{Q:V→NN.St→Prop}{v:V}{a r:Addr}{t:List Nat}{df:V}{ip:Bool}{G:Int→Int→NN.St}{e:Int}
inductive Lp where
 |st | pl | op | rp (lo:Nat) (hi:Option Nat)
noncomputable def lpT:Lp→List Nat
 |.st=>[42]
 |.pl=>[43]
 |.op=>[63]
 |.rp lo hi=>shct lo hi
noncomputable def lpA:Lp→Tr→Tr
 |.st,x=>.star x
 |.pl,x=>.plus x
 |.op,x=>.opt x
 |.rp lo hi,x=>.rep x lo hi
noncomputable def lpO:Lp→Prop
 |.rp lo hi=>lpd lo hi
 |_=>True
noncomputable def lps (l:List Lp):List Nat:=(l.map lpT).flatten
noncomputable def lpF (x:Tr)(l:List Lp):Tr:=l.foldl (fun x s=>lpA s x) x
noncomputable def NL (z:List Nat):Prop:=z=[]∨∃ c y,z=c::y∧c≠42∧c≠43∧c≠63∧(c=123→∃ c' y',y=c'::y'∧c'∉figs)
theorem st_n {k b:Nat}{z:List Nat}(h:t.drop k=z)(hz:z=[]∨∃ c y,z=c::y∧c≠b):decide ((t.drop k).take [b].length=[b])=false:=by
 rcases hz with rfl | ⟨c,y,rfl,hc⟩
 ·rw [h];exact decide_eq_false fun q=>by cases q
 ·exact st_head h hc
theorem sg_nil {k:Nat}(h:t.drop k=[]):sg t k=tx []:=sg_no (List.drop_eq_nil_iff.mp h)
theorem r_looped (H:RD a r t df ip G){k:Nat}{x:Tr}{l:List Lp}{z:List Nat}(hl:l.length≤20)(ho:∀ s∈l,lpO s)(hz:NL z)(ht:t.drop k=lps l++z)(hq:Q (nv (lpF x l)) (G (k+(lps l).length:Nat) e)) :
  CALL w (fr w.params) (d+5) (.ref 830) [.own r,nv x] (G k e) Q:=by
 refine O_RegexReader_looped ?_
 refine forL (l:=List.range 21) (f:=fun i=>.int (0+(i:Nat)*1)) (fun dn m σ'=>∃ (y u:Option V) (pre post:List Lp),pre++post=l∧pre.length=dn.length∧m=[some (.own r),some (nv x),some (nv (lpF x pre)),y,u,none,none,none,none,none,none]∧σ'=G (k+(lps pre).length:Nat) e) ?_ ?_ ?_ ?_
 ·exact ⟨⟨by decide,by decide,by decide,by decide⟩,rfl⟩
 ·exact ⟨none,none,[],l,rfl,rfl,rfl,rfl⟩
 ·intro I dn i td m σ' e1 hJ nx
  refine fo fun Gx gx=>?_
  obtain ⟨y,u,pre,post,hp,hlen,rfl,rfl⟩:=hJ
  refine gx ?_
  have hd:t.drop (k+(lps pre).length)=lps post++z:=by
   refine dr (x:=lps pre) ?_ rfl
   rw [ht,←hp];unfold lps;rw [List.map_append,List.flatten_append,List.append_assoc]
  have nxt:∀ {s:Lp} {post':List Lp},post=s::post'→pre++[s]++post'=l∧k+(lps (pre++[s])).length=k+(lps pre).length+(lpT s).length∧lpF x (pre++[s])=lpA s (lpF x pre):=by
   rintro s post' rfl
   refine ⟨by rw [←hp];simp,?_,by unfold lpF;rw [List.foldl_append];rfl⟩
   unfold lps;rw [List.map_append,List.flatten_append];simp;lia
  refine gA (H.rc _ _) ?_
  refine gA (H.c _ _) ?_
  refine gA (H.rc _ _) ?_
  cases post with
  |nil =>
   have hd':t.drop (k+(lps pre).length)=z:=hd
   rw [List.append_nil] at hp
   subst hp
   have hn:∀ b,(b=42∨b=43∨b=63)→(z=[]∨∃ c y,z=c::y∧c≠b):=fun b hb=>by
    rcases hz with h | ⟨c,y,h,h1,h2,h3,_⟩
    ·exact .inl h
    ·exact .inr ⟨c,y,h,by lia⟩
   refine mO (H.c _ _) ⟨c_skipN (H.cs (e:=e)) (ws:=[42]) (of_decide_eq_false (st_n hd' (hn 42 (.inl rfl)))) ?_⟩
   refine bf _ rfl ?_
   refine gA (H.rc _ _) ?_
   refine mO (H.c _ _) ⟨c_skipN (H.cs (e:=e)) (ws:=[43]) (of_decide_eq_false (st_n hd' (hn 43 (.inr (.inl rfl))))) ?_⟩
   refine bf _ rfl ?_
   refine gA (H.rc _ _) ?_
   refine mO (H.c _ _) ⟨c_skipN (H.cs (e:=e)) (ws:=[63]) (of_decide_eq_false (st_n hd' (hn 63 (.inr (.inr rfl))))) ?_⟩
   refine bf _ rfl ?_
   refine gA (H.rc _ _) ?_
   refine mO (H.c _ _) ⟨c_peek (H.cs (e:=e)) ?_⟩
   rcases hz with rfl | ⟨c,y,rfl,h1,h2,h3,h4⟩
   ·rw [sg_nil hd']
    refine bf _ (by rw [eqT (a:=[])];rfl) ?_
    refine bf _ rfl ?_
    exact back' hq
   ·rw [sg_hd hd']
    refine bq _ (eqT (a:=[c])) (fun h5=>?_) fun h5=>?_
    ·refine xEEAoo (h4 (List.cons.inj h5).1) fun c' y' er1 h6=>?_;subst er1
     have hd2:t.drop (k+(lps pre).length+1)=c'::y':=by rw [←List.drop_drop,hd'];rfl
     refine gA (H.rc _ _) ?_
     refine mO (H.c _ _) ⟨c_peekj (H.cs (e:=e)) (j:=1) ?_⟩
     rw [sg_hd hd2]
     refine ⟨k_isFigure (l:=[c']) (b:=false) ⟨fun h=>(by cases h),fun ⟨c,h,h'⟩=>by rw [←(List.cons.inj h).1] at h';exact absurd h' h6⟩ (by simp) ?_⟩
     refine bf _ rfl ?_
     exact back' hq
    ·refine bf _ rfl ?_
     exact back' hq
  |cons s post =>
   refine xAoAoo (nxt rfl) fun n1 n2 n3=>?_
   have hd1:t.drop (k+(lps pre).length)=lpT s++(lps post++z):=by rw [hd];simp [lps]
   cases s with
   |st =>
    refine mO (H.c _ _) ⟨c_skip (H.cs (e:=e)) (ws:=[42]) (b:=true) (st_y hd1) ?_⟩
    refine bt _ rfl ?_
    refine ⟨k_Star ?_⟩
    refine nx ?_
    exact ⟨_,_,_,post,n1,by simp [hlen],by rw [n3];rfl,by rw [n2];rfl⟩
   |pl =>
    refine mO (H.c _ _) ⟨c_skipN (H.cs (e:=e)) (ws:=[42]) (of_decide_eq_false (st_head hd1 (by decide))) ?_⟩
    refine bf _ rfl ?_
    refine gA (H.rc _ _) ?_
    refine mO (H.c _ _) ⟨c_skip (H.cs (e:=e)) (ws:=[43]) (b:=true) (st_y hd1) ?_⟩
    refine bt _ rfl ?_
    refine ⟨k_Plus ?_⟩
    refine nx ?_
    exact ⟨_,_,_,post,n1,by simp [hlen],by rw [n3];rfl,by rw [n2];rfl⟩
   |op =>
    refine mO (H.c _ _) ⟨c_skipN (H.cs (e:=e)) (ws:=[42]) (of_decide_eq_false (st_head hd1 (by decide))) ?_⟩
    refine bf _ rfl ?_
    refine gA (H.rc _ _) ?_
    refine mO (H.c _ _) ⟨c_skipN (H.cs (e:=e)) (ws:=[43]) (of_decide_eq_false (st_head hd1 (by decide))) ?_⟩
    refine bf _ rfl ?_
    refine gA (H.rc _ _) ?_
    refine mO (H.c _ _) ⟨c_skip (H.cs (e:=e)) (ws:=[63]) (b:=true) (st_y hd1) ?_⟩
    refine bt _ rfl ?_
    refine ⟨k_Opt ?_⟩
    refine nx ?_
    exact ⟨_,_,_,post,n1,by simp [hlen],by rw [n3];rfl,by rw [n2];rfl⟩
   |rp lo hi =>
    have ok:lpd lo hi:=ho (.rp lo hi) (by rw [←n1];simp)
    refine xEEAoo (dec_hd ok.1) fun c1 y1 ed hf=>?_
    refine xEo (by
     cases hi with
     |none=>exact ⟨y1++[44,125],by simp [shct,ed]⟩
     |some n=>unfold shct;dsimp only;rw [ed];split<;>exact ⟨_,by simp;rfl⟩:∃ y2,shct lo hi=123::c1::y2) fun y2 hsh=>?_
    have hd2:t.drop (k+(lps pre).length)=123::(c1::y2++(lps post++z)):=by rw [hd1];show shct lo hi++_=_;rw [hsh];rfl
    have hd3:t.drop (k+(lps pre).length+1)=c1::(y2++(lps post++z)):=by rw [←List.drop_drop,hd2];rfl
    refine mO (H.c _ _) ⟨c_skipN (H.cs (e:=e)) (ws:=[42]) (of_decide_eq_false (st_head hd2 (by decide))) ?_⟩
    refine bf _ rfl ?_
    refine gA (H.rc _ _) ?_
    refine mO (H.c _ _) ⟨c_skipN (H.cs (e:=e)) (ws:=[43]) (of_decide_eq_false (st_head hd2 (by decide))) ?_⟩
    refine bf _ rfl ?_
    refine gA (H.rc _ _) ?_
    refine mO (H.c _ _) ⟨c_skipN (H.cs (e:=e)) (ws:=[63]) (of_decide_eq_false (st_head hd2 (by decide))) ?_⟩
    refine bf _ rfl ?_
    refine gA (H.rc _ _) ?_
    refine mO (H.c _ _) ⟨c_peek (H.cs (e:=e)) ?_⟩
    rw [sg_hd hd2]
    refine bt _ (by rw [eqT (a:=[123])];rfl) ?_
    refine gA (H.rc _ _) ?_
    refine mO (H.c _ _) ⟨c_peekj (H.cs (e:=e)) (j:=1) ?_⟩
    rw [sg_hd hd3]
    refine ⟨k_isFigure (l:=[c1]) (b:=true) ⟨fun _=>⟨c1,rfl,hf⟩,fun _=>rfl⟩ (by simp) ?_⟩
    refine bt _ rfl ?_
    refine mO (H.rc _ _) ⟨r_counted H ok hd1 ?_⟩
    refine nx ?_
    exact ⟨_,_,_,post,n1,by simp [hlen],by rw [n3];rfl,by rw [n2];rfl⟩
 ·intro m σ' hJ
  refine fo fun Gx gx=>?_
  obtain ⟨y,u,pre,post,hp,hlen,rfl,rfl⟩:=hJ
  refine gx ?_
  have:=congrArg List.length hp
  rw [List.length_append,hlen,List.length_range] at this
  lia
end Hd
end
section
open PySem PySem.W PySem.Calls PyProof.Rows NN
namespace Hd
variable {w:World}{d:Nat}{Q:V→NN.St→Prop}{v:V}{a r:Addr}{t:List Nat}{df:V}{ip:Bool}{G:Int→Int→NN.St}{e:Nat}
noncomputable def stopB (ip:Bool)(e:Nat):List Nat→Bool
 |[]=>true
 |c::_=>decide (c=124) || (decide (c=41) || (ip && (decide (c∈[32,9,10]) || (decide (e=0) && (decide (c=47) || decide (c=36))))))
theorem eq1 {c b:Nat}:(tx [c] == tx [b])=decide (c=b):=by
 rw [tx_beq];congr 1;simp
theorem r_isStop (H:RD a r t df ip G){k:Nat}{z:List Nat}(ht:t.drop k=z)(hq:Q (.bool (stopB ip e z)) (G k e)):CALL w (fr w.params) (d+2) (.ref 809) [.own r] (G k e) Q:=by
 refine O_RegexReader_is_stop ?_
 refine gA (H.rc _ _) ?_
 refine mO (H.c _ _) ⟨c_peek (H.cs (e:=e)) ?_⟩
 cases z with
 |nil =>
  rw [sg_nil ht]
  refine bt _ (by rw [eqT (a:=[])];rfl) ?_
  refine bt _ rfl ?_
  exact back' hq
 |cons c z =>
  unfold stopB at hq
  dsimp only at hq
  rw [sg_hd ht]
  refine bf _ (by rw [eqT (a:=[c])];rfl) ?_
  refine bq _ eq1 (fun h1=>?_) fun h1=>?_
  ·rw [decide_eq_true h1] at hq
   refine bt _ rfl ?_
   exact back' hq
  rw [decide_eq_false h1,Bool.false_or] at hq
  refine bq _ eq1 (fun h2=>?_) fun h2=>?_
  ·rw [decide_eq_true h2] at hq
   exact back' hq
  rw [decide_eq_false h2,Bool.false_or] at hq
  refine gA (H.rc _ _) ?_
  cases ip with
  |false=>refine bt _ rfl ?_;exact back' hq
  |true =>
   rw [Bool.true_and] at hq
   refine bf _ rfl ?_
   refine bq _ (inT (c:=c)) (fun h3=>?_) fun h3=>?_
   ·rw [decide_eq_true h3] at hq
    exact back' hq
   rw [decide_eq_false h3,Bool.false_or] at hq
   refine gA (H.rc _ _) ?_
   refine bq (p:=e=0) _ (by show ((e:Int) == 0)=_;rw [Bool.eq_iff_iff];simp) (fun h4=>?_) fun h4=>?_
   ·rw [decide_eq_true h4,Bool.true_and] at hq
    refine bq _ eq1 (fun h5=>?_) fun h5=>?_
    ·rw [decide_eq_true h5] at hq
     refine back hq ?_
     rw [eq1,decide_eq_true h5];rfl
    ·rw [decide_eq_false h5,Bool.false_or] at hq
     refine back hq ?_
     exact congrArg V.bool eq1
   ·rw [decide_eq_false h4,Bool.false_and] at hq
    refine back hq ?_
    show V.bool ((e:Int) == 0)=_
    congr 1
    rw [Bool.eq_false_iff];simp;exact h4
noncomputable def nsg:List Nat:=[97,98,99,100,101,102,103,104,105,106,107,108,109,110,111,112,113,114,115,116,117,118,119,120,121,122,65,66,67,68,69,70,71,72,73,74,75,76,77,78,79,80,81,82,83,84,85,86,87,88,89,90,95,48,49,50,51,52,53,54,55,56,57]
theorem r_defined {x y:Tr}(H:RD a r t (.dct w [tx [68],tx [69]] [nv x,nv y]) ip G){k c:Nat}{z:List Nat}{bg:V}(hc:c=68∨c=69)(ht:t.drop k=c::125::z)(hq:Q (nv (if c=68 then x else y)) (G (k+2:Nat) e)) :
  CALL w (fr w.params) (d+3) (.ref 870) [.own r,bg] (G k e) Q:=by
 have hn:c∈nsg:=by rcases hc with rfl | rfl<;>(unfold nsg;decide)
 have hf:c∉figs:=by rw [fig_mem];lia
 have hk1:t.drop (k+1)=125::z:=by rw [←List.drop_drop,ht];rfl
 have htw:(t.drop k).takeWhile (·∈nsg)=[c]:=by
  rw [ht,List.takeWhile_cons_of_pos (by simpa using hn),List.takeWhile_cons_of_neg (by unfold nsg;decide)]
 refine O_RegexReader_defined ?_
 refine gA (H.rc _ _) ?_
 refine mO (H.c _ _) ⟨O_Cursor_name ?_⟩
 refine mO (H.c _ _) ⟨c_peek (H.cs (e:=e)) ?_⟩
 rw [sg_hd ht]
 refine bf _ (by rw [eqT (a:=[c])];rfl) ?_
 refine bf _ (by show (!inS (tx [c]) (tx nsg))=false;rw [inS_tx,decide_eq_true hn];rfl) ?_
 refine bf _ (by show inS (tx [c]) (tx figs)=false;rw [inS_tx];exact decide_eq_false hf) ?_
 refine mO (H.c _ _) ⟨c_takeWhile (H.cs (e:=e)) (ss:=nsg) ?_⟩
 rw [htw]
 refine back' ?_
 refine gA (H.rc _ _) ?_
 refine mO (H.c _ _) ⟨c_skip (H.cs (e:=e)) (k:=k+1) (ws:=[125]) (b:=true) (st_y hk1) ?_⟩
 refine bf _ rfl ?_
 refine gA (H.rc _ _) ?_
 refine bf _ rfl ?_
 refine gA (H.rc _ _) ?_
 rcases hc with rfl | rfl
 ·refine ⟨⟨rfl⟩,?_⟩
  refine bf _ (by rw [List.zip_cons_cons,List.lookup_cons,tx_beq];rfl) ?_
  refine gA (H.rc _ _) ?_
  refine ⟨nv x,⟨rfl,by rw [List.zip_cons_cons,List.lookup_cons,tx_beq];rfl⟩,?_⟩
  exact back' hq
 ·refine ⟨⟨rfl⟩,?_⟩
  refine bf _ (by rw [List.zip_cons_cons,List.lookup_cons,tx_beq,List.zip_cons_cons,List.lookup_cons,tx_beq];rfl) ?_
  refine gA (H.rc _ _) ?_
  refine ⟨nv y,⟨rfl,by rw [List.zip_cons_cons,List.lookup_cons,tx_beq,List.zip_cons_cons,List.lookup_cons,tx_beq];rfl⟩,?_⟩
  exact back' hq
end Hd
end
section
open PySem PySem.W PySem.Calls PyProof.Rows NN
namespace Hd
variable {w:World}{d:Nat}{Q:V→NN.St→Prop}{v:V}{a r:Addr}{t:List Nat}{df:V}{ip:Bool}{G:Int→Int→NN.St}{e:Nat}
noncomputable def bads:List Nat:=[42,43,63,93,125,94,36,47,32,9,10]
noncomputable def bad2:List Nat:=[40,91,34,123,46,41,124,42,43,63,93,125,94,36,47,32,9,10]
noncomputable def HS (y:List Nat):Prop:=∃ c z,y=c::z∧c∉bad2
theorem s_sgn (H:RD a r t df ip G){k c:Nat}{y z:List Nat}(h:Cd y c)(hs:HS y)(ht:t.drop k=y++z)(hq:Q (nv (.chs [(c,c)])) (G (k+y.length:Nat) e)):CALL w (fr w.params) (d+9) (.ref 851) [.own r] (G k e) Q:=by
 refine xEEAoo hs fun s y' er1 hb=>?_;subst er1
 have h0:t.drop k=s::(y'++z):=ht
 refine O_RegexReader_single ?_
 refine gA (H.rc _ _) ?_
 refine gA (H.c _ _) ?_
 refine gA (H.rc _ _) ?_
 refine mO (H.c _ _) ⟨c_take (H.cs (e:=e)) (take_hd h0) ?_⟩
 refine bf _ (by rw [eq1];exact decide_eq_false (nin hb (by decide))) ?_
 refine bf _ (by rw [eq1];exact decide_eq_false (nin hb (by decide))) ?_
 refine bf _ (by rw [eq1];exact decide_eq_false (nin hb (by decide))) ?_
 refine bf _ (by rw [eq1];exact decide_eq_false (nin hb (by decide))) ?_
 refine bf _ (by rw [eq1];exact decide_eq_false (nin hb (by decide))) ?_
 refine bf _ (by show inS (tx [s]) (tx bads)=false;rw [inS_tx];exact decide_eq_false (nsub hb (by decide))) ?_
 cases h with
 |raw g1 g2 g3 =>
  refine mO (H.rc _ _) ⟨r_codeRaw (k:=k+1) H g1 g3 ?_⟩
  refine ⟨k_span ⟨Nat.le_refl _,by exact zz4⟩ ?_⟩
  exact ⟨k_Chars (back' hq)⟩
 |@esc y c g =>
  refine mO (H.rc _ _) ⟨r_codeEsc H (k:=k+1) g (by rw [←List.drop_drop,ht];rfl) ?_⟩
  refine ⟨k_span ⟨Nat.le_refl _,by have:=g.lt;exact zz4⟩ ?_⟩
  refine ⟨k_Chars (back' ?_)⟩
  rw [show k+1+y'.length=k+(92::y').length by simp only [List.length_cons];lia]
  exact hq
theorem s_dot (H:RD a r t df ip G){k:Nat}{z:List Nat}(ht:t.drop k=46::z)(hq:Q (nv (.chs dot)) (G (k+1:Nat) e)):CALL w (fr w.params) (d+9) (.ref 851) [.own r] (G k e) Q:=by
 refine O_RegexReader_single ?_
 refine gA (H.rc _ _) ?_
 refine gA (H.c _ _) ?_
 refine gA (H.rc _ _) ?_
 refine mO (H.c _ _) ⟨c_take (H.cs (e:=e)) (take_hd ht) ?_⟩
 refine bf _ (by rw [eq1];rfl) ?_
 refine bf _ (by rw [eq1];rfl) ?_
 refine bf _ (by rw [eq1];rfl) ?_
 refine bf _ (by rw [eq1];rfl) ?_
 refine bt _ (by rw [eq1];rfl) ?_
 refine ⟨k_dot ?_⟩
 exact ⟨k_Chars (back' hq)⟩
theorem s_cls (H:RD a r t df ip G){k:Nat}{z:List Nat}{u:V}{n:Nat}(ht:t.drop k=91::z)(hc:∀ bg,CALL w (fr w.params) (d+8) (.ref 877) [.own r,bg] (G (k+1:Nat) e) (fun v σ=>v=u∧σ=G n e))(hq:Q u (G n e)):CALL w (fr w.params) (d+9) (.ref 851) [.own r] (G k e) Q:=by
 refine O_RegexReader_single ?_
 refine gA (H.rc _ _) ?_
 refine gA (H.c _ _) ?_
 refine gA (H.rc _ _) ?_
 refine mO (H.c _ _) ⟨c_take (H.cs (e:=e)) (take_hd ht) ?_⟩
 refine bf _ (by rw [eq1];rfl) ?_
 refine bt _ (by rw [eq1];rfl) ?_
 exact mO (H.rc _ _) ⟨CALL.to (hc _) (back' hq)⟩
theorem s_def {x y:Tr}(H:RD a r t (.dct w [tx [68],tx [69]] [nv x,nv y]) ip G){k c:Nat}{z:List Nat}(hc:c=68∨c=69)(ht:t.drop k=123::c::125::z)(hq:Q (nv (if c=68 then x else y)) (G (k+3:Nat) e)):CALL w (fr w.params) (d+9) (.ref 851) [.own r] (G k e) Q:=by
 refine O_RegexReader_single ?_
 refine gA (H.rc _ _) ?_
 refine gA (H.c _ _) ?_
 refine gA (H.rc _ _) ?_
 refine mO (H.c _ _) ⟨c_take (H.cs (e:=e)) (take_hd ht) ?_⟩
 refine bf _ (by rw [eq1];rfl) ?_
 refine bf _ (by rw [eq1];rfl) ?_
 refine bf _ (by rw [eq1];rfl) ?_
 refine bt _ (by rw [eq1];rfl) ?_
 exact mO (H.rc _ _) ⟨r_defined H (k:=k+1) hc (by rw [←List.drop_drop,ht];rfl) (back' hq)⟩
theorem s_grp (H:RD a r t df ip G){k:Nat}{y z:List Nat}{u:V}(ht:t.drop k=40::(y++41::z))(he:e<20)(hc:CALL w (fr w.params) (d+8) (.ref 816) [.own r] (G (k+1:Nat) (e+1:Nat)) (fun v σ=>v=u∧σ=G (k+1+y.length:Nat) (e+1:Nat)))(hq:Q u (G (k+1+y.length+1:Nat) e)) :
  CALL w (fr w.params) (d+9) (.ref 851) [.own r] (G k e) Q:=by
 have h1:t.drop (k+1)=y++41::z:=by rw [←List.drop_drop,ht];rfl
 have h2:t.drop (k+1+y.length)=41::z:=dr h1 rfl
 refine O_RegexReader_single ?_
 refine gA (H.rc _ _) ?_
 refine gA (H.c _ _) ?_
 refine gA (H.rc _ _) ?_
 refine mO (H.c _ _) ⟨c_take (H.cs (e:=e)) (take_hd ht) ?_⟩
 refine bt _ (by rw [eq1];rfl) ?_
 refine gA (H.rc _ _) ?_
 refine bf _ (by show ((e:Int) == 20)=false;rw [Bool.eq_false_iff];simp;lia) ?_
 refine gA (H.rc _ _) ?_
 refine sO (H.rc _ _) (H.ru _ _ _) ?_
 refine mO (H.rc _ _) ⟨CALL.to hc ?_⟩
 refine gA (H.rc _ _) ?_
 refine mO (H.c _ _) ⟨c_skip (H.cs (e:=(e+1:Nat))) (k:=k+1+y.length) (ws:=[41]) (b:=true) (st_y h2) ?_⟩
 refine bf _ rfl ?_
 refine gA (H.rc _ _) ?_
 refine sO (H.rc _ _) (H.ru _ _ (((e+1:Nat):Int) - 1)) ?_
 refine back' ?_
 rw [show (((e+1:Nat):Int) - 1)=e by simp]
 exact hq
end Hd
end
section
open PySem PySem.W PySem.Calls PyProof.Rows NN
namespace Hd
inductive At (D:Option (Tr×Tr)):List Nat→Tr→Prop
 |sgn {y:List Nat} {c:Nat}:Cd y c→HS y→At D y (.chs [(c,c)])
 |dot:At D [46] (.chs dot)
 |cls {its:List (List Nat×(Nat×Nat))} {b:Bool} {u:Tr}:its≠[]→(∀ x∈its,CI x.1 x.2)→(∀ x∈its,x.2.1≤x.2.2∧x.2.2≤127)→((its.map (·.2)).Pairwise fun p q=>p.1<q.1)→its.length<64 →
   (if b=true then mrg (its.map (·.2))=[(0,127)]∧u=.nev else mrg (its.map (·.2))≠[]∧u=.chs (mrg (its.map (·.2))))→At D (91::((if b=true then [94] else [])++(fl its++[93]))) u
 |dfn {x y:Tr} {c:Nat}:D=some (x,y)→(c=68∨c=69)→At D [123,c,125] (if c=68 then x else y)
noncomputable def sh (n:Nat)(l:List (Nat×Nat)):List (Nat×Nat):=l.map fun p=>(p.1+n,p.2+n)
inductive Ps (D:Option (Tr×Tr)):Nat→List Nat→Tr→List (Nat×Nat)→Nat→Prop
 |atom {y:List Nat} {u:Tr}:At D y u→Ps D 2 y u [] 0
 |emp:Ps D 2 [40,41] .emp [(0,1)] 0
 |grp {y:List Nat} {u:Tr} {ps:List (Nat×Nat)} {s:Nat}:Ps D 0 y u ps s→Ps D 2 (40::(y++[41])) u (sh 1 ps++[(0,y.length+1)]) s
 |suf {y:List Nat} {u:Tr} {ps:List (Nat×Nat)} {s:Nat} {l:Lp}:Ps D 2 y u ps s→lpO l→Ps D 2 (y++lpT l) (lpA l u) ps (s+1)
 |row1 {y:List Nat} {u:Tr} {ps:List (Nat×Nat)} {s:Nat}:Ps D 2 y u ps s→Ps D 1 y u ps s
 |rowS {y y':List Nat} {u u':Tr} {ps ps':List (Nat×Nat)} {s s':Nat}:Ps D 1 y u ps s→Ps D 2 y' u' ps' s'→Ps D 1 (y++y') (.cat u u') (ps++sh y.length ps') (s+s')
 |alt1 {y:List Nat} {u:Tr} {ps:List (Nat×Nat)} {s:Nat}:Ps D 1 y u ps s→Ps D 0 y u ps s
 |altS {y y':List Nat} {u u':Tr} {ps ps':List (Nat×Nat)} {s s':Nat}:Ps D 0 y u ps s→Ps D 1 y' u' ps' s'→Ps D 0 (y++124::y') (.alt u u') (ps++sh (y.length+1) ps') (s+s')
variable {D:Option (Tr×Tr)}
theorem sh_len {n:Nat}{l:List (Nat×Nat)}:(sh n l).length=l.length:=by unfold sh;rw [List.length_map]
noncomputable def par (D:Option (Tr×Tr))(y:List Nat)(u:Tr)(n s m:Nat):Prop:=∃ ps s',Ps D 2 y u ps s'∧ps.length≤n∧s'≤s∧y.length≤m
noncomputable def roP (D:Option (Tr×Tr))(y:List Nat)(u:Tr)(n s m:Nat):Prop:=∃ ps s',Ps D 1 y u ps s'∧ps.length≤n∧s'≤s∧y.length≤m
theorem Ps.rows {l:Nat}{y:List Nat}{u:Tr}{ps:List (Nat×Nat)}{s:Nat}(h:Ps D l y u ps s):l=1→∃ (x0:List Nat×Tr) (xs:List (List Nat×Tr)),y=x0.1++(xs.map (·.1)).flatten∧u=xs.foldl (fun a x=>.cat a x.2) x0.2∧∀ x∈x0::xs,par D x.1 x.2 ps.length s y.length:=by
 induction h with
 |@row1 y u ps s h _=>intro _;exact ⟨(y,u),[],by simp,rfl,fun x hx=>by rw [List.mem_singleton.mp hx];exact ⟨ps,s,h,Nat.le_refl _,Nat.le_refl _,Nat.le_refl _⟩⟩
 |@rowS y y' u u' ps ps' s s' h1 h2 ih _ =>
  intro _
  refine xEEAoAoo (ih rfl) fun x0 xs e1 e2 e3=>?_
  refine ⟨x0,xs++[(y',u')],by rw [e1];simp,by rw [List.foldl_append,←e2];rfl,fun x hx=>?_⟩
  rw [←List.cons_append] at hx
  rcases List.mem_append.mp hx with hx | hx
  ·refine xEEAoAoAoo (e3 x hx) fun p q a b c d=>?_
   exact ⟨p,q,a,by rw [List.length_append];lia,by lia,by rw [List.length_append];lia⟩
  ·rw [List.mem_singleton.mp hx]
   exact ⟨ps',s',h2,by rw [List.length_append,sh_len];exact Nat.le_add_left _ _,by exact Nat.le_add_left _ _,by show y'.length≤_;rw [List.length_append];exact Nat.le_add_left _ _⟩
 |_=>intro h;cases h
theorem Ps.alts {l:Nat}{y:List Nat}{u:Tr}{ps:List (Nat×Nat)}{s:Nat}(h:Ps D l y u ps s):l=0→∃ (x0:List Nat×Tr) (xs:List (List Nat×Tr)),y=x0.1++(xs.map fun x=>124::x.1).flatten∧u=xs.foldl (fun a x=>.alt a x.2) x0.2∧∀ x∈x0::xs,roP D x.1 x.2 ps.length s y.length:=by
 induction h with
 |@alt1 y u ps s h _=>intro _;exact ⟨(y,u),[],by simp,rfl,fun x hx=>by rw [List.mem_singleton.mp hx];exact ⟨ps,s,h,Nat.le_refl _,Nat.le_refl _,Nat.le_refl _⟩⟩
 |@altS y y' u u' ps ps' s s' h1 h2 ih _ =>
  intro _
  refine xEEAoAoo (ih rfl) fun x0 xs e1 e2 e3=>?_
  refine ⟨x0,xs++[(y',u')],by rw [e1];simp,by rw [List.foldl_append,←e2];rfl,fun x hx=>?_⟩
  rw [←List.cons_append] at hx
  rcases List.mem_append.mp hx with hx | hx
  ·refine xEEAoAoAoo (e3 x hx) fun p q a b c d=>?_
   exact ⟨p,q,a,by rw [List.length_append];lia,by lia,by rw [List.length_append];lia⟩
  ·rw [List.mem_singleton.mp hx]
   exact ⟨ps',s',h2,by rw [List.length_append,sh_len];lia,by lia,by show y'.length≤_;rw [List.length_append,List.length_cons];lia⟩
 |_=>intro h;cases h
inductive Co (D:Option (Tr×Tr)):List Nat→Tr→Nat→Nat→Prop
 |atom {y:List Nat} {u:Tr} {n s:Nat}:At D y u→Co D y u n s
 |emp {n s:Nat}:Co D [40,41] .emp (n+1) s
 |grp {y:List Nat} {u:Tr} {ps:List (Nat×Nat)} {n s s':Nat}:Ps D 0 y u ps s→ps.length≤n→s≤s'→Co D (40::(y++[41])) u (n+1) s'
theorem Co.up {y:List Nat}{u:Tr}{n s s':Nat}(h:Co D y u n s)(hs:s≤s'):Co D y u n s':=by
 cases h with
 |atom h=>exact .atom h
 |emp=>exact .emp
 |grp h1 h2 h3=>exact .grp h1 h2 (Nat.le_trans h3 hs)
theorem Ps.part {l:Nat}{y:List Nat}{u:Tr}{ps:List (Nat×Nat)}{s:Nat}(h:Ps D l y u ps s):l=2→∃ y0 u0 ls,y=y0++lps ls∧u=lpF u0 ls∧ls.length≤s∧(∀ x∈ls,lpO x)∧Co D y0 u0 ps.length s:=by
 induction h with
 |@atom y u h=>intro _;exact ⟨y,u,[],by simp [lps],rfl,Nat.le_refl _,by simp,.atom h⟩
 |emp=>intro _;exact ⟨_,_,[],(List.append_nil _).symm,rfl,Nat.le_refl _,by simp,.emp⟩
 |@grp y u ps s h _=>intro _;exact ⟨_,_,[],(List.append_nil _).symm,rfl,Nat.zero_le _,by simp,by rw [List.length_append,sh_len];exact .grp h (Nat.le_refl _) (Nat.le_refl _)⟩
 |@suf y u ps s l h ho ih =>
  intro _
  refine xEEEAoAoAoAoo (ih rfl) fun y0 u0 ls e1 e2 e3 e4 e5=>?_
  refine ⟨y0,u0,ls++[l],by rw [e1];simp [lps],by rw [e2];unfold lpF;rw [List.foldl_append];rfl,by simp;omega,fun x hx=>?_,e5.up (by exact Nat.le_succ _)⟩
  rcases List.mem_append.mp hx with hx | hx
  ·exact e4 x hx
  ·rw [List.mem_singleton.mp hx];exact ho
 |_=>intro h;cases h
noncomputable def HI (y:List Nat):Prop:=∃ c z,y=c::z∧c∉[124,41,32,9,10,47,36]∧c≠42∧c≠43∧c≠63∧(c=123→∃ c' y',z=c'::y'∧c'∉figs)
theorem At.hi {y:List Nat}{u:Tr}(h:At D y u):HI y:=by
 cases h with
 |sgn _ h =>
  obtain ⟨c,z,rfl,h⟩:=h
  exact ⟨c,z,rfl,nsub h (by decide),nin h (by decide),nin h (by decide),nin h (by decide),fun e=>absurd e (nin h (by decide))⟩
 |dot=>exact ⟨46,_,rfl,by decide,by decide,by decide,by decide,fun h=>by cases h⟩
 |cls=>exact ⟨91,_,rfl,by decide,by decide,by decide,by decide,fun h=>by cases h⟩
 |dfn _ h=>exact ⟨123,_,rfl,by decide,by decide,by decide,by decide,fun _=>⟨_,_,rfl,by rcases h with rfl | rfl<;>decide⟩⟩
theorem Co.hi {y:List Nat}{u:Tr}{n s:Nat}(h:Co D y u n s):HI y:=by
 cases h with
 |atom h=>exact h.hi
 |emp=>exact ⟨40,_,rfl,by decide,by decide,by decide,by decide,fun h=>by cases h⟩
 |grp=>exact ⟨40,_,rfl,by decide,by decide,by decide,by decide,fun h=>by cases h⟩
theorem HI.app {y z:List Nat}(h:HI y):HI (y++z):=by
 obtain ⟨c,x,rfl,h1,h2,h3,h4,h5⟩:=h
 exact ⟨c,x++z,rfl,h1,h2,h3,h4,fun e=>by obtain ⟨c',y',rfl,h⟩:=h5 e;exact ⟨c',_,rfl,h⟩⟩
theorem HI.nl {y:List Nat}(h:HI y):NL y:=by
 refine xEEAoAoAoAoAoo h fun c x er1 h1 h2 h3 h4 h5=>?_;subst er1
 exact .inr ⟨c,x,rfl,h2,h3,h4,h5⟩
theorem HI.go {y:List Nat}{ip:Bool}{e:Nat}(h:HI y):stopB ip e y=false:=by
 refine xEEAoAoAoAoAoo h fun c x er1 h1 h2 h3 h4 h5=>?_;subst er1
 simp only [List.mem_cons,List.not_mem_nil,or_false,not_or] at h1
 unfold stopB
 simp [h1.1,h1.2.1,h1.2.2.1,h1.2.2.2.1,h1.2.2.2.2.1,h1.2.2.2.2.2.1,h1.2.2.2.2.2.2]
theorem stop_nl {z:List Nat}{ip:Bool}{e:Nat}(h:stopB ip e z=true):NL z:=by
 cases z with
 |nil=>exact .inl rfl
 |cons c z =>
  unfold stopB at h
  simp at h
  exact .inr ⟨c,z,rfl,by lia,by lia,by lia,fun e=>by lia⟩
end Hd
end
section
open PySem PySem.W PySem.Calls PyProof.Rows NN
namespace Hd
variable {w:World}{d:Nat}{Q:V→NN.St→Prop}{v:V}{a r:Addr}{t:List Nat}{df:V}{ip:Bool}{G:Int→Int→NN.St}{e:Nat}{D:Option (Tr×Tr)}
noncomputable def catF:List Tr→Tr
 |[]=>.emp
 |h::r=>r.foldl .cat h
theorem k_catAll {l:List Tr}{σ:NN.St}(hl:l.length≤10000)(hq:Q (nv (catF l)) σ):CALL w (fr w.params) (d+3) (.ref 711) [.lst (l.map nv)] σ Q:=by
 refine O_cat_all ?_
 refine ⟨⟨by rw [List.length_map];exact zz6⟩,?_⟩
 cases l with
 |nil =>
  refine bt _ rfl ?_
  exact ⟨k_Empty (back' hq)⟩
 |cons h r =>
  refine bf _ (by rw [List.length_map];exact decide_eq_false (by simp only [List.length_cons];lia)) ?_
  refine ⟨nv h,tupN (c:=cx0 w tb d) (i:=0) rfl (by rw [List.length_map];exact zz7),?_⟩
  refine ⟨⟨by rw [List.length_map];lia⟩,⟨rfl⟩,?_⟩
  refine forL0 (f:=nv) (l:=r) (fun dn m σ'=>∃ x:Option V,m=[some (.lst ((h::r).map nv)),some (nv (dn.foldl .cat h)),x,none,none,none]∧σ'=σ) ?_ ?_ ?_ ?_
  ·rfl
  ·exact ⟨none,rfl,rfl⟩
  ·rintro dn p td m σ' e1 ⟨x,rfl,rfl⟩
   refine ⟨k_Cat ?_⟩
   refine LI.next e1 ?_
   exact ⟨_,by rw [List.foldl_append];rfl,rfl⟩
  ·rintro m σ' ⟨x,rfl,rfl⟩
   exact back' hq
theorem st_z {k b:Nat}{z:List Nat}(h:t.drop k=z)(hz:∀ x,z≠b::x):¬ (t.drop k).take [b].length=[b]:=by
 rw [h]
 cases z with
 |nil=>intro q;cases q
 |cons c z=>intro q;exact hz z (by rw [(List.cons.inj (show c::_=b::_ from q)).1])
theorem r_choice0 (H:RD a r t df ip G){k:Nat}{z:List Nat}(ht:t.drop k=41::z)(hq:Q (nv .emp) (G k e)):CALL w (fr w.params) (d+5) (.ref 816) [.own r] (G k e) Q:=by
 refine O_RegexReader_choice ?_
 refine mO (H.rc _ _) ⟨O_RegexReader_branch ?_⟩
 intro x
 refine ⟨_,_,⟨.rfl⟩,?_⟩
 have H1:=H.cons (x,.lst [])
 refine ⟨fun n m σ=>m=[some (.own r),some (.own x),none]∧σ=(x,.lst [])::G k e,0,⟨⟨rfl,rfl⟩⟩,?_⟩
 rintro n m σ ⟨rfl,rfl⟩
 refine mO (.tail _ (H.rc _ _)) ⟨r_isStop H1 ht ?_⟩
 refine bf _ (by unfold stopB;simp) ?_
 refine ⟨CALL.wk .lst (k_catAll (l:=[]) (by decide) (back' ?_))⟩
 refine ⟨fun n m σ=>m=[some (.own r),some (nv .emp),none]∧σ=G k e,0,⟨⟨rfl,rfl⟩⟩,?_⟩
 rintro n m σ ⟨rfl,rfl⟩
 refine gA (H.rc _ _) ?_
 refine mO (H.c _ _) ⟨c_skipN (H.cs (e:=e)) (ws:=[124]) (st_z ht (fun x q=>by cases q)) ?_⟩
 refine bf _ rfl ?_
 exact back' hq
noncomputable def dfV (w:World):Option (Tr×Tr)→V
 |none=>.none
 |some (x,y)=>.dct w [tx [68],tx [69]] [nv x,nv y]
noncomputable def CH (w:World)(n:Nat):Prop:=∀ {D:Option (Tr×Tr)} {y:List Nat} {u:Tr} {ps:List (Nat×Nat)} {s:Nat},Ps D 0 y u ps s→y.length≤n→∀ {a r:Addr} {t:List Nat} {ip:Bool} {G:Int→Int→NN.St},RD a r t (dfV w D) ip G→∀ {k e q:Nat} {z:List Nat} {Q:V→NN.St→Prop},
 t.drop k=y++z→stopB ip e z=true→(∀ x,z≠124::x)→e+ps.length≤20→s≤20→3*ps.length≤q→Q (nv u) (G (k+y.length:Nat) e)→CALL w (fr w.params) (q+15) (.ref 816) [.own r] (G k e) Q
theorem r_single {n:Nat}(ih:CH w n){y:List Nat}{u:Tr}{np s:Nat}(h:Co D y u np s)(hy:y.length≤n+1)(H:RD a r t (dfV w D) ip G){k q:Nat}{z:List Nat}(ht:t.drop k=y++z)(he:e+np≤20)(hs:s≤20)(hq3:3*np≤q)(hq:Q (nv u) (G (k+y.length:Nat) e)) :
  CALL w (fr w.params) (q+13) (.ref 851) [.own r] (G k e) Q:=by
 cases h with
 |atom h =>
  cases h with
  |sgn h1 h2=>exact s_sgn (d:=q+4) H h1 h2 ht hq
  |dot=>exact s_dot (d:=q+4) H ht hq
  |@cls its b u h1 h2 h3 h4 h5 h6 =>
   have hd:t.drop (k+1)=(if b=true then [94] else [])++(fl its++93::z):=by rw [←List.drop_drop,ht];simp
   refine s_cls (d:=q+4) H (n:=k+1+(if b=true then 1 else 0)+(fl its).length+1) ht (fun bg=>r_class H (k:=k+1) h1 h2 hd h3 h4 h5 h6 ⟨rfl,rfl⟩) ?_
   rw [show k+1+(if b=true then 1 else 0)+(fl its).length+1=k+(91::((if b=true then [94] else [])++(fl its++[93]))).length by cases b<;>simp<;>lia]
   exact hq
  |@dfn x x' c h1 h2 =>
   subst h1
   exact s_def (d:=q+4) H h2 ht hq
 |@emp np s =>
  refine s_grp (d:=q+4) (y:=[]) H ht (by lia) (r_choice0 H (by rw [←List.drop_drop,ht];rfl) ⟨rfl,rfl⟩) hq
 |@grp y u ps np s' s h1 h2 h3 =>
  refine xEo (⟨q - 3,by lia⟩:∃ q',q=q'+3) fun q' er1=>?_;subst er1
  have ht':t.drop k=40::(y++41::z):=by rw [ht];simp
  have hl:(40::(y++[41])).length=y.length+2:=by simp
  refine s_grp (d:=q'+7) H ht' (by lia) (ih (q:=q') h1 (by lia) H (k:=k+1) (e:=e+1) (z:=41::z) (by rw [←List.drop_drop,ht'];rfl) (by unfold stopB;simp) (fun x hx=>by cases hx) (by lia) (by exact zza) (by lia) ⟨rfl,rfl⟩) ?_
  rw [show k+1+y.length+1=k+(40::(y++[41])).length by lia]
  exact hq
end Hd
end
section
open PySem PySem.W PySem.Calls PyProof.Rows NN
namespace Hd
variable {w:World}{d:Nat}{Q:V→NN.St→Prop}{v:V}{a r:Addr}{t:List Nat}{df:V}{ip:Bool}{G:Int→Int→NN.St}{e:Nat}{D:Option (Tr×Tr)}
noncomputable abbrev fx (l:List (List Nat×Tr)):List Nat:=(l.map (·.1)).flatten
theorem fx_len {l:List (List Nat×Tr)}{p:List Nat→Prop}(h:∀ x∈l,1≤x.1.length):l.length≤(fx l).length:=by
 induction l with
 |nil=>simp
 |cons x l ih =>
  have:=h x (.head _)
  have:=ih fun y hy=>h y (.tail _ hy)
  simp only [fx,List.map_cons,List.flatten_cons,List.length_append,List.length_cons] at *
  lia
theorem par.hi {y:List Nat}{u:Tr}{n s m:Nat}(h:par D y u n s m):HI y:=by
 refine xEEAoo h fun ps s' h1 _=>?_
 refine xEEEAoAoAoAoo (h1.part rfl) fun y0 u0 ls er1 _ _ _ c=>?_;subst er1
 exact c.hi.app
theorem r_branch {n:Nat}(ih:CH w n)(hn:n≤9000){its:List (List Nat×Tr)}{np s:Nat}(hp:∀ x∈its,par D x.1 x.2 np s (n+1))(hne:its≠[])(H:RD a r t (dfV w D) ip G){k q:Nat}{z:List Nat}(ht:t.drop k=fx its++z)(hst:stopB ip e z=true)
  (hl:its.length≤9000) (he:e+np≤20) (hs:s≤20) (hq3:3*np≤q) (hq:Q (nv (catF (its.map (·.2)))) (G (k+(fx its).length:Nat) e)):CALL w (fr w.params) (q+14) (.ref 823) [.own r] (G k e) Q:=by
 refine O_RegexReader_branch ?_
 intro x
 refine ⟨_,_,⟨.rfl⟩,?_⟩
 refine ⟨fun n m σ=>∃ dn td,dn++td=its∧n=td.length∧m=[some (.own r),some (.own x),none]∧σ=(x,.lst ((dn.map Prod.snd).map nv))::G (k+(fx dn).length:Nat) e,_,⟨⟨[],its,rfl,rfl,rfl,rfl⟩⟩,?_⟩
 rintro _ m σ ⟨dn,td,hd,rfl,rfl,rfl⟩
 have H1:=H.cons (x,.lst ((dn.map Prod.snd).map nv))
 have hdr:t.drop (k+(fx dn).length)=fx td++z:=by
  refine dr (x:=fx dn) ?_ rfl
  rw [ht,←hd];simp [fx]
 refine mO (.tail _ (H.rc _ _)) ⟨r_isStop H1 hdr ?_⟩
 cases td with
 |nil =>
  rw [List.append_nil] at hd
  subst hd
  refine bf _ (by show (!stopB ip e z)=false;rw [hst];rfl) ?_
  exact ⟨CALL.wk .lst (k_catAll (l:=dn.map Prod.snd) (by rw [List.length_map];exact zz6) (back' hq))⟩
 |cons i td =>
  have hi:=hp i (by rw [←hd];simp)
  have hdl:dn.length≤9000:=by have:=congrArg List.length hd;rw [List.length_append] at this;lia
  have hgo:stopB ip e (fx (i::td)++z)=false:=by
   have:=(HI.app hi.hi:HI (i.1++(fx td++z))).go (ip:=ip) (e:=e)
   rw [show fx (i::td)++z=i.1++(fx td++z) by simp [fx]]
   exact this
  refine bt _ (by show (!stopB ip e (fx (i::td)++z))=true;rw [hgo];rfl) ?_
  refine xEEAoAoAoo hi fun ps s' h1 h2 h3 h4=>?_
  refine xEEEAoAoAoAoo (h1.part rfl) fun y0 u0 ls e1 e2 e3 e4 co=>?_
  have hd1:t.drop (k+(fx dn).length)=y0++(lps ls++(fx td++z)):=by rw [hdr];simp [fx,e1]
  have hd2:t.drop (k+(fx dn).length+y0.length)=lps ls++(fx td++z):=dr hd1 rfl
  have hlen:y0.length≤n+1:=by rw [e1,List.length_append] at h4;exact zzk
  have hnl:NL (fx td++z):=by
   cases td with
   |nil=>exact stop_nl hst
   |cons j td =>
    have:=(hp j (by rw [←hd];simp)).hi
    have h:=(HI.app this:HI (j.1++(fx td++z))).nl
    simpa [fx] using h
  refine mApp (.head _) ?_
  refine mO (.tail _ (H.rc _ _)) ?_
  refine mO (.tail _ (H.rc _ _)) ⟨r_single ih co hlen H1 hd1 (by lia) (by exact zza) (by lia) ?_⟩
  refine ⟨r_looped (d:=q+8) H1 (l:=ls) (by lia) e4 hnl hd2 ?_⟩
  refine ⟨_,_,⟨.head⟩,⟨by simp only [List.length_map];exact zz6⟩,?_⟩
  refine ⟨td.length,by simp,dn++[i],td,by rw [←hd];simp,rfl,rfl,?_⟩
  rw [show k+(fx dn).length+y0.length+(lps ls).length=k+(fx (dn++[i])).length by simp [fx,e1];lia,←e2]
  simp
end Hd
end
section
open PySem PySem.W PySem.Calls PyProof.Rows NN
namespace Hd
variable {w:World}{d:Nat}{Q:V→NN.St→Prop}{v:V}{a r:Addr}{t:List Nat}{df:V}{ip:Bool}{G:Int→Int→NN.St}{e:Nat}{D:Option (Tr×Tr)}
noncomputable abbrev fb (l:List (List Nat×Tr)):List Nat:=(l.map fun x=>124::x.1).flatten
noncomputable abbrev foA (u:Tr)(l:List (List Nat×Tr)):Tr:=l.foldl (fun a x=>.alt a x.2) u
theorem par.len {y:List Nat}{u:Tr}{n s m:Nat}(h:par D y u n s m):1≤y.length:=by refine xEEAoo h.hi fun c z er1 _=>?_;subst er1;simp
theorem par.up {y:List Nat}{u:Tr}{n s m n' s' m':Nat}(h:par D y u n s m)(h1:n≤n')(h2:s≤s')(h3:m≤m'):par D y u n' s' m':=by
 refine xEEAoAoAoo h fun ps q a b c d=>?_
 exact ⟨ps,q,a,by exact zza,by exact zza,by exact zza⟩
theorem r_row {n:Nat}(ih:CH w n)(hn:n≤8000){y:List Nat}{u:Tr}{np s:Nat}(h:roP D y u np s (n+1))(H:RD a r t (dfV w D) ip G){k q:Nat}{z:List Nat}(ht:t.drop k=y++z)(hst:stopB ip e z=true)
  (he:e+np≤20) (hs:s≤20) (hq3:3*np≤q) (hq:Q (nv u) (G (k+y.length:Nat) e)):CALL w (fr w.params) (q+14) (.ref 823) [.own r] (G k e) Q:=by
 refine xEEAoAoAoo h fun ps s' h1 h2 h3 h4=>?_
 refine xEEAoAoo (h1.rows rfl) fun x0 xs e1 e2 e3=>?_
 have hfx:fx (x0::xs)=y:=by rw [e1];simp [fx]
 have hlen:(x0::xs).length≤(fx (x0::xs)).length:=fx_len (p:=fun _=>True) fun x hx=>(e3 x hx).len
 rw [hfx] at hlen
 refine r_branch ih (by exact zz6) (its:=x0::xs) (fun x hx=>(e3 x hx).up h2 h3 h4) (by simp) H (by rw [hfx];exact ht) hst (by lia) he hs hq3 ?_
 rw [hfx,show catF ((x0::xs).map (·.2))=u by rw [e2];show List.foldl .cat x0.2 (xs.map (·.2))=_;rw [List.foldl_map]]
 exact hq
noncomputable def AL (D:Option (Tr×Tr))(y:List Nat)(u:Tr)(B s m:Nat):Prop:=∃ (x0:List Nat×Tr) (xs:List (List Nat×Tr)),y=x0.1++fb xs∧u=foA x0.2 xs∧∀ x∈x0::xs,roP D x.1 x.2 B s m
theorem roP.up {y:List Nat}{u:Tr}{n s m n' s' m':Nat}(h:roP D y u n s m)(h1:n≤n')(h2:s≤s')(h3:m≤m'):roP D y u n' s' m':=by
 refine xEEAoAoAoo h fun ps q a b c d=>?_
 exact ⟨ps,q,a,Nat.le_trans b h1,Nat.le_trans c h2,Nat.le_trans d h3⟩
theorem AL.up {y:List Nat}{u:Tr}{B s m m':Nat}(h:AL D y u B s m)(hm:m≤m'):AL D y u B s m':=by
 refine xEEAoAoo h fun x0 xs e1 e2 e3=>?_
 exact ⟨x0,xs,e1,e2,fun x hx=>(e3 x hx).up (Nat.le_refl _) (Nat.le_refl _) hm⟩
theorem Ps.al {y:List Nat}{u:Tr}{ps:List (Nat×Nat)}{s:Nat}(h:Ps D 0 y u ps s):AL D y u ps.length s y.length:=h.alts rfl
theorem r_alts {n:Nat}(ih:CH w n)(hn:n≤8000){y:List Nat}{u:Tr}{B s:Nat}(al:AL D y u B s (n+1))(H:RD a r t (dfV w D) ip G){k q:Nat}{z:List Nat}(ht:t.drop k=y++z)(hst:stopB ip e z=true)(hz:∀ x,z≠124::x)
  (he:e+B≤20) (hs:s≤20) (hq3:3*B≤q) (hq:Q (nv u) (G (k+y.length:Nat) e)):CALL w (fr w.params) (q+15) (.ref 816) [.own r] (G k e) Q:=by
 refine xEEAoAoo al fun x0 xs e1 e2 ro=>?_
 have hst2:∀ td:List (List Nat×Tr),stopB ip e (fb td++z)=true:=fun td=>by
  cases td with
  |nil=>exact hst
  |cons x td=>simp [fb,stopB]
 have ht0:t.drop k=x0.1++(fb xs++z):=by rw [ht,e1];simp [fb]
 refine O_RegexReader_choice ?_
 refine mO (H.rc _ _) ⟨r_row ih (by omega) (ro x0 (.head _)) H ht0 (hst2 xs) he hs hq3 ?_⟩
 refine ⟨fun n m σ=>∃ dn td,dn++td=xs∧n=td.length∧m=[some (.own r),some (nv (foA x0.2 dn)),none]∧σ=G (k+x0.1.length+(fb dn).length:Nat) e,_,⟨⟨[],xs,rfl,rfl,rfl,rfl⟩⟩,?_⟩
 rintro _ m σ ⟨dn,td,hd,rfl,rfl,rfl⟩
 have hdr:t.drop (k+x0.1.length+(fb dn).length)=fb td++z:=by
  refine dr (x:=fb dn) ?_ rfl
  rw [dr ht0 rfl,←hd];simp [fb]
 refine gA (H.rc _ _) ?_
 cases td with
 |nil =>
  rw [List.append_nil] at hd
  subst hd
  refine mO (H.c _ _) ⟨c_skipN (H.cs (e:=e)) (ws:=[124]) (st_z (hdr:t.drop _=z) hz) ?_⟩
  refine bf _ rfl ?_
  refine back' ?_
  rw [show k+x0.1.length+(fb dn).length=k+y.length by rw [e1];simp;lia,show foA x0.2 dn=u from e2.symm]
  exact hq
 |cons x td =>
  have hd1:t.drop (k+x0.1.length+(fb dn).length)=124::(x.1++(fb td++z)):=by rw [hdr];simp [fb]
  have hd2:t.drop (k+x0.1.length+(fb dn).length+1)=x.1++(fb td++z):=by rw [←List.drop_drop,hd1];rfl
  refine mO (H.c _ _) ⟨c_skip (H.cs (e:=e)) (ws:=[124]) (b:=true) (st_y hd1) ?_⟩
  refine bt _ rfl ?_
  refine mO (H.rc _ _) ⟨r_row ih (by lia) (ro x (by rw [←hd];simp)) H (k:=k+x0.1.length+(fb dn).length+1) hd2 (hst2 td) he hs hq3 ?_⟩
  refine ⟨k_Alt (d:=q+12) ?_⟩
  refine ⟨td.length,by simp,dn++[x],td,by rw [←hd];simp,rfl,?_,?_⟩
  ·unfold foA;rw [List.foldl_append];rfl
  ·rw [show k+x0.1.length+(fb dn).length+1+x.1.length=k+x0.1.length+(fb (dn++[x])).length by simp [fb];lia]
theorem r_choice:∀ n,n≤8000→CH w n:=by
 intro n
 induction n with
 |zero =>
  intro _ D y u ps s h hy
  refine xEEAoAoo (h.alts rfl) fun x0 xs e1 e2 e3=>?_
  refine xEEAoAoAoo (e3 x0 (.head _)) fun ps' s' h1 _ _ h4=>?_
  refine xEEAoAoo (h1.rows rfl) fun y0 ys f1 f2 f3=>?_
  have:=(f3 y0 (.head _)).len
  refine xEEAoAoAoo (f3 y0 (.head _)) fun _ _ _ _ _ h5=>?_
  lia
 |succ n ihn =>
  intro hn D y u ps s h hy a r t ip G H k e q z Q ht hst hz he hs hq3 hq
  exact r_alts (@ihn (by exact zz0)) (by lia) (h.al.up hy) H ht hst hz he hs hq3 hq
end Hd
end
section
open PySem PySem.W PySem.Calls PyProof.Rows NN
namespace Hd
variable {w:World}{d:Nat}{Q:V→NN.St→Prop}{v:V}{t:List Nat}{df:V}{ip:Bool}{e:Nat}{D:Option (Tr×Tr)}{σ:NN.St}
theorem k_Cursor {t:PySem.Str}{k:Int}(hq:∀ a,Q (.own a) ((a,cur t k)::σ)):CALL w (fr w.params) (d+2) (.ref 222) [.str t,.int k] σ Q:=by
 refine call_class (ns:=nslF 222) (K_Cursor _) (I_Cursor _) (J_Cursor _) (nd_ w _) fun a=>O_Cursor___init__ ?_
 refine sO (.head _) .head ?_
 exact sO (.head _) .head (back' ⟨rfl,_,_,.rfl,hq a⟩)
theorem k_Reader {k:Int}(hq:∀ a r,Q (.own r) ((a,cur (tx t) k)::(r,rdr a df ip 0)::σ)):CALL w (fr w.params) (d+4) (.ref 901) [.str (tx t),.int k,df,.bool ip] σ Q:=by
 refine call_class (ns:=nslF 901) (K_RegexReader _) (I_RegexReader _) (J_RegexReader _) (nd_ w _) fun r=>O_RegexReader___init__ ?_
 refine ⟨k_Cursor fun a=>?_⟩
 refine sO (.tail _ (.head _)) (.tail .head) ?_
 refine sO (.tail _ (.head _)) (.tail .head) ?_
 refine sO (.tail _ (.head _)) (.tail .head) ?_
 refine sO (.tail _ (.head _)) (.tail .head) ?_
 exact back' ⟨rfl,_,_,.rfl,hq a r⟩
theorem rd_of {a r:Addr}(hl:t.length≤16000000)(ho:okV df=true):RD a r t df ip fun k e=>(a,cur (tx t) k)::(r,rdr a df ip e)::σ :=
 ⟨fun _ _=>.head _,fun _ _ _=>.head,fun _ _=>.tail _ (.head _),fun _ _ _=>.tail .head,hl,ho⟩
theorem ok_df:okV (dfV w D)=true:=by cases D with | none=>rfl | some p=>obtain ⟨x,y⟩:=p;rfl
theorem k_readRegexA {y:List Nat}{u:Tr}{B s q:Nat}(al:AL D y u B s y.length)(hy:y.length≤8000)(hp:B≤20)(hs:s≤20)(hq3:3*B≤q)(hq:Q (nv u) σ):CALL w (fr w.params) (q+16) (.ref 913) [.str (tx y),dfV w D] σ Q:=by
 refine O_read_regex ?_
 refine ⟨k_Reader (d:=q+11) fun a r=>?_⟩
 have H:RD a r y (dfV w D) false fun k e=>(a,cur (tx y) k)::(r,rdr a (dfV w D) false e)::σ:=rd_of (by exact zz6) ok_df
 refine mO (H.rc 0 0) ⟨r_alts (r_choice 7999 (by decide)) (by decide) (al.up hy) H (k:=0) (e:=0) (z:=[]) (by simp) rfl (fun x hx=>by cases hx) (by lia) hs hq3 ?_⟩
 refine gA (H.rc _ _) ?_
 refine mO (H.c _ _) ⟨c_done (H.cs (e:=(0:Nat))) ?_⟩
 refine bf _ (by rw [decide_eq_true (by exact Nat.le_add_left _ _)];rfl) ?_
 exact back2 hq
end Hd
end
section
open PySem PySem.W PySem.Calls PyProof.Rows NN
namespace Hd
variable {w:World}{d:Nat}{Q:V→NN.St→Prop}{v:V}{t:List Nat}{df:V}{ip:Bool}{e:Nat}{D:Option (Tr×Tr)}{σ:NN.St}
theorem k_heardA {y:List Nat}{u:Tr}{B s q:Nat}(al:AL D y u B s y.length)(hy:y.length≤8000)(hp:B≤20)(hs:s≤20)(hq3:3*B≤q)(hz:sz u≤100)(hh:ht u≤q)(hq:Q (tv u) σ):CALL w (fr w.params) (q+17) (.ref 1013) [.str (tx y),dfV w D] σ Q:=by
 refine O__law_heard ?_
 refine ⟨k_readRegexA al hy hp hs hq3 ?_⟩
 exact mTold (k_told_ (d:=q+13) (sz u) (Nat.le_refl _) (by lia) hz (back' hq))
theorem k_heard {y:List Nat}{u:Tr}{ps:List (Nat×Nat)}{s q:Nat}(h:Ps D 0 y u ps s)(hy:y.length≤8000)(hp:ps.length≤20)(hs:s≤20)(hq3:3*ps.length≤q)(hz:sz u≤100)(hh:ht u≤q)(hq:Q (tv u) σ):CALL w (fr w.params) (q+17) (.ref 1013) [.str (tx y),dfV w D] σ Q :=
 k_heardA h.al hy hp hs hq3 hz hh hq
end Hd
end
section
open PySem PySem.W PySem.Calls PyProof.Rows NN
namespace Hd
variable {w:World}{d:Nat}{Q:V→NN.St→Prop}{v:V}{σ:NN.St}
theorem mrg_gap:∀ (r l:Sp) (q:Nat×Nat),(l++[q]++r).Pairwise (fun p q=>p.2+1<q.1)→r.foldl stM (l++[q])=l++[q]++r
 |[],l,q,_=>by simp
 |p::r,l,q,h=>by
  have hq:q.2+1<p.1:=(List.pairwise_append.mp h).2.2 q (by simp) p (.head _)
  have e:stM (l++[q]) p=l++[q]++[p]:=by
   unfold stM
   rw [List.getLast?_append]
   simp only [List.getLast?_singleton,Option.some_or]
   rw [if_neg (by lia)]
  rw [List.foldl_cons,e,mrg_gap r (l++[q]) p (by simpa using h)]
  simp
theorem mrg_self {s:Sp}(h:s.Pairwise fun p q=>p.2+1<q.1):mrg s=s:=by
 cases s with
 |nil=>rfl
 |cons p s =>
  unfold mrg
  show s.foldl stM [p]=_
  exact mrg_gap s [] p h
theorem k_node:∀ {t:Tr} {d:Nat} {σ:NN.St} {Q:V→NN.St→Prop},OkT t→ht t≤d→Q (nv t) σ→CALL w (fr w.params) (d+5) (.ref 999) [tv t] σ Q:=by
 intro t
 induction t with
 |emp =>
  intro d σ Q ok hd hq
  refine O__law_node ?_
  refine ⟨_,tq0,?_⟩
  refine bf _ (by rw [tx_beq];rfl) ?_
  refine bt _ (by rw [tx_beq];rfl) ?_
  exact ⟨k_Empty (back' hq)⟩
 |nev =>
  intro d σ Q ok hd hq
  refine O__law_node ?_
  refine ⟨_,tq0,?_⟩
  refine bf _ (by rw [tx_beq];rfl) ?_
  refine bf _ (by rw [tx_beq];rfl) ?_
  refine bt _ (by rw [tx_beq];rfl) ?_
  exact ⟨k_Never (back' hq)⟩
 |chs s =>
  intro d σ Q ok hd hq
  refine xAAooAoo ok fun h1 h2 h3 h4=>?_
  refine O__law_node ?_
  refine ⟨_,tq0,?_⟩
  refine bt _ (by rw [tx_beq];rfl) ?_
  refine ⟨_,tq1,?_⟩
  refine ⟨k_made (s:=s) rfl (fun p hp=>⟨(h1 p hp).1,by have:=(h1 p hp).2;exact zz4⟩) (h4.imp_of_mem fun {p q} hp hq' h=>by have:=(h1 p hp).1;lia) (by exact zz7) ?_⟩
  rw [mrg_self h4]
  exact ⟨k_Chars (back' hq)⟩
 |cat a b iha ihb =>
  intro d σ Q ok hd hq
  refine xEo (⟨d - 1,by simp only [htE4] at hd;lia⟩:∃ e,d=e+1) fun d er1=>?_;subst er1
  simp only [htE4] at hd
  refine O__law_node ?_
  refine ⟨_,tq0,?_⟩
  refine bf _ (by rw [tx_beq];rfl) ?_
  refine bf _ (by rw [tx_beq];rfl) ?_
  refine bf _ (by rw [tx_beq];rfl) ?_
  refine bt _ (by rw [tx_beq];rfl) ?_
  refine ⟨_,tq1,?_⟩
  refine ⟨iha ok.1 (by lia) ?_⟩
  refine ⟨tv b,⟨⟨by decide,by decide⟩,2,by simp [seqIndex?],rfl⟩,?_⟩
  refine ⟨ihb ok.2 (by lia) ?_⟩
  exact ⟨k_Cat (d:=d+3) (back' hq)⟩
 |alt a b iha ihb =>
  intro d σ Q ok hd hq
  refine xEo (⟨d - 1,by simp only [htE5] at hd;lia⟩:∃ e,d=e+1) fun d er1=>?_;subst er1
  simp only [htE5] at hd
  refine O__law_node ?_
  refine ⟨_,tq0,?_⟩
  refine bf _ (by rw [tx_beq];rfl) ?_
  refine bf _ (by rw [tx_beq];rfl) ?_
  refine bf _ (by rw [tx_beq];rfl) ?_
  refine bf _ (by rw [tx_beq];rfl) ?_
  refine bt _ (by rw [tx_beq];rfl) ?_
  refine ⟨_,tq1,?_⟩
  refine ⟨iha ok.1 (by lia) ?_⟩
  refine ⟨tv b,⟨⟨by decide,by decide⟩,2,by simp [seqIndex?],rfl⟩,?_⟩
  refine ⟨ihb ok.2 (by lia) ?_⟩
  exact ⟨k_Alt (d:=d+3) (back' hq)⟩
 |star a iha =>
  intro d σ Q ok hd hq
  refine xEo (⟨d - 1,by simp only [htE6] at hd;lia⟩:∃ e,d=e+1) fun d er1=>?_;subst er1
  simp only [htE6] at hd
  refine O__law_node ?_
  refine ⟨_,tq0,?_⟩
  refine bf _ (by rw [tx_beq];rfl) ?_
  refine bf _ (by rw [tx_beq];rfl) ?_
  refine bf _ (by rw [tx_beq];rfl) ?_
  refine bf _ (by rw [tx_beq];rfl) ?_
  refine bf _ (by rw [tx_beq];rfl) ?_
  refine bt _ (by rw [tx_beq];rfl) ?_
  refine ⟨_,tq1,?_⟩
  refine ⟨iha ok (by exact zz4) ?_⟩
  exact ⟨k_Star (d:=d+3) (back' hq)⟩
 |plus a iha =>
  intro d σ Q ok hd hq
  refine xEo (⟨d - 1,by simp only [htE7] at hd;lia⟩:∃ e,d=e+1) fun d er1=>?_;subst er1
  simp only [htE7] at hd
  refine O__law_node ?_
  refine ⟨_,tq0,?_⟩
  refine bf _ (by rw [tx_beq];rfl) ?_
  refine bf _ (by rw [tx_beq];rfl) ?_
  refine bf _ (by rw [tx_beq];rfl) ?_
  refine bf _ (by rw [tx_beq];rfl) ?_
  refine bf _ (by rw [tx_beq];rfl) ?_
  refine bf _ (by rw [tx_beq];rfl) ?_
  refine bt _ (by rw [tx_beq];rfl) ?_
  refine ⟨_,tq1,?_⟩
  refine ⟨iha ok (by lia) ?_⟩
  exact ⟨k_Plus (d:=d+3) (back' hq)⟩
 |opt a iha =>
  intro d σ Q ok hd hq
  refine xEo (⟨d - 1,by simp only [htE8] at hd;lia⟩:∃ e,d=e+1) fun d er1=>?_;subst er1
  simp only [htE8] at hd
  refine O__law_node ?_
  refine ⟨_,tq0,?_⟩
  refine bf _ (by rw [tx_beq];rfl) ?_
  refine bf _ (by rw [tx_beq];rfl) ?_
  refine bf _ (by rw [tx_beq];rfl) ?_
  refine bf _ (by rw [tx_beq];rfl) ?_
  refine bf _ (by rw [tx_beq];rfl) ?_
  refine bf _ (by rw [tx_beq];rfl) ?_
  refine bf _ (by rw [tx_beq];rfl) ?_
  refine bt _ (by rw [tx_beq];rfl) ?_
  refine ⟨_,tq1,?_⟩
  refine ⟨iha ok (by lia) ?_⟩
  exact ⟨k_Opt (d:=d+3) (back' hq)⟩
 |rep a lo hi iha =>
  intro d σ Q ok hd hq
  refine xEo (⟨d - 1,by simp only [htE9] at hd;lia⟩:∃ e,d=e+1) fun d er1=>?_;subst er1
  simp only [htE9] at hd
  refine O__law_node ?_
  refine ⟨_,tq0,?_⟩
  refine bf _ (by rw [tx_beq];rfl) ?_
  refine bf _ (by rw [tx_beq];rfl) ?_
  refine bf _ (by rw [tx_beq];rfl) ?_
  refine bf _ (by rw [tx_beq];rfl) ?_
  refine bf _ (by rw [tx_beq];rfl) ?_
  refine bf _ (by rw [tx_beq];rfl) ?_
  refine bf _ (by rw [tx_beq];rfl) ?_
  refine bf _ (by rw [tx_beq];rfl) ?_
  refine ⟨_,tq1,?_⟩
  refine ⟨iha ok.1 (by lia) ?_⟩
  refine ⟨.int lo,⟨⟨by decide,by decide⟩,2,by simp [seqIndex?],rfl⟩,?_⟩
  refine ⟨hiV hi,⟨⟨by decide,by decide⟩,3,by simp [seqIndex?],rfl⟩,?_⟩
  exact ⟨k_Repeat (d:=d+2) ok.2.1 ok.2.2 (back' hq)⟩
end Hd
end
section
open PySem PySem.W PySem.Calls PyProof.Rows NN
namespace Hd
variable {w:World}{d:Nat}{Q:V→NN.St→Prop}{v:V}{σ:NN.St}
theorem ctl_m:∀ c,c<128→(c≤32∨c=127)→¬ (c≠32∧(c∈marks∨c=92)):=by decide
theorem ctl_r:∀ c,c<128→(c≤32∨c=127)→c≠32→c<32∨126<c:=by decide
theorem k_lawSign {c:Nat}(h:c<128)(hq:Q (.str (tx (shs c))) σ):CALL w (fr w.params) (d+1) (.ref 1020) [.int c] σ Q:=by
 unfold shs at hq
 refine O__law_sign ?_
 refine ⟨⟨by simp,by lia⟩,?_⟩
 refine bq (p:=c=9) _ (by show ((c:Int) == 9)=_;rw [Bool.eq_iff_iff];simp;lia) (fun h1=>?_) fun h1=>?_
 ·subst h1
  refine bt _ rfl ?_
  intro a
  refine ⟨_,_,⟨.lst⟩,?_⟩
  exact ⟨_,tupN (c:=cx0 w tb d) (i:=0) rfl (by decide),back' hq⟩
 refine bq (p:=c=10) _ (by show ((c:Int) == 10)=_;rw [Bool.eq_iff_iff];simp;lia) (fun h2=>?_) fun h2=>?_
 ·subst h2
  intro a
  refine ⟨_,_,⟨.lst⟩,?_⟩
  exact ⟨_,tupN (c:=cx0 w tb d) (i:=1) rfl (by decide),back' hq⟩
 have hexp:(c≤32∨c=127)→(if c=32 then [92,120,50,48] else if c=10 then [92,110] else if c=9 then [92,116] else if c∈marks∨c=92 then [92,c] else if c<32∨126<c then esc c else [c])=esc c:=by
  intro h3
  by_cases h4:c=32
  ·subst h4;rfl
  ·rw [if_neg h4,if_neg h2,if_neg h1,if_neg fun q=>ctl_m c h h3 ⟨h4,q⟩,if_pos (ctl_r c h h3 h4)]
 refine bq (p:=c≤32) _ (by show decide ((c:Int)≤32)=_;rw [Bool.eq_iff_iff];simp;lia) (fun h3=>?_) fun h3=>?_
 ·rw [hexp (.inl h3)] at hq
  refine bt _ rfl ?_
  refine ⟨⟨by decide,rfl⟩,_,⟨fd⟩,_,⟨hx_q h⟩,?_⟩
  refine ⟨lb,⟨by decide⟩,_,⟨fm⟩,_,⟨hx_r⟩,?_⟩
  exact ⟨lb,back' hq⟩
 refine bq (p:=c=127) _ (by show ((c:Int) == 127)=_;rw [Bool.eq_iff_iff];simp;lia) (fun h4=>?_) fun h4=>?_
 ·rw [hexp (.inr h4)] at hq
  refine ⟨⟨by decide,rfl⟩,_,⟨fd⟩,_,⟨hx_q h⟩,?_⟩
  refine ⟨lb,⟨by decide⟩,_,⟨fm⟩,_,⟨hx_r⟩,?_⟩
  exact ⟨lb,back' hq⟩
 rw [if_neg (by lia),if_neg h2,if_neg h1] at hq
 refine bq (p:=c∈marks∨c=92) _ (by show inS (tx [c]) (tx [34,91,93,40,41,123,125,46,42,43,63,124,94,36,47,60,37,92])=_;rw [inS_tx];congr 1;exact propext ((List.mem_append (s:=marks) (t:=[92])).trans (or_congr Iff.rfl List.mem_singleton))) (fun h5=>?_) fun h5=>?_
 ·rw [if_pos h5] at hq
  exact ⟨lb,back' hq⟩
 ·rw [if_neg h5,if_neg (by lia)] at hq
  exact ⟨lb,back' hq⟩
end Hd
end
section
open PySem PySem.W PySem.Calls PyProof.Rows NN
namespace Hd
variable {w:World}{d:Nat}{Q:V→NN.St→Prop}{v:V}{a r:Addr}{t:List Nat}{df:V}{ip:Bool}{G:Int→Int→NN.St}{e:Int}
noncomputable def overB:List Nat→Bool
 |[]=>true
 |c::_=>decide (c∈[32,9,10])
theorem r_isOver (H:RD a r t df ip G){k:Nat}{z:List Nat}(ht:t.drop k=z)(hq:Q (.bool (overB z)) (G k e)):CALL w (fr w.params) (d+2) (.ref 802) [.own r] (G k e) Q:=by
 refine O_RegexReader_is_over ?_
 refine gA (H.rc _ _) ?_
 refine mO (H.c _ _) ⟨c_peek (H.cs (e:=e)) ?_⟩
 cases z with
 |nil =>
  rw [sg_nil ht]
  refine bt _ (by rw [eqT (a:=[])];rfl) (back hq ?_)
  exact congrArg V.bool (by rw [eqT (a:=[])];rfl)
 |cons c z =>
  rw [sg_hd ht]
  refine bf _ (by rw [eqT (a:=[c])];rfl) (back hq ?_)
  exact congrArg V.bool (inT (c:=c))
end Hd
end
section
open PySem PySem.W PySem.Calls PyProof.Rows NN
namespace Hd
variable {w:World}{d:Nat}{Q:V→NN.St→Prop}{v:V}{a r:Addr}{t:List Nat}{σ:NN.St}
inductive TE:Option Tr→List Nat→Nat→Prop
 |no {z:List Nat}:overB z=true→TE none z 0
 |le {z:List Nat}:overB z=true→TE (some leT) (36::z) 1
 |tr {y z:List Nat} {x:Tr} {ps:List (Nat×Nat)} {s:Nat}:Ps none 0 y x ps s→y.length≤8000→ps.length≤20→s≤20→overB z=true→TE (some x) (47::(y++z)) (y.length+1)
theorem ov_st {z:List Nat}{e:Nat}(h:overB z=true):stopB true e z=true∧(∀ x,z≠124::x)∧(∀ x,z≠47::x)∧∀ x,z≠36::x:=by
 cases z with
 |nil=>exact ⟨rfl,(fun x h=>by cases h),(fun x h=>by cases h),(fun x h=>by cases h)⟩
 |cons c z =>
  have:=of_decide_eq_true (show decide (c∈[32,9,10])=true from h)
  have h2:=(show ∀ x∈[32,9,10],x≠124∧x≠47∧x≠36 by decide) c this
  refine ⟨?_,fun x h=>h2.1 (List.cons.inj h).1,fun x h=>h2.2.1 (List.cons.inj h).1,fun x h=>h2.2.2 (List.cons.inj h).1⟩
  simp only [stopB,Bool.true_and,this,decide_true,Bool.true_or,Bool.or_true]
theorem TE.st {x:Option Tr}{z:List Nat}{n:Nat}(h:TE x z n):stopB true 0 z=true∧∀ x,z≠124::x:=by
 cases h with
 |no h=>have:=ov_st (e:=0) h;exact ⟨this.1,this.2.1⟩
 |le h=>exact ⟨by simp [stopB],fun x h=>by cases h⟩
 |tr=>exact ⟨by simp [stopB],fun x h=>by cases h⟩
theorem Ps.ne {D:Option (Tr×Tr)}{y:List Nat}{u:Tr}{ps:List (Nat×Nat)}{s:Nat}(h:Ps D 0 y u ps s):1≤y.length:=by
 refine xEEAoAoo (h.alts rfl) fun x0 xs e1 e2 e3=>?_
 refine xEEAoAoAoo (e3 x0 (.head _)) fun p q h1 h2 h3 h4=>?_
 refine xEEAoAoo (h1.rows rfl) fun y0 ys f1 f2 f3=>?_
 have:=(f3 y0 (.head _)).len
 rw [e1,f1];simp only [List.length_append];lia
theorem eqI {i:Int}{a b:Nat}(e1:i=a:=by rfl){j:Int}(e2:j=b:=by rfl):(i == j)=decide (a=b):=by rw [e1,e2,Bool.eq_iff_iff];simp only [beq_iff_eq,decide_eq_true_eq];lia
theorem k_readPattern {y z:List Nat}{b:Tr}{ps:List (Nat×Nat)}{s q k n:Nat}{bg:Bool}{x:Option Tr}(h:Ps none 0 y b ps s)(hy:y.length≤8000)(hp:ps.length≤20)(hs:s≤20)(h94:∀ x,y≠94::x)
  (ht:t.drop k=(if bg=true then [94] else [])++(y++z)) (hl:t.length≤16000000) (hz:TE x z n) (hq3:60≤q)
  (hq:Q (.tup [pv b bg x,.int ((k+(if bg=true then 1 else 0)+y.length+n:Nat):Int)]) σ):CALL w (fr w.params) (q+16) (.ref 921) [.str (tx t),.int k] σ Q:=by
 refine O_read_pattern_1 ?_
 refine ⟨k_Reader (d:=q+11) fun a r=>?_⟩
 have H:RD a r t (dfV w none) true fun k e=>(a,cur (tx t) k)::(r,rdr a (dfV w none) true e)::σ:=rd_of hl rfl
 refine gA (H.rc k 0) ?_
 have hc:decide ((t.drop k).take [94].length=[94])=bg:=by
  cases bg with
  |true=>exact st_y ht
  |false =>
   rw [ht]
   have:=h.ne
   cases y with
   |nil=>simp at this
   |cons c y =>
    refine decide_eq_false fun e=>?_
    exact h94 y (by rw [(List.cons.inj (show c::_=94::_ from e)).1])
 refine mO (H.c _ _) ⟨c_skip (H.cs (e:=0)) (k:=k) (ws:=[94]) hc ?_⟩
 have hk:t.drop (k+(if bg=true then 1 else 0))=y++z:=dr ht (by cases bg<;>rfl)
 rw [show (if bg=true then [94].length else 0)=(if bg=true then 1 else 0) by rfl]
 generalize k+(if bg=true then 1 else 0)=k at hk hq ⊢
 refine xAoo hz.st fun hst hnb=>?_
 have hne:=h.ne
 refine gA (H.c _ _) ?_
 refine mO (H.rc _ _) ⟨r_choice 8000 (Nat.le_refl _) h hy H (q:=q) (k:=k) (e:=0) hk hst hnb (by lia) hs (by lia) ?_⟩
 have hk2:t.drop (k+y.length)=z:=dr hk rfl
 revert hk2 hq
 refine gen (k+y.length) fun K hK hq hk2=>?_
 refine gA (H.c _ _) ?_
 refine bf _ (by rw [eqI (a:=K) (b:=k)];exact decide_eq_false (by lia)) ?_
 refine gA (H.c _ _) ?_
 cases hz with
 |no ho =>
  have ho':=ov_st (e:=0) ho
  refine mO (H.c _ _) ⟨c_skipN (H.cs (e:=0)) (k:=K) (ws:=[47]) (st_z hk2 ho'.2.2.1) ?_⟩
  refine bf _ rfl ?_
  refine gA (H.c _ _) ?_
  refine mO (H.c _ _) ⟨c_skipN (H.cs (e:=0)) (k:=K) (ws:=[36]) (st_z hk2 ho'.2.2.2) ?_⟩
  refine bf _ rfl ?_
  refine mO (H.rc _ _) ⟨r_isOver H (e:=0) (k:=K) hk2 ?_⟩
  refine bf _ (by rw [ho];rfl) ?_
  refine ⟨k_Pattern ?_⟩
  refine gA (H.c _ _) ?_
  exact back2 hq
 |@le z ho =>
  have hk3:t.drop (K+1)=z:=dr (x:=[36]) hk2 rfl
  refine mO (H.c _ _) ⟨c_skipN (H.cs (e:=0)) (k:=K) (ws:=[47]) (st_z hk2 (fun x h=>by cases h)) ?_⟩
  refine bf _ rfl ?_
  refine gA (H.c _ _) ?_
  refine mO (H.c _ _) ⟨c_skip (H.cs (e:=0)) (k:=K) (ws:=[36]) (b:=true) (st_y hk2) ?_⟩
  refine bt _ rfl ?_
  refine bf _ rfl ?_
  refine mO (H.rc _ _) ⟨r_isOver H (e:=0) (k:=K+1) hk3 ?_⟩
  refine bf _ (by rw [ho];rfl) ?_
  refine ⟨k_lineEnd (d:=q+10) ?_⟩
  refine mO (H.rc _ _) ⟨r_isOver H (e:=0) (k:=K+1) hk3 ?_⟩
  refine bf _ (by rw [ho];rfl) ?_
  refine ⟨k_Pattern (c:=nv leT) ?_⟩
  refine gA (H.c _ _) ?_
  exact back2 hq
 |@tr y' z' x ps' s' h' g1 g2 g3 ho =>
  have ho':=ov_st (e:=0) ho
  have hk3:t.drop (K+1)=y'++z':=dr (x:=[47]) hk2 rfl
  have hk4:t.drop (K+1+y'.length)=z':=dr hk3 rfl
  have hne':=h'.ne
  refine mO (H.c _ _) ⟨c_skip (H.cs (e:=0)) (k:=K) (ws:=[47]) (b:=true) (st_y hk2) ?_⟩
  refine bt _ rfl ?_
  refine mO (H.rc _ _) ⟨r_choice 8000 (Nat.le_refl _) h' g1 H (q:=q) (k:=K+1) (e:=0) hk3 ho'.1 ho'.2.1 (by lia) g3 (by lia) ?_⟩
  refine gA (H.c _ _) ?_
  refine bf _ (by rw [eqI (a:=K+1+y'.length) (b:=K+1)];exact decide_eq_false (by lia)) ?_
  refine gA (H.c _ _) ?_
  refine mO (H.c _ _) ⟨c_skipN (H.cs (e:=0)) (k:=K+1+y'.length) (ws:=[36]) (st_z hk4 ho'.2.2.2) ?_⟩
  refine bf _ rfl ?_
  refine mO (H.rc _ _) ⟨r_isOver H (e:=0) (k:=K+1+y'.length) hk4 ?_⟩
  refine bf _ (by rw [ho];rfl) ?_
  refine ⟨k_Pattern (c:=nv x) ?_⟩
  refine gA (H.c _ _) ?_
  rw [show K+(y'.length+1)=K+1+y'.length by lia] at hq
  exact back2 hq
end Hd
end
section
open PySem PySem.W PySem.Calls PyProof.Rows NN
namespace Hd
theorem all_128 {f:Nat→Bool}(h:(List.range 128).all f=true){c:Nat}(hc:c<128):f c=true:=List.all_eq_true.mp h c (List.mem_range.mpr hc)
noncomputable def escB (y:List Nat)(c:Nat):Bool:=decide (c<128∧((y=[110]∧c=10)∨(y=[116]∧c=9)∨y=[120,hx (c / 16),hx (c % 16)]∨(y=[c]∧c∉[110,116,114,102,118,97,98]∧c∉[48,49,50,51,52,53,54,55]∧c≠120∧c≠10)))
theorem esc_of {y:List Nat}{c:Nat}(h:escB y c=true):Esc y c:=by
 obtain ⟨h0,⟨rfl,rfl⟩ | ⟨rfl,rfl⟩ | rfl | ⟨rfl,h1,h2,h3,h4⟩⟩:=of_decide_eq_true h
 ·exact .n
 ·exact .t
 ·have e:16*(c / 16)+c % 16=c:=Nat.div_add_mod c 16
  have:=Esc.x (a:=c / 16) (b:=c % 16) (Nat.div_lt_of_lt_mul (Nat.lt_trans h0 (by decide))) (Nat.mod_lt _ (by decide)) (e.symm▸h0:16*(c / 16)+c % 16<128)
  rw [e] at this
  exact this
 ·exact .c h0 h1 h2 h3 h4
noncomputable def cdB (y:List Nat)(c:Nat)(bad:List Nat):Bool :=
 match y with
 |[]=>false
 |x::z=>decide (x∉bad) && ((decide (z=[]∧x=c∧c≠92∧c≠10∧c<128)) || (x == 92 && escB z c))
theorem cd_of {y bad:List Nat}{c:Nat}(h:cdB y c bad=true):Cd y c∧∃ x z,y=x::z∧x∉bad:=by
 cases y with
 |nil=>cases h
 |cons x z =>
  have h:=(Bool.and_eq_true_iff).mp h
  refine ⟨?_,x,z,rfl,of_decide_eq_true h.1⟩
  rcases (Bool.or_eq_true_iff).mp h.2 with h | h
  ·refine xAoAoAoAoo (of_decide_eq_true h) fun er1 er2 h1 h2 h3=>?_;subst er1;subst er2
   exact .raw h1 h2 h3
  ·have h:=(Bool.and_eq_true_iff).mp h
   rw [eq_of_beq h.1]
   exact .esc (esc_of h.2)
theorem shs_cd {c:Nat}(h:c<128):Cd (shs c) c∧HS (shs c):=cd_of (all_128 (f:=fun c=>cdB (shs c) c bad2) (by decide +kernel) h)
theorem shc_cd {c:Nat}(h:c<128):Cd (shc c) c∧HO (shc c):=by
 refine xAoEEAoo (cd_of (all_128 (f:=fun c=>cdB (shc c) c [93,91,45,94]) (by decide +kernel) h)) fun h x z e hb=>?_
 exact ⟨h,x,z,e,nin hb (by decide),nin hb (by decide),nin hb (by decide),nin hb (by decide)⟩
noncomputable def its (p:Nat×Nat):List (List Nat×(Nat×Nat)):=if p.1=p.2 then [(shc p.1,(p.1,p.1))] else if p.1+1=p.2 then [(shc p.1,(p.1,p.1)),(shc p.2,(p.2,p.2))] else [(shc p.1++45::shc p.2,p)]
theorem its_ci {p:Nat×Nat}(h:p.1≤p.2∧p.2<128):∀ x∈its p,CI x.1 x.2∧p.1≤x.2.1∧x.2.1≤x.2.2∧x.2.2≤p.2:=by
 have h1:=shc_cd (c:=p.1) (by lia)
 have h2:=shc_cd (c:=p.2) (by exact zze)
 unfold its
 split
 ·intro x hx;rw [List.mem_singleton.mp hx];exact ⟨.one h1.1 h1.2,by simp;exact zzd⟩
 split
 ·intro x hx
  rcases List.mem_cons.mp hx with rfl | hx
  ·exact ⟨.one h1.1 h1.2,by simp;exact zzd⟩
  ·rw [List.mem_singleton.mp hx];exact ⟨.one h2.1 h2.2,by simp;lia⟩
 ·intro x hx;rw [List.mem_singleton.mp hx];exact ⟨.two h1.1 h1.2 h2.1 h2.2 h.1,Nat.le_refl _,h.1,Nat.le_refl _⟩
set_option tactic.hygienic true in
theorem its_fl {p:Nat×Nat}(h:p.1≤p.2):fl (its p)=(itp p).flatten:=by
 unfold its itp
 split
 ·next e=>rw [if_neg (by lia),if_neg (by lia)];simp [fl]
 split
 ·next e=>rw [if_neg (by lia),if_pos (by lia)];simp [fl]
 ·rw [if_pos (by lia),if_pos (by lia)];simp [fl]
end Hd
end
section
open PySem PySem.W PySem.Calls PyProof.Rows NN
namespace Hd
variable {D:Option (Tr×Tr)}
noncomputable def RdN (D:Option (Tr×Tr))(l:Nat)(y:List Nat)(n s z:Nat):Prop:=∃ u ps,Ps D l y u ps s∧ps.length=n∧sz u=z
theorem rd_app {l:Nat}{x:List Nat}{t:Tr}{ps:List (Nat×Nat)}{s:Nat}(h:Ps D l x t ps s):l≤1→∀ {y:List Nat} {n s' z:Nat},RdN D 2 y n s' z→RdN D l (x++y) (ps.length+n) (s+s') (sz t+z+1):=by
 induction h with
 |row1 h _ =>
  rintro _ y n s' z ⟨u,qs,g,rfl,rfl⟩
  exact ⟨_,_,.rowS (.row1 h) g,by rw [List.length_append,sh_len],rfl⟩
 |rowS h1 h2 _ _ =>
  rintro _ y n s' z ⟨u,qs,g,rfl,rfl⟩
  exact ⟨_,_,.rowS (.rowS h1 h2) g,by rw [List.length_append (as:=_++_),sh_len],rfl⟩
 |alt1 h ih =>
  intro _ y n s' z hy
  refine xEEAoAoo (ih (by decide) hy) fun u rs g e e2=>?_
  exact ⟨u,rs,.alt1 g,e,e2⟩
 |@altS x x' t t' ps ps' s s₂ h1 h2 _ ih =>
  intro _ y n s' z hy
  refine xEEAoAoo (ih (by decide) hy) fun u rs g e e2=>?_
  refine ⟨.alt t u,ps++sh (x.length+1) rs,?_,?_,by simp only [szE1,szE2,szE3,szE4,szE5,szE6,szE7,szE8,szE9];lia⟩
  ·have:=Ps.altS h1 g
   rw [show (x++124::x')++y=x++124::(x'++y) by simp,Nat.add_assoc]
   exact this
  ·rw [List.length_append,sh_len,e,List.length_append,sh_len];lia
 |_=>intro h;lia
theorem rd_suf {l:Nat}{x:List Nat}{t:Tr}{ps:List (Nat×Nat)}{s:Nat}(h:Ps D l x t ps s):∀ {k:Lp},lpO k→RdN D l (x++lpT k) ps.length (s+1) (sz t+1):=by
 have two:∀ {x:List Nat} {t:Tr} {ps:List (Nat×Nat)} {s:Nat},Ps D 2 x t ps s→∀ {k:Lp},lpO k→RdN D 2 (x++lpT k) ps.length (s+1) (sz t+1):=by intro _ _ _ _ h k hk;exact ⟨_,_,.suf h hk,rfl,by cases k<;>rfl⟩
 induction h with
 |atom h=>intro k hk;exact two (.atom h) hk
 |emp=>intro k hk;exact two .emp hk
 |grp h _=>intro k hk;exact two (.grp h) hk
 |suf h hl _=>intro k hk;exact two (.suf h hl) hk
 |row1 h ih =>
  intro k hk
  refine xEEAoAoo (ih hk) fun u rs g e e2=>?_
  exact ⟨u,rs,.row1 g,e,e2⟩
 |@rowS x x' t t' ps ps' s s₂ h1 h2 _ ih =>
  intro k hk
  refine xEEAoAoo (ih hk) fun u rs g e e2=>?_
  refine ⟨.cat t u,ps++sh x.length rs,?_,?_,by simp only [szE1,szE2,szE3,szE4,szE5,szE6,szE7,szE8,szE9];lia⟩
  ·have:=Ps.rowS h1 g
   rw [List.append_assoc,Nat.add_assoc];exact this
  ·rw [List.length_append,sh_len,e,List.length_append,sh_len]
 |alt1 h ih =>
  intro k hk
  refine xEEAoAoo (ih hk) fun u rs g e e2=>?_
  exact ⟨u,rs,.alt1 g,e,e2⟩
 |@altS x x' t t' ps ps' s s₂ h1 h2 _ ih =>
  intro k hk
  refine xEEAoAoo (ih hk) fun u rs g e e2=>?_
  refine ⟨.alt t u,ps++sh (x.length+1) rs,?_,?_,by simp only [szE1,szE2,szE3,szE4,szE5,szE6,szE7,szE8,szE9];lia⟩
  ·have:=Ps.altS h1 g
   rw [show (x++124::x')++lpT k=x++124::(x'++lpT k) by simp,Nat.add_assoc];exact this
  ·rw [List.length_append,sh_len,e,List.length_append,sh_len]
end Hd
end
section
open PySem PySem.W PySem.Calls PyProof.Rows NN
namespace Hd
variable {D:Option (Tr×Tr)}
theorem rd_pre {l:Nat}{y:List Nat}{t:Tr}{qs:List (Nat×Nat)}{s':Nat}(h:Ps D l y t qs s'):∀ {x:List Nat} {n s z:Nat},RdN D 1 x n s z→(l=2→RdN D 1 (x++y) (n+qs.length) (s+s') (z+sz t+1))∧(l≤1→RdN D l (x++y) (n+qs.length) (s+s') (z+sz t+1)):=by
 have two:∀ {y:List Nat} {t:Tr} {qs:List (Nat×Nat)} {s':Nat},Ps D 2 y t qs s'→∀ {x:List Nat} {n s z:Nat},RdN D 1 x n s z→RdN D 1 (x++y) (n+qs.length) (s+s') (z+sz t+1):=by
  rintro y t qs s' h x n s z ⟨u,ps,g,rfl,rfl⟩
  exact ⟨_,_,.rowS g h,by rw [List.length_append,sh_len],rfl⟩
 induction h with
 |atom h=>intro x n s z hx;exact ⟨fun _=>two (.atom h) hx,fun h=>by lia⟩
 |emp=>intro x n s z hx;exact ⟨fun _=>two .emp hx,fun h=>by lia⟩
 |grp h _=>intro x n s z hx;exact ⟨fun _=>two (.grp h) hx,fun h=>by lia⟩
 |suf h hl _=>intro x n s z hx;exact ⟨fun _=>two (.suf h hl) hx,fun h=>by lia⟩
 |row1 h _=>intro x n s z hx;exact ⟨fun h=>(by lia),fun _=>two h hx⟩
 |@rowS y y' t t' qs qs' s₁ s₂ h1 h2 ih _ =>
  intro x n s z hx
  refine ⟨fun h=>(by lia),fun _=>?_⟩
  refine xEEAoAoo ((ih hx).2 (Nat.le_refl _)) fun u rs g e e2=>?_
  refine ⟨.cat u t',rs++sh (x++y).length qs',?_,by rw [List.length_append,sh_len,e,List.length_append,sh_len];lia,by simp only [szE1,szE2,szE3,szE4,szE5,szE6,szE7,szE8,szE9];lia⟩
  have:=Ps.rowS g h2
  rw [←List.append_assoc,←Nat.add_assoc];exact this
 |alt1 h ih =>
  intro x n s z hx
  refine ⟨fun h=>(by lia),fun _=>?_⟩
  refine xEEAoAoo ((ih hx).2 (Nat.le_refl _)) fun u rs g e e2=>?_
  exact ⟨u,rs,.alt1 g,e,e2⟩
 |@altS y y' t t' qs qs' s₁ s₂ h1 h2 ih _ =>
  intro x n s z hx
  refine ⟨fun h=>(by lia),fun _=>?_⟩
  refine xEEAoAoo ((ih hx).2 (Nat.zero_le _)) fun u rs g e e2=>?_
  refine ⟨.alt u t',rs++sh ((x++y).length+1) qs',?_,by rw [List.length_append,sh_len,e,List.length_append,sh_len];lia,by simp only [szE1,szE2,szE3,szE4,szE5,szE6,szE7,szE8,szE9];lia⟩
  have:=Ps.altS g h2
  rw [←List.append_assoc,←Nat.add_assoc];exact this
theorem rd_bar {l:Nat}{y:List Nat}{t:Tr}{qs:List (Nat×Nat)}{s':Nat}(h:Ps D l y t qs s'):l=0→∀ {x:List Nat} {n s z:Nat},RdN D 0 x n s z→RdN D 0 (x++124::y) (n+qs.length) (s+s') (z+sz t+1):=by
 induction h with
 |alt1 h _ =>
  rintro _ x n s z ⟨u,ps,g,rfl,rfl⟩
  exact ⟨_,_,.altS g h,by rw [List.length_append,sh_len],rfl⟩
 |@altS y y' t t' qs qs' s₁ s₂ h1 h2 ih _ =>
  intro _ x n s z hx
  refine xEEAoAoo (ih rfl hx) fun u rs g e e2=>?_
  refine ⟨.alt u t',rs++sh ((x++124::y).length+1) qs',?_,by rw [List.length_append,sh_len,e,List.length_append,sh_len];lia,by simp only [szE1,szE2,szE3,szE4,szE5,szE6,szE7,szE8,szE9];lia⟩
  have:=Ps.altS g h2
  rw [show x++124::(y++124::y')=(x++124::y)++124::y' by simp,←Nat.add_assoc];exact this
 |_=>intro h;cases h
noncomputable def rmv (y:List Nat)(p:Nat×Nat):List Nat:=y.take p.1++((y.drop (p.1+1)).take (p.2 - p.1 - 1)++y.drop (p.2+1))
theorem rmv_len {y:List Nat}{p:Nat×Nat}:(rmv y p).length≤y.length+y.length:=by
 unfold rmv
 rw [List.length_append,List.length_append,←Nat.add_assoc]
 refine Nat.add_le_add (Nat.le_trans (Nat.add_le_add_left (Nat.le_trans (List.take_sublist _ _).length_le ?_) _) (Nat.le_of_eq ((List.length_append ..).symm.trans (congrArg List.length (List.take_append_drop p.1 y))))) (List.drop_sublist _ _).length_le
 rw [←List.drop_drop]
 exact (List.drop_sublist _ _).length_le
theorem rmv_l {x y:List Nat}{p:Nat×Nat}(h1:p.1<p.2)(h2:p.2<x.length):rmv (x++y) p=rmv x p++y:=by
 unfold rmv
 rw [List.take_append_of_le_length (by lia),List.drop_append_of_le_length (by lia),List.drop_append_of_le_length (by assumption),List.take_append_of_le_length (by rw [List.length_drop];omega)]
 simp
theorem rmv_r {x y:List Nat}{p:Nat×Nat}{n:Nat}(hn:x.length=n)(h1:p.1<p.2):rmv (x++y) (p.1+n,p.2+n)=x++rmv y p:=by
 subst hn
 unfold rmv
 simp only
 rw [show p.1+x.length=x.length+p.1 by lia,show p.2+x.length=x.length+p.2 by lia,List.take_length_add_append,Nat.add_assoc,Nat.add_assoc,List.drop_length_add_append,List.drop_length_add_append,show x.length+p.2 - (x.length+p.1) - 1=p.2 - p.1 - 1 by lia]
 simp
end Hd
end
section
open PySem PySem.W PySem.Calls PyProof.Rows NN
namespace Hd
variable {D:Option (Tr×Tr)}
theorem Ps.ok {l:Nat}{y:List Nat}{t:Tr}{ps:List (Nat×Nat)}{s:Nat}(h:Ps D l y t ps s):∀ p∈ps,p.1<p.2∧p.2<y.length:=by
 have app:∀ {x y:List Nat} {ps qs:List (Nat×Nat)} {n:Nat},x.length≤n→(∀ p∈ps,p.1<p.2∧p.2<x.length)→(∀ p∈qs,p.1<p.2∧p.2+n<y.length)→x.length≤y.length→∀ p∈ps++sh n qs,p.1<p.2∧p.2<y.length:=by
  intro x y ps qs n _ h1 h2 h3 p hp
  rcases List.mem_append.mp hp with hp | hp
  ·have:=h1 p hp;lia
  ·refine xEAoo (List.mem_map.mp hp) fun q hq er1=>?_;subst er1
   have:=h2 q hq;simp only;lia
 induction h with
 |atom _=>intro p hp;cases hp
 |emp=>intro p hp;rw [List.mem_singleton.mp hp];exact ⟨by decide,by decide⟩
 |@grp y u ps s h ih =>
  intro p hp
  simp only [List.length_cons,List.length_append,List.length_singleton]
  rcases List.mem_append.mp hp with hp | hp
  ·refine xEAoo (List.mem_map.mp hp) fun q hq er1=>?_;subst er1
   have:=ih q hq;simp only;lia
  ·rw [List.mem_singleton.mp hp];simp only;simp
 |suf _ _ ih=>intro p hp;have:=ih p hp;rw [List.length_append];lia
 |row1 _ ih=>exact ih
 |rowS _ _ ih1 ih2=>exact app (Nat.le_refl _) ih1 (fun p hp=>by have:=ih2 p hp;rw [List.length_append];lia) (by rw [List.length_append];exact Nat.le_add_right _ _)
 |alt1 _ ih=>exact ih
 |altS _ _ ih1 ih2=>exact app (by exact Nat.le_succ _) ih1 (fun p hp=>by have:=ih2 p hp;rw [List.length_append,List.length_cons];lia) (by rw [List.length_append];exact Nat.le_add_right _ _)
theorem rd_rm {l:Nat}{y:List Nat}{t:Tr}{ps:List (Nat×Nat)}{s:Nat}(h:Ps D l y t ps s):∀ p∈ps,p.1+1<p.2→∃ n,RdN D 0 (rmv y p) n s (sz t)∧n+1=ps.length:=by
 induction h with
 |atom _=>intro p hp;cases hp
 |emp=>intro p hp h;rw [List.mem_singleton.mp hp] at h;simp at h
 |@grp y u ps s h ih =>
  intro p hp hlt
  rcases List.mem_append.mp hp with hp | hp
  ·refine xEAoo (List.mem_map.mp hp) fun q hq er1=>?_;subst er1
   have ok:=h.ok q hq
   refine xEAEEAoAooo (ih q hq (by simp only at hlt;exact zzj)) fun n u' qs g e e2 hn=>?_
   have e0:rmv (40::(y++[41])) (q.1+1,q.2+1)=40::(rmv y q++[41]):=by
    rw [show (40::(y++[41]))=[40]++(y++[41]) from rfl,rmv_r (n:=1) rfl ok.1,rmv_l ok.1 ok.2];rfl
   refine ⟨n+1,⟨_,_,by rw [e0];exact .alt1 (.row1 (.grp g)),?_,e2⟩,by rw [List.length_append,sh_len,List.length_singleton];lia⟩
   rw [List.length_append,sh_len,e,List.length_singleton]
  ·rw [List.mem_singleton.mp hp]
   refine ⟨ps.length,⟨u,ps,?_,rfl,rfl⟩,by rw [List.length_append,sh_len,List.length_singleton]⟩
   have:rmv (40::(y++[41])) (0,y.length+1)=y:=by unfold rmv;simp
   rw [this];exact h
 |@suf y u ps s l h hl ih =>
  intro p hp hlt
  have ok:=h.ok p hp
  refine xEAEEAoAooo (ih p hp hlt) fun n u' qs g e e2 hn=>?_
  exact ⟨n,by rw [rmv_l ok.1 ok.2,←e,show sz (lpA l u)=sz u'+1 by rw [e2];cases l<;>rfl];exact rd_suf g hl,hn⟩
 |row1 _ ih=>exact ih
 |@rowS y y' u u' ps ps' s s' h1 h2 ih1 ih2 =>
  intro p hp hlt
  rcases List.mem_append.mp hp with hp | hp
  ·have ok:=h1.ok p hp
   refine xEAEEAoAooo (ih1 p hp hlt) fun n v qs g e e2 hn=>?_
   refine ⟨n+ps'.length,?_,by rw [List.length_append,sh_len];lia⟩
   rw [rmv_l ok.1 ok.2,←e,show sz (.cat u u')=sz v+sz u'+1 by rw [e2];rfl]
   exact rd_app g (by decide) ⟨_,_,h2,rfl,rfl⟩
  ·refine xEAoo (List.mem_map.mp hp) fun q hq er1=>?_;subst er1
   have ok:=h2.ok q hq
   refine xEAEEAoAooo (ih2 q hq (by simp only at hlt;lia)) fun n v qs g e e2 hn=>?_
   refine ⟨ps.length+n,?_,by rw [List.length_append,sh_len];lia⟩
   rw [rmv_r rfl ok.1,←e,show sz (.cat u u')=sz u+sz v+1 by rw [e2];rfl]
   exact (rd_pre g ⟨_,_,h1,rfl,rfl⟩).2 (Nat.zero_le _)
 |alt1 _ ih=>exact ih
 |@altS y y' u u' ps ps' s s' h1 h2 ih1 ih2 =>
  intro p hp hlt
  rcases List.mem_append.mp hp with hp | hp
  ·have ok:=h1.ok p hp
   refine xEAEEAoAooo (ih1 p hp hlt) fun n v qs g e e2 hn=>?_
   refine ⟨n+ps'.length,⟨.alt v u',qs++sh ((rmv y p).length+1) ps',?_,by rw [List.length_append,sh_len,e],by simp only [szE1,szE2,szE3,szE4,szE5,szE6,szE7,szE8,szE9];lia⟩,by rw [List.length_append,sh_len];lia⟩
   rw [rmv_l ok.1 ok.2]
   exact .altS g h2
  ·refine xEAoo (List.mem_map.mp hp) fun q hq er1=>?_;subst er1
   have ok:=h2.ok q hq
   refine xEAEEAoAooo (ih2 q hq (by simp only at hlt;lia)) fun n v qs g e e2 hn=>?_
   refine ⟨ps.length+n,?_,by rw [List.length_append,sh_len];lia⟩
   rw [show y++124::y'=(y++[124])++y' by simp,rmv_r (by simp) ok.1,←e,show (y++[124])++rmv y' q=y++124::rmv y' q by simp,show sz (.alt u u')=sz u+sz v+1 by rw [e2];rfl]
   exact rd_bar g rfl ⟨_,_,h1,rfl,rfl⟩
end Hd
end
section
open PySem PySem.W PySem.Calls PyProof.Rows NN
namespace Hd
noncomputable def nd:Tr→Nat×Nat×Nat
 |.emp=>(1,1,1)
 |.cat a b=>((nd a).2.1+(nd b).1+1,(nd a).2.1+(nd b).1,(nd a).2.1+(nd b).1)
 |.alt a b=>((nd a).2.2+(nd b).2.1+1,(nd a).2.2+(nd b).2.1+1,(nd a).2.2+(nd b).2.1)
 |.star a=>((nd a).1,(nd a).1,(nd a).1)
 |.plus a=>((nd a).1,(nd a).1,(nd a).1)
 |.opt a=>((nd a).1,(nd a).1,(nd a).1)
 |.rep a _ _=>((nd a).1,(nd a).1,(nd a).1)
 |.nev=>(0,0,0)
 |.chs _=>(0,0,0)
theorem ndE1:nd Tr.emp=(1,1,1):=rfl
theorem ndE2:nd Tr.nev=(0,0,0):=rfl
theorem ndE3 (s:List (Nat×Nat)):nd (Tr.chs s)=(0,0,0):=rfl
theorem ndE4 (a b:Tr):nd (a.cat b)=((nd a).snd.fst+(nd b).fst+1,(nd a).snd.fst+(nd b).fst,(nd a).snd.fst+(nd b).fst):=rfl
theorem ndE5 (a b:Tr):nd (a.alt b)=((nd a).snd.snd+(nd b).snd.fst+1,(nd a).snd.snd+(nd b).snd.fst+1,(nd a).snd.snd+(nd b).snd.fst):=rfl
theorem ndE6 (a:Tr):nd a.star=((nd a).fst,(nd a).fst,(nd a).fst):=rfl
theorem ndE7 (a:Tr):nd a.plus=((nd a).fst,(nd a).fst,(nd a).fst):=rfl
theorem ndE8 (a:Tr):nd a.opt=((nd a).fst,(nd a).fst,(nd a).fst):=rfl
theorem ndE9 (a:Tr)(lo:Nat)(hi:Option Nat):nd (a.rep lo hi)=((nd a).fst,(nd a).fst,(nd a).fst):=rfl
theorem nd_le (t:Tr):(nd t).2.2≤(nd t).2.1∧(nd t).2.1≤(nd t).1∧(nd t).1≤(nd t).2.2+1:=by
 cases t<;>simp only [ndE1,ndE2,ndE3,ndE4,ndE5,ndE6,ndE7,ndE8,ndE9]<;>simp
noncomputable def ndl (l:Nat)(t:Tr):Nat:=if l=0 then (nd t).2.2 else if l=1 then (nd t).2.1 else (nd t).1
theorem need {l:Nat}{y:List Nat}{t:Tr}{ps:List (Nat×Nat)}{s:Nat}(h:Ps none l y t ps s):ndl l t≤ps.length:=by
 induction h with
 |atom h =>
  cases h with
  |cls _ _ _ _ _ hu=>split at hu<;>(rw [hu.2];exact Nat.le_refl _)
  |dfn h=>cases h
  |_=>exact Nat.le_refl _
 |emp=>exact Nat.le_refl _
 |@grp y u ps s _ ih =>
  have:=nd_le u
  rw [List.length_append,sh_len,List.length_singleton]
  simp only [ndl] at ih ⊢
  simp at ih ⊢
  lia
 |@suf y u ps s l _ _ ih=>cases l<;>exact ih
 |@row1 y u ps s _ ih=>have:=nd_le u;simp only [ndl] at ih ⊢;simp at ih ⊢;lia
 |@alt1 y u ps s _ ih=>have:=nd_le u;simp only [ndl] at ih ⊢;simp at ih ⊢;lia
 |rowS _ _ ih1 ih2=>rw [List.length_append,sh_len];simp only [ndl] at ih1 ih2 ⊢;simp [ndE1,ndE2,ndE3,ndE4,ndE5,ndE6,ndE7,ndE8,ndE9] at ih1 ih2 ⊢;lia
 |altS _ _ ih1 ih2=>rw [List.length_append,sh_len];simp only [ndl] at ih1 ih2 ⊢;simp [ndE1,ndE2,ndE3,ndE4,ndE5,ndE6,ndE7,ndE8,ndE9] at ih1 ih2 ⊢;lia
end Hd
end
section
open PySem PySem.W PySem.Calls PyProof.Rows NN
namespace Hd
theorem stM_new {l:Sp}{p:Nat×Nat}(h:∀ q∈l,q.2+1<p.1):stM l p=l++[p]:=by
 unfold stM
 cases e:l.getLast? with
 |none=>rfl
 |some q=>dsimp only;rw [if_neg (by have:=h q (List.mem_of_getLast? e);lia)]
set_option tactic.hygienic true in
theorem fold_its {l:Sp}{p:Nat×Nat}(hp:p.1≤p.2)(h:∀ q∈l,q.2+1<p.1):((its p).map (·.2)).foldl stM l=l++[p]:=by
 unfold its
 split
 ·next e=>show stM l (p.1,p.1)=_;rw [stM_new (p:=(p.1,p.1)) h,show (p.1,p.1)=p from Prod.ext rfl e]
 split
 ·next e1 e =>
  show stM (stM l (p.1,p.1)) (p.2,p.2)=_
  rw [stM_new (p:=(p.1,p.1)) h]
  unfold stM
  rw [List.getLast?_append]
  simp only [List.getLast?_singleton,Option.some_or]
  rw [if_pos (by lia),if_pos (by lia)]
  simp
 ·show stM l p=_;exact stM_new h
theorem mrg_its:∀ (r l:Sp),(∀ p∈r,p.1≤p.2)→(l++r).Pairwise (fun p q=>p.2+1<q.1)→((r.flatMap its).map (·.2)).foldl stM l=l++r
 |[],l,_,_=>by simp
 |p::r,l,hp,h=>by
  rw [List.flatMap_cons,List.map_append,List.foldl_append,fold_its (hp p (.head _)) fun q hq=>(List.pairwise_append.mp h).2.2 q hq p (.head _),mrg_its r (l++[p]) (fun q hq=>hp q (.tail _ hq)) (by simpa using h)]
  simp
end Hd
end
section
open PySem PySem.W PySem.Calls PyProof.Rows NN
namespace Hd
variable {D:Option (Tr×Tr)}
theorem fl_its:∀ {s:Sp},(∀ p∈s,p.1≤p.2)→fl (s.flatMap its)=(s.flatMap itp).flatten
 |[],_=>rfl
 |p::s,h=>by
  have h1:=its_fl (h p (.head _))
  have h2:=fl_its (s:=s) fun q hq=>h q (.tail _ hq)
  unfold fl at h1 h2 ⊢
  rw [List.flatMap_cons,List.flatMap_cons,List.map_append,List.flatten_append,List.flatten_append,h1,h2]
theorem its_len {p:Nat×Nat}:(its p).length≤2:=by
 unfold its
 split
 ·simp
 ·split<;>simp
theorem itsl {s:Sp}:(s.flatMap its).length≤2*s.length:=by
 induction s with
 |nil=>simp
 |cons p s ih=>have:=its_len (p:=p);rw [List.flatMap_cons,List.length_append,List.length_cons];lia
theorem its_ne {p:Nat×Nat}:its p≠[]:=by
 unfold its
 split
 ·simp
 ·split<;>simp
end Hd
end
section
open PySem PySem.W PySem.Calls PyProof.Rows NN
namespace Hd
variable {D:Option (Tr×Tr)}
set_option tactic.hygienic true in
theorem its_pair:∀ {s:Sp},(∀ p∈s,p.1≤p.2∧p.2<128)→s.Pairwise (fun p q=>p.2+1<q.1)→((s.flatMap its).map (·.2)).Pairwise fun p q=>p.1<q.1
 |[],_,_=>.nil
 |p::s,h,hp=>by
  rw [List.flatMap_cons,List.map_append,List.pairwise_append]
  refine ⟨?_,its_pair (fun q hq=>h q (.tail _ hq)) (List.pairwise_cons.mp hp).2,?_⟩
  ·unfold its
   split
   ·simp
   ·split
    ·next e=>simp;lia
    ·simp
  ·intro x hx y hy
   refine xEAoo (List.mem_map.mp hx) fun i hi er1=>?_;subst er1
   refine xEAoo (List.mem_map.mp hy) fun j hj er1=>?_;subst er1
   refine xEAoo (List.mem_flatMap.mp hj) fun q hq hj=>?_
   have:=(its_ci (h p (.head _)) i hi).2
   have:=(its_ci (h q (.tail _ hq)) j hj).2
   have:=(List.pairwise_cons.mp hp).1 q hq
   lia
theorem at_cls {s:Sp}(h:OkT (.chs s)):At D (cls s) (.chs s):=by
 refine xAAooAoo h fun h1 h2 h3 h4=>?_
 have hm:mrg ((s.flatMap its).map (·.2))=s:=by
  have:=mrg_its s [] (fun p hp=>(h1 p hp).1) (by simpa using h4)
  simpa [mrg] using this
 have hl:=itsl (s:=s)
 have:=At.cls (D:=D) (its:=s.flatMap its) (b:=false) (u:=.chs s) ?_ ?_ ?_ (its_pair h1 h4) (by lia) (by simp only [Bool.false_eq_true,if_false];exact ⟨by rw [hm];exact h3,by rw [hm]⟩)
 ·unfold cls
  cases s with
  |nil=>exact absurd rfl h3
  |cons p s =>
   rw [fl_its fun q hq=>(h1 q hq).1] at this
   rw [ic0]
   simpa using this
 ·cases s with
  |nil=>exact absurd rfl h3
  |cons p s=>rw [List.flatMap_cons];intro e;exact its_ne (List.append_eq_nil_iff.mp e).1
 ·intro x hx
  refine xEAoo (List.mem_flatMap.mp hx) fun p hp hx=>?_
  exact (its_ci (h1 p hp) x hx).1
 ·intro x hx
  refine xEAoo (List.mem_flatMap.mp hx) fun p hp hx=>?_
  have:=(its_ci (h1 p hp) x hx).2
  have:=h1 p hp
  lia
end Hd
end
section
open PySem PySem.W PySem.Calls PyProof.Rows NN
namespace Hd
variable {D:Option (Tr×Tr)}
theorem at_nev:At D (cls []) .nev:=by
 have h0:=shc_cd (c:=0) (by decide)
 have h1:=shc_cd (c:=127) (by decide)
 have:=At.cls (D:=D) (its:=[(shc 0++45::shc 127,(0,127))]) (b:=true) (u:=.nev) (by simp) (fun x hx=>by rw [List.mem_singleton.mp hx];exact .two h0.1 h0.2 h1.1 h1.2 (by decide)) (fun x hx=>by rw [List.mem_singleton.mp hx];exact ⟨by decide,by decide⟩) (by simp) (by simp) ⟨rfl,rfl⟩
 unfold cls
 simpa [fl] using this
set_option tactic.hygienic true in
theorem at_chs {s:Sp}(h:OkT (.chs s)):At D (shch s) (.chs s):=by
 have h':=h
 refine xAAooAoo h fun h1 h2 h3 h4=>?_
 unfold shch
 split
 ·next e=>subst e;exact .dot
 split
 ·next e1 e2 =>
  cases s with
  |nil=>exact absurd rfl h3
  |cons p r =>
   have hp:=h1 p (.head _)
   cases r with
   |nil =>
    have:p.1=p.2:=by simp [siz] at e2;lia
    have e:(p.1,p.1)=p:=Prod.ext rfl this
    have hs:=shs_cd (c:=p.1) (by lia)
    have:=At.sgn (D:=D) hs.1 hs.2
    rw [e] at this
    exact this
   |cons q r=>exfalso;simp only [siz,List.map_cons,List.sum_cons] at e2;lia
 ·exact at_cls h'
end Hd
end
section
open PySem PySem.W PySem.Calls PyProof.Rows NN
namespace Hd
variable {D:Option (Tr×Tr)}
noncomputable def lpc:Tr→Nat
 |.cat a b=>lpc a+lpc b
 |.alt a b=>lpc a+lpc b
 |.star a=>lpc a+1
 |.plus a=>lpc a+1
 |.opt a=>lpc a+1
 |.rep a _ _=>lpc a+1
 |.emp=>0
 |.nev=>0
 |.chs _=>0
theorem lpcE4 (a b:Tr):lpc (a.cat b)=lpc a+lpc b:=rfl
theorem lpcE5 (a b:Tr):lpc (a.alt b)=lpc a+lpc b:=rfl
theorem lpcE6 (a:Tr):lpc a.star=lpc a+1:=rfl
theorem lpcE7 (a:Tr):lpc a.plus=lpc a+1:=rfl
theorem lpcE8 (a:Tr):lpc a.opt=lpc a+1:=rfl
theorem lpcE9 (a:Tr)(lo:Nat)(hi:Option Nat):lpc (a.rep lo hi)=lpc a+1:=rfl
structure Sh (D:Option (Tr×Tr))(t:Tr):Prop where
 T:∃ ps,Ps D 2 (tT t) t ps (lpc t)∧ps.length=(nd t).1
 R:∃ ps,Ps D 1 (tR t) t ps (lpc t)∧ps.length=(nd t).2.1
 L:∃ ps,Ps D 0 (tL t) t ps (lpc t)∧ps.length=(nd t).2.2
theorem Sh.one {t:Tr}{y:List Nat}{n:Nat}(h:∃ ps,Ps D 2 y t ps (lpc t)∧ps.length=n)(e:tx3 t=(y,y,y))(e':nd t=(n,n,n)):Sh D t:=by
 refine xEAoo h fun ps h hn=>?_
 refine ⟨⟨ps,?_,by rw [e'];exact hn⟩,⟨ps,?_,by rw [e'];exact hn⟩,⟨ps,?_,by rw [e'];exact hn⟩⟩
 ·rw [show tT t=y from congrArg (·.1) e];exact h
 ·rw [show tR t=y from congrArg (·.2.1) e];exact .row1 h
 ·rw [show tL t=y from congrArg (·.2.2) e];exact .alt1 (.row1 h)
theorem show_ps {t:Tr}:OkT t→Sh D t:=by
 induction t with
 |emp=>intro _;exact .one ⟨_,.emp,rfl⟩ rfl rfl
 |nev=>intro _;exact .one ⟨_,.atom at_nev,rfl⟩ rfl rfl
 |chs s=>intro h;exact .one ⟨_,.atom (at_chs h),rfl⟩ rfl rfl
 |star a iha =>
  intro h
  refine xEAoo ((iha h).T) fun ps h hn=>?_
  exact .one ⟨ps,.suf (l:=.st) h trivial,hn⟩ rfl rfl
 |plus a iha =>
  intro h
  refine xEAoo ((iha h).T) fun ps h hn=>?_
  exact .one ⟨ps,.suf (l:=.pl) h trivial,hn⟩ rfl rfl
 |opt a iha =>
  intro h
  refine xEAoo ((iha h).T) fun ps h hn=>?_
  exact .one ⟨ps,.suf (l:=.op) h trivial,hn⟩ rfl rfl
 |rep a lo hi iha =>
  intro h
  refine xEAoo ((iha h.1).T) fun ps g hn=>?_
  exact .one ⟨ps,.suf (l:=.rp lo hi) g h.2,hn⟩ rfl rfl
 |cat a b iha ihb =>
  intro h
  refine xEAoo ((iha h.1).R) fun ps g hn=>?_
  refine xEAoo ((ihb h.2).T) fun qs g' hn'=>?_
  have k:=Ps.rowS g g'
  have hk:(ps++sh (tR a).length qs).length=(nd a).2.1+(nd b).1:=by rw [List.length_append,sh_len,hn,hn']
  exact ⟨⟨_,.grp (.alt1 k),by rw [List.length_append,sh_len,hk];rfl⟩,⟨_,k,hk⟩,⟨_,.alt1 k,hk⟩⟩
 |alt a b iha ihb =>
  intro h
  refine xEAoo ((iha h.1).L) fun ps g hn=>?_
  refine xEAoo ((ihb h.2).R) fun qs g' hn'=>?_
  have k:=Ps.altS g g'
  rw [show tL a++124::tR b=tL (.alt a b) by show _=tL a++[124]++tR b;simp] at k
  have hk:(ps++sh ((tL a).length+1) qs).length=(nd a).2.2+(nd b).2.1:=by rw [List.length_append,sh_len,hn,hn']
  exact ⟨⟨_,.grp k,by rw [List.length_append,sh_len,hk];rfl⟩,⟨_,.row1 (.grp k),by rw [List.length_append,sh_len,hk];rfl⟩,⟨_,k,hk⟩⟩
end Hd
end
section
open PySem PySem.W PySem.Calls PyProof.Rows NN
namespace Hd
theorem other {t:Tr}{ps:List (Nat×Nat)}(hp:Ps none 0 (tL t) t ps (lpc t))(hn:ps.length=(nd t).2.2){p:Nat×Nat}(hm:p∈ps)(h:p.1+1<p.2) :
  ∃ u qs,Ps none 0 (rmv (tL t) p) u qs (lpc t)∧qs.length+1=ps.length∧u≠t∧sz u=sz t:=by
 refine xEAEEAoAooo (rd_rm hp p hm h) fun n u qs g e e2 hk=>?_
 refine ⟨u,qs,g,by lia,fun eq=>?_,e2⟩
 have:=need g
 rw [eq,show ndl 0 t=(nd t).2.2 from rfl] at this
 lia
end Hd
end
section
open PySem PySem.W PySem.Calls PyProof.Rows NN
namespace Hd
noncomputable abbrev penC (xs:List Int)(s r:Int):Cell:=.lst [.lst (xs.map V.int),.int s,.int r]
structure PS (a:Addr)(xs:List Int)(G:Int→Int→NN.St):Prop where
 c:∀ s r,(a,penC xs s r)∈G s r
 u:∀ s r s' r',Upc a (penC xs s r) (penC xs s' r') (G s r) (G s' r')
 l:xs.length≤63
variable {w:World}{d:Nat}{Q:V→NN.St→Prop}{a:Addr}{xs:List Int}{G:Int→Int→NN.St}
theorem PS.cons (H:PS a xs G)(p:Addr×Cell):PS a xs fun s r=>p::G s r:=⟨fun s r=>.tail _ (H.c s r),fun s r s' r'=>.tail (H.u s r s' r'),H.l⟩
theorem dats_int:∀ {xs:List Int},datsO (xs.map V.int)=some (xs.map PyData.int)
 |[]=>rfl
 |x::xs=>by rw [List.map_cons];unfold datsO;rw [dats_int];rfl
theorem lay_int:∀ {xs:List Int},PyData.canLayAll0 (xs.map PyData.int)=true
 |[]=>rfl
 |x::xs=>by show (true && PyData.canLayAll0 (xs.map PyData.int))=true;rw [lay_int];rfl
theorem dep_int:∀ {xs:List Int},PyData.depthAll (xs.map PyData.int)≤1
 |[]=>Nat.zero_le _
 |x::xs=>by
  show max 0 (PyData.depthAll (xs.map PyData.int))≤1
  have:=dep_int (xs:=xs);assumption
theorem shaped_int:SeqAt.shaped (.list (xs.map PyData.int))=true:=by
 have h1:(PyData.list (xs.map PyData.int)).canLay0=true:=lay_int
 have h2:(PyData.list (xs.map PyData.int)).depth=PyData.depthAll (xs.map PyData.int)+1:=rfl
 have h3:=dep_int (xs:=xs)
 unfold SeqAt.shaped
 rw [h1,decide_eq_true (by exact zz8)];rfl
theorem ne_nil:(!((PyData.list (xs.map PyData.int)).eqv (.list [])))=decide (xs≠[]):=by
 cases xs with
 |nil=>rfl
 |cons x xs=>rw [decide_eq_true (by simp)];rfl
theorem dat_int {σ:NN.St}:Lf (DAT σ (.lst (xs.map V.int)) (.list (xs.map PyData.int))∧DAT σ (.lst []) (.list [])∧SeqAt.shaped (.list (xs.map PyData.int))=true∧SeqAt.shaped (.list [])=true):=⟨.pure (by unfold datO;rw [dats_int];rfl),.pure rfl,shaped_int,rfl⟩
theorem own_at {σ:NN.St}{vs:List V}{i:Nat}{v:V}{P:V→Prop}(hm:(a,Cell.lst vs)∈σ)(hv:vs[i]?=some v)(h:P v)(hi:i<1000000:=by decide):∃ vs v,Lf ((a,Cell.lst vs)∈σ)∧Lf (itemAt vs (i:Int) v)∧P v :=
 ⟨vs,v,⟨hm⟩,⟨.inl ⟨i,rfl,hv,by lia⟩⟩,h⟩
theorem seq_at {i n:Nat}(h:i<n):seqIndex? (i:Int) n=some i:=by
 unfold seqIndex?
 simp only [show ¬ ((i:Int)<0) by simp,if_false]
 rw [if_pos (by simp;omega)]
 simp
theorem sit_at {M:Mc}{σ σ':NN.St}{vs:List V}{i:Nat}{v:V}{K:List Fr}{m:Mp}(U:Upc a (.lst vs) (.lst (vs.set i v)) σ σ')(h:M.F K .next m σ')(hl:i<vs.length:=by simp)(hi:i<1000000:=by decide):∃ vs j σ₄,Lf (seqIndex? (i:Int) vs.length=some j∧j<vs.length ∧ -(2^62)<(i:Int)∧(i:Int)<2^62)∧Lf (Upc a (.lst vs) (.lst (vs.set j v)) σ σ₄)∧M.F K .next m σ₄ :=
 ⟨vs,i,σ',⟨seq_at hl,hl,by lia,by lia⟩,⟨U⟩,h⟩
theorem md {x:Int}{m:Nat}(hx:0≤x)(hm:1≤m):((x % m).toNat:Int)=Int.fmod x m∧(x % m).toNat<m:=by
 have h1:=Int.emod_nonneg x (b:=m) (by lia)
 have h2:=Int.emod_lt_of_pos x (b:=m) (by lia)
 exact ⟨by rw [Int.fmod_eq_emod_of_nonneg _ (by simp)];lia,by lia⟩
theorem dv {x:Int}{m:Nat}(hx:0≤x)(hm:1≤m):0≤Int.fdiv x m:=by rw [Int.fdiv_eq_ediv_of_nonneg _ (by lia)];exact Int.ediv_nonneg hx (by lia)
theorem np {x:Int}{m:Nat}(hm:m≤1000):Builtin.divisionGoesByPylong x m=false:=PyProof.noPylong_small (by exact zz8)
theorem fmb {x:Int}{m:Int}(hm:0<m):0≤Int.fmod x m∧Int.fmod x m<m:=by
 rw [Int.fmod_eq_emod_of_nonneg _ (by lia)]
 exact ⟨Int.emod_nonneg x (by lia),Int.emod_lt_of_pos x hm⟩
theorem b64 {x:Int}(h:0≤x)(h':x<2^63):Builtin.Int.intBits x≤64:=intBits_le_iff.mpr (by lia)
theorem ml {x y:Int}(h:0≤x)(h':x<2^63):Lf (IntMulOk x y):=⟨IntMulOk.of_left (b64 h h')⟩
theorem pwo {x:Int}{y:Nat}(h:0≤x)(h':x<2^63)(hy:y≤20):Lf (0≤(y:Int)∧(Builtin.Int.intBits x:Int)*y≤2^27):=by
 have:=b64 h h'
 refine ⟨by simp,?_⟩
 have h1:Builtin.Int.intBits x*y≤64*20:=Nat.mul_le_mul this hy
 have:((Builtin.Int.intBits x*y:Nat):Int)≤1280:=by exact_mod_cast h1
 rw [←Int.natCast_mul];exact zzg
theorem b1 {c s:Int}(hs:0≤s∧s≤100000):0≤Int.fmod c 2147483587+41017*s+3001∧Int.fmod c 2147483587+41017*s+3001<2^63:=by
 have:=fmb (x:=c) (m:=2147483587) (by decide)
 omega
theorem b2 {x y:Int}:Lf (IntMulOk (Int.fmod x 2147483629) y):=ml (fmb (by decide)).1 (by have:=(fmb (x:=x) (m:=2147483629) (by decide)).2;exact zzg)
theorem b3 {x s:Int}(hs:0≤s∧s≤100000):0≤Int.fmod x 2147483629*(2*s+6011)+1009*s*s+23∧Int.fmod x 2147483629*(2*s+6011)+1009*s*s+23<2^63:=by
 have h:=fmb (x:=x) (m:=2147483629) (by decide)
 generalize Int.fmod x 2147483629=y at h
 have h1:0≤y*(2*s+6011):=Int.mul_nonneg h.1 (by lia)
 have h2:y*(2*s+6011)≤2147483629*(2*s+6011):=Int.mul_le_mul_of_nonneg_right (by lia) (by lia)
 have h3:0≤1009*s*s:=Int.mul_nonneg (by lia) hs.1
 have h4:1009*s*s≤(1009*s)*100000:=Int.mul_le_mul_of_nonneg_left hs.2 (by lia)
 lia
theorem b4 {x:Int}:0≤Int.fdiv (Int.fmod x 2147483579) 32:=by
 have h:=fmb (x:=x) (m:=2147483579) (by decide)
 rw [Int.fdiv_eq_ediv_of_nonneg _ (by simp)];lia
theorem p18:(1000000000000000000:Int)=10^(18:Int).toNat:=by decide
theorem ab {c:Int}:((c.natAbs:Nat):Int)=if c<0 then -c else c:=by split<;>lia
theorem k_draw (H:PS a xs G){m:Nat}(hm:1≤m∧m≤1000){s r:Int}(hs:0≤s∧s≤100000)(hr:0≤r)(hq:∀ (g:Nat) (s' r':Int),g<m→s≤s'→s'≤s+1→0≤r'→Q (.int g) (G s' r')) :
  CALL w (fr w.params) (d+1) (.ref 973) [.own a,.int m] (G s r) Q:=by
 have hl:=H.l
 have fin:∀ x r':Int,0≤x→0≤r'→NN.Back Q (.int ((x % m).toNat:Int)) (G (s+1) r'):=fun x r' hx hr'=>back' (hq _ _ _ (md hx hm.1).2 (by lia) (Int.le_refl _) hr')
 refine O__law_draw ?_
 refine own_at (H.c _ _) (i:=2) rfl ?_
 refine bq (p:=0<r) _ (by simp) (fun h1=>?_) fun h1=>?_
 ·refine own_at (H.c _ _) (i:=2) rfl ?_
  have hd:=md hr hm.1
  refine ⟨⟨by lia⟩,_,⟨hd.1⟩,?_⟩
  refine own_at (H.c _ _) (i:=2) rfl ?_
  refine ⟨⟨by lia,np hm.2⟩,_,⟨rfl⟩,?_⟩
  refine sit_at (i:=2) (H.u s r s _) ?_
  exact back' (hq _ _ _ hd.2 (Int.le_refl _) (by lia) (dv hr hm.1))
 refine own_at (H.c _ _) (i:=1) rfl ?_
 refine sit_at (i:=1) (H.u s r (s+1) r) ?_
 refine own_at (H.c _ _) (i:=0) rfl ?_
 intro b
 refine ⟨_,_,⟨.lst⟩,?_⟩
 refine ⟨_,_,dat_int,?_⟩
 refine bq _ ne_nil (fun h=>?_) fun h=>?_
 ·have hx:1≤xs.length:=by cases xs with | nil=>exact absurd rfl h | cons x xs=>simp
  have hd:=md (m:=xs.length) hs.1 hx
  cases e:xs[(s % (xs.length:Int)).toNat]? with
  |none=>exact absurd (List.getElem?_eq_none_iff.mp e) (Nat.not_le.mpr hd.2)
  |some c =>
   refine own_at (H.c _ _) (i:=0) rfl ?_
   refine own_at (H.c _ _) (i:=0) rfl ?_
   refine ⟨⟨by rw [List.length_map];exact zz6⟩,?_⟩
   refine ⟨⟨by rw [List.length_map];lia⟩,((s % (xs.length:Int)).toNat:Int),⟨by rw [List.length_map];exact hd.1⟩,?_⟩
   refine ⟨.int c,⟨_,rfl,by rw [List.getElem?_map,e];rfl,by lia⟩,?_⟩
   refine own_at (H.c _ _) (i:=0) rfl ?_
   refine ⟨⟨by rw [List.length_map];lia⟩,?_⟩
   refine ⟨fun _=>?_,fun _=>?_⟩
   ·refine ⟨_,⟨ab⟩,?_⟩
    refine ⟨pwo (y:=18) (by decide) (by decide) (by decide),_,⟨p18⟩,?_⟩
    refine ⟨fun h5=>?_,fun _=>?_⟩
    ·have h6:=Int.sub_nonneg.mpr (of_decide_eq_true h5)
     refine ⟨_,⟨ab⟩,?_⟩
     refine ⟨pwo (y:=18) (by decide) (by decide) (by decide),_,⟨p18⟩,?_⟩
     refine ⟨⟨by lia,np hm.2⟩,_,⟨rfl⟩,?_⟩
     refine sit_at (i:=2) (H.u (s+1) r (s+1) _) ?_
     refine ⟨⟨by lia⟩,_,⟨(md h6 hm.1).1⟩,?_⟩
     exact fin _ _ h6 (dv h6 hm.1)
    ·refine ⟨⟨by decide⟩,_,⟨rfl⟩,?_⟩
     refine ⟨ml (by decide) (by decide),?_⟩
     refine ⟨pwo (y:=5) (b1 hs).1 (b1 hs).2 (by decide),_,⟨rfl⟩,?_⟩
     refine ⟨⟨by decide⟩,_,⟨rfl⟩,?_⟩
     refine ⟨ml (by decide) (by decide),?_⟩
     refine ⟨b2,?_⟩
     refine ⟨ml (by decide) (by decide),?_⟩
     refine ⟨ml (by lia) (by lia),?_⟩
     refine ⟨pwo (y:=3) (b3 hs).1 (b3 hs).2 (by decide),_,⟨rfl⟩,?_⟩
     refine ⟨⟨by decide⟩,_,⟨rfl⟩,?_⟩
     refine ⟨⟨by decide,rfl⟩,_,⟨rfl⟩,?_⟩
     refine ⟨⟨by lia⟩,_,⟨(md b4 hm.1).1⟩,?_⟩
     exact fin _ _ b4 hr
   ·refine bf _ rfl ?_
    refine ⟨⟨by decide⟩,_,⟨rfl⟩,?_⟩
    refine ⟨ml (by decide) (by decide),?_⟩
    refine ⟨pwo (y:=5) (b1 hs).1 (b1 hs).2 (by decide),_,⟨rfl⟩,?_⟩
    refine ⟨⟨by decide⟩,_,⟨rfl⟩,?_⟩
    refine ⟨ml (by decide) (by decide),?_⟩
    refine ⟨b2,?_⟩
    refine ⟨ml (by decide) (by decide),?_⟩
    refine ⟨ml (by lia) (by lia),?_⟩
    refine ⟨pwo (y:=3) (b3 hs).1 (b3 hs).2 (by decide),_,⟨rfl⟩,?_⟩
    refine ⟨⟨by decide⟩,_,⟨rfl⟩,?_⟩
    refine ⟨⟨by decide,rfl⟩,_,⟨rfl⟩,?_⟩
    refine ⟨⟨by lia⟩,_,⟨(md b4 hm.1).1⟩,?_⟩
    exact fin _ _ b4 hr
 ·refine own_at (H.c _ _) (i:=0) rfl ?_
  refine ⟨⟨by rw [List.length_map];lia⟩,?_⟩
  refine ⟨fun _=>?_,fun _=>?_⟩
  ·refine ⟨_,⟨ab⟩,?_⟩
   refine ⟨pwo (y:=18) (by decide) (by decide) (by decide),_,⟨p18⟩,?_⟩
   refine ⟨fun h5=>?_,fun _=>?_⟩
   ·have h6:=Int.sub_nonneg.mpr (of_decide_eq_true h5)
    refine ⟨_,⟨ab⟩,?_⟩
    refine ⟨pwo (y:=18) (by decide) (by decide) (by decide),_,⟨p18⟩,?_⟩
    refine ⟨⟨by lia,np hm.2⟩,_,⟨rfl⟩,?_⟩
    refine sit_at (i:=2) (H.u (s+1) r (s+1) _) ?_
    refine ⟨⟨by lia⟩,_,⟨(md h6 hm.1).1⟩,?_⟩
    exact fin _ _ h6 (dv h6 hm.1)
   ·refine ⟨⟨by decide⟩,_,⟨rfl⟩,?_⟩
    refine ⟨ml (by decide) (by decide),?_⟩
    refine ⟨pwo (y:=5) (b1 hs).1 (b1 hs).2 (by decide),_,⟨rfl⟩,?_⟩
    refine ⟨⟨by decide⟩,_,⟨rfl⟩,?_⟩
    refine ⟨ml (by decide) (by decide),?_⟩
    refine ⟨b2,?_⟩
    refine ⟨ml (by decide) (by decide),?_⟩
    refine ⟨ml (by lia) (by lia),?_⟩
    refine ⟨pwo (y:=3) (b3 hs).1 (b3 hs).2 (by decide),_,⟨rfl⟩,?_⟩
    refine ⟨⟨by decide⟩,_,⟨rfl⟩,?_⟩
    refine ⟨⟨by decide,rfl⟩,_,⟨rfl⟩,?_⟩
    refine ⟨⟨by lia⟩,_,⟨(md b4 hm.1).1⟩,?_⟩
    exact fin _ _ b4 hr
  ·refine bf _ rfl ?_
   refine ⟨⟨by decide⟩,_,⟨rfl⟩,?_⟩
   refine ⟨ml (by decide) (by decide),?_⟩
   refine ⟨pwo (y:=5) (b1 hs).1 (b1 hs).2 (by decide),_,⟨rfl⟩,?_⟩
   refine ⟨⟨by decide⟩,_,⟨rfl⟩,?_⟩
   refine ⟨ml (by decide) (by decide),?_⟩
   refine ⟨b2,?_⟩
   refine ⟨ml (by decide) (by decide),?_⟩
   refine ⟨ml (by lia) (by lia),?_⟩
   refine ⟨pwo (y:=3) (b3 hs).1 (b3 hs).2 (by decide),_,⟨rfl⟩,?_⟩
   refine ⟨⟨by decide⟩,_,⟨rfl⟩,?_⟩
   refine ⟨⟨by decide,rfl⟩,_,⟨rfl⟩,?_⟩
   refine ⟨⟨by lia⟩,_,⟨(md b4 hm.1).1⟩,?_⟩
   exact fin _ _ b4 hr
end Hd
end
section
open PySem PySem.W PySem.Calls PyProof.Rows NN
namespace Hd
variable {w:World}{d:Nat}{Q:V→NN.St→Prop}{σ:NN.St}
theorem k_pen {ys:List Int}(hl:ys.length≤63)(hq:∀ p,Q (.own p) ((p,penC ys 0 0)::σ)):CALL w (fr w.params) (d+1) (.ref 966) [.lst (ys.map V.int)] σ Q:=by
 refine O__law_pen ?_
 refine ⟨⟨by rw [List.length_map];exact zz6⟩,⟨by decide⟩,?_⟩
 refine compL (l:=ys) (f:=V.int) (g:=V.int) (show List.map V.int ys=List.take _ (List.map V.int ys) from (List.take_of_length_le (by rw [List.length_map];exact hl)).symm) (by exact zz6) (fun x _ Q h=>h) fun a=>?_
 refine ⟨_,_,⟨.lst⟩,?_⟩
 intro p
 refine ⟨_,_,⟨.rfl⟩,?_⟩
 exact back' (hq p)
structure SpI (held:List Bool)(tr:Bool)(i:Nat)(sp:Sp):Prop where
 b:∀ p∈sp,p.1≤p.2∧p.2<i
 gap:sp.Pairwise fun p q=>p.2+1<q.1
 n1:tr=false→sp.length≤(held.take i).count true
 n2:tr=true→sp.length≤(held.take i).count true+1
 n3:tr=true→∀ p,sp.getLast?=some p→p.2+1<i→sp.length≤(held.take i).count true
 ne:∀ j,j<i→held[j]?=some (!tr)→sp≠[]
theorem cnt_next {held:List Bool}{i:Nat}{x:Bool}(h:held[i]?=some x):(held.take (i+1)).count true=(held.take i).count true+(if x=true then 1 else 0):=by
 rw [List.take_add_one,h,List.count_append]
 cases x<;>rfl
theorem SpI.nil {held:List Bool}{tr:Bool}:SpI held tr 0 []:=⟨(fun p h=>by cases h),.nil,fun _=>Nat.zero_le _,fun _=>Nat.zero_le _,fun _ p h=>(by cases h),fun j h=>absurd h (Nat.not_lt_zero _)⟩
theorem SpI.skip {held:List Bool}{tr:Bool}{i:Nat}{sp:Sp}(H:SpI held tr i sp)(h:held[i]?=some tr):SpI held tr (i+1) sp:=by
 have hc:=cnt_next h
 refine ⟨fun p hp=>⟨(H.b p hp).1,Nat.lt_succ_of_lt (H.b p hp).2⟩,H.gap,fun e=>?_,fun e=>?_,fun e p _ _=>?_,fun j hj hx=>?_⟩
 ·have:=H.n1 e;lia
 ·have:=H.n2 e;lia
 ·have:=H.n2 e;rw [if_pos e] at hc;lia
 ·rcases Nat.lt_succ_iff_lt_or_eq.mp hj with hj | rfl
  ·exact H.ne j hj hx
  ·rw [h] at hx;cases tr<;>cases hx
theorem SpI.ext {held:List Bool}{tr:Bool}{i:Nat}{us:Sp}{p:Nat×Nat}(H:SpI held tr i (us++[p]))(h:held[i]?=some (!tr))(hp:p.2+1=i):SpI held tr (i+1) (us++[(p.1,i)]):=by
 have hc:=cnt_next h
 have hb:=H.b p (by simp)
 have hl:(us++[(p.1,i)]).length=(us++[p]).length:=by simp
 refine ⟨fun q hq=>?_,?_,fun e=>?_,fun e=>?_,fun e q hq hlt=>?_,fun _ _ _=>by simp⟩
 ·rcases List.mem_append.mp hq with hq | hq
  ·have:=H.b q (List.mem_append_left _ hq);exact ⟨this.1,Nat.lt_succ_of_lt this.2⟩
  ·rw [List.mem_singleton.mp hq];exact ⟨by show p.1≤i;lia,Nat.lt_succ_self _⟩
 ·have g:=List.pairwise_append.mp H.gap
  exact List.pairwise_append.mpr ⟨g.1,List.pairwise_singleton _ _,fun x hx y hy=>by rw [List.mem_singleton.mp hy];exact g.2.2 x hx p (.head _)⟩
 ·have:=H.n1 e;rw [hl];lia
 ·have:=H.n2 e;rw [hl];lia
 ·rw [List.getLast?_append] at hq
  simp at hq;subst hq
  simp at hlt
theorem SpI.app {held:List Bool}{tr:Bool}{i:Nat}{sp:Sp}(H:SpI held tr i sp)(h:held[i]?=some (!tr))(hp:∀ p,sp.getLast?=some p→p.2+1≠i):SpI held tr (i+1) (sp++[(i,i)]):=by
 have hc:=cnt_next h
 have hl:(sp++[(i,i)]).length=sp.length+1:=by simp
 refine ⟨fun q hq=>?_,?_,fun e=>?_,fun e=>?_,fun e q hq hlt=>?_,fun _ _ _=>by simp⟩
 ·rcases List.mem_append.mp hq with hq | hq
  ·have:=H.b q hq;exact ⟨this.1,Nat.lt_succ_of_lt this.2⟩
  ·rw [List.mem_singleton.mp hq];exact ⟨Nat.le_refl _,Nat.lt_succ_self _⟩
 ·refine List.pairwise_append.mpr ⟨H.gap,List.pairwise_singleton _ _,fun x hx y hy=>?_⟩
  rw [List.mem_singleton.mp hy]
  show x.2+1<i
  have hx2:=H.b x hx
  cases e:sp.getLast? with
  |none=>rw [List.getLast?_eq_none_iff.mp e] at hx;cases hx
  |some p =>
   have h1:=hp p e
   have h2:=H.b p (List.mem_of_getLast? e)
   refine xEo (List.getLast?_eq_some_iff.mp e) fun us er1=>?_;subst er1
   rcases List.mem_append.mp hx with hx | hx
   ·have:=(List.pairwise_append.mp H.gap).2.2 x hx p (.head _);lia
   ·rw [List.mem_singleton.mp hx];lia
 ·have:=H.n1 e
  subst e
  have hc:_=_+1:=hc
  lia
 ·rw [hl]
  cases e':sp.getLast? with
  |none=>rw [List.getLast?_eq_none_iff.mp e'];simp
  |some p =>
   have:=H.n3 e p e' (by have:=hp p e';have:=H.b p (List.mem_of_getLast? e');lia)
   lia
 ·rw [List.getLast?_append] at hq
  simp at hq;subst hq
  simp at hlt
theorem SpI.ok {held:List Bool}{tr:Bool}{sp:Sp}(H:SpI held tr 128 sp)(hl:held.length=128)(hc:held.count true≤25)(hn:∃ j,j<128∧held[j]?=some (!tr)):OkT (.chs sp):=by
 refine xEAoo hn fun j hj hx=>?_
 have e:(held.take 128).count true=held.count true:=by rw [List.take_of_length_le (by lia)]
 refine ⟨⟨fun p hp=>⟨(H.b p hp).1,(H.b p hp).2⟩,?_⟩,H.ne j hj hx,H.gap⟩
 cases tr with
 |false=>have:=H.n1 rfl;lia
 |true=>have:=H.n2 rfl;lia
structure Hl (held:List Bool)(c n:Nat):Prop where
 l:held.length=128
 n:held.count true≤n
 c:held[c]?=some true
set_option tactic.hygienic true in
theorem Hl.set {held:List Bool}{c n i:Nat}(H:Hl held c n)(hi:i<128):Hl (held.set i true) c (n+1):=by
 have hl:=H.l
 refine ⟨by rw [List.length_set];exact hl,?_,?_⟩
 ·have:=H.n
  rw [List.count_set (by lia)]
  simp;lia
 ·rw [List.getElem?_set]
  split
  ·next e=>subst e;rw [if_pos (by lia)]
  ·exact H.c
theorem Hl.all {held:List Bool}{c n:Nat}(H:Hl held c n)(hn:n≤25)(tr:Bool)(hc:c<128):∃ j,j<128∧held[j]?=some (!tr):=by
 cases tr with
 |false=>exact ⟨c,hc,H.c⟩
 |true =>
  have hl:=H.l
  by_cases h:∀ x∈held,x=true
  ·have:held.count true=held.length:=List.count_eq_length.mpr fun x hx=>(h x hx).symm
   have:=H.n;lia
  ·refine xEo (Classical.not_forall.mp h) fun x h=>?_
   refine xAoo (Classical.not_imp.mp h) fun hx hne=>?_
   obtain ⟨j,hj,e⟩:=List.mem_iff_getElem.mp hx
   refine ⟨j,by lia,?_⟩
   rw [List.getElem?_eq_getElem hj,e]
   cases x with
   |true=>exact absurd rfl hne
   |false=>rfl
noncomputable def hl0 (c l:Nat):List Bool:=(List.range 128).map fun i=>decide (c≤i) && decide (i≤l)
end Hd
end
section
open PySem PySem.W PySem.Calls PyProof.Rows NN
namespace Hd
variable {w:World}{d:Nat}{Q:V→NN.St→Prop}{σ:NN.St}
noncomputable def r_leaf (pc pl:Addr):List RS:=[.asg (.loc 1) (.call 973 [.loc 0,(.val (.int 8))]),.ifs (.cmp .Eq (.loc 1) (.val (.int 6))) [.ret (.item (.list [(.tup [(.val (.str (tx [101,109,112,116,121])))]),(.tup [(.val (.str (tx [110,101,118,101,114])))])]) (.call 973 [.loc 0,(.val (.int 2))]))] [],.ifs (.cmp .Eq (.loc 1) (.val (.int 7))) [.ret (.tup [(.val (.str (tx [99,104,97,114,115]))),(.tup [(.tup [(.val (.int 0)),(.val (.int 9))]),(.tup [(.val (.int 11)),(.val (.int 127))])])])] [],.asgC pc (.call 973 [.loc 0,(.val (.int 128))]),.ifs (.cmp .Lt (.loc 1) (.val (.int 4))) [.ret (.tup [(.val (.str (tx [99,104,97,114,115]))),(.tup [(.tup [.cel pc,.cel pc])])])] [],.asgC pl (.bin .Add (.cel pc) (.call 973 [.loc 0,(.val (.int 2))])),.asgL 5 (.cmp2 .LtE .LtE (.cel pc) (.loc 1) (.cel pl)) [false,true,false,false] (.bi .range [(.val (.int 128))]),.fors (.loc 6) (.bi .range [(.bin .Add (.val (.int 1)) (.call 973 [.loc 0,(.val (.int 3))]))]) [.asg (.loc 7) (.call 973 [.loc 0,(.val (.int 128))]),.fors (.loc 4) (.bi .range [.loc 7,(.bi .min [(.bin .Add (.bin .Add (.loc 7) (.val (.int 1))) (.call 973 [.loc 0,(.val (.int 6))])),(.val (.int 128))])]) [.sit (.loc 5) (.loc 4) (.val (.bool true))]],.asg (.loc 8) (.and (.cmp .Eq (.loc 1) (.val (.int 5))) (.cmp .Eq (.call 973 [.loc 0,(.val (.int 2))]) (.val (.int 1)))),.asg (.loc 9) (.list []),.fors (.loc 4) (.bi .range [(.val (.int 128))]) [.ifs (.cmp .NotEq (.item (.loc 5) (.loc 4)) (.loc 8)) [.ifs (.and (.cmp .NotEq (.loc 9) (.list [])) (.cmp .Eq (.item (.item (.loc 9) (.neg (.val (.int 1)))) (.val (.int 1))) (.bin .Sub (.loc 4) (.val (.int 1))))) [.sit (.loc 9) (.neg (.val (.int 1))) (.tup [(.item (.item (.loc 9) (.neg (.val (.int 1)))) (.val (.int 0))),.loc 4])] [.expr (.meth (.loc 9) 7863761909857 [(.tup [.loc 4,.loc 4])])]] []],.ret (.tup [(.val (.str (tx [99,104,97,114,115]))),(.bi .tuple [.loc 9])])]
noncomputable abbrev leafF:FnS:=sfn (st 67) "_law_leaf" 978 (.ref 977)
noncomputable abbrev leafR:Nms:=(sS (st 67)).names.drop 1
theorem cells_leaf (n:Nat):cellsFrom n leafF.sc.names []=([S "code",S "last"].zip (List.range' n 2)).reverse:=by kernel_rfl
theorem D_leaf (P:Params):DefInC (fr P) leafF (sub (st 67)) [S "pen"] [S "code",S "last"] leafR :=
 ⟨⟨sN (st 67),sA (st 67),.none,.none,.none,.str (S "law_nn0413_01") 1569,.none,.type "function",none,none,#[],by kernel_rfl,fun s rs hK hl=>by
  refine xEo (sh1 hl) fun r0 er1=>?_;subst er1;exact kp_binds hK fun S=>by kernel_rfl⟩,
  by kernel_rfl,by kernel_rfl,of_decide_eq_true (by kernel_rfl),by kernel_rfl,rfl,by kernel_rfl,by kernel_rfl,cells_leaf,of_decide_eq_true (by kernel_rfl),fun x h e=>by
  rw [List.mem_singleton.mp e] at h
  exact absurd (List.elem_eq_true_of_mem h) (by show ¬ (List.elem (S "pen") [S "code",S "last"])=true;decide +kernel)⟩
theorem B_leaf {n:Nat}:cvS 60 {ctx w tb d e__law_leaf with cl:=[(513601772,n+1),(481900515,n)]} (sub (st 67))=some (r_leaf n (n+1)):=by kernel_rfl
theorem O_leaf {v0:V}(h:∀ n,(mach (cx0 w tb d) 2000).S (r_leaf n (n+1)) [.fin (BK Q)] (mp0 e__law_leaf [v0]) ((n+1,.cel none)::(n,.cel none)::σ)):CALL w (fr w.params) (d+1) (.ref 978) [v0] σ Q:=by
 refine call_defC (fn:=leafF) (D_leaf _) rfl fun n=>?_
 refine walk (k:=60) (n:=2000) (fn:={leafF with cl:=[(S "last",n+1),(S "code",n)]}) (c:={ctx w tb d e__law_leaf with cl:=[(513601772,n+1),(481900515,n)]}) ?_ B_leaf (h n)
 exact ⟨by kernel_rfl,of_decide_eq_true (by kernel_rfl),fun p hp=>of_decide_eq_true (List.all_eq_true.mp (show ((sS (st 67)).names.all fun p=>decide (enc p.1≠0))=true by kernel_rfl) p hp),
  fun p hp=>of_decide_eq_true (List.all_eq_true.mp (show ((sS (st 67)).names.all fun p=>decide (notDebug p.1))=true by kernel_rfl) p hp),by kernel_rfl,rfl,by kernel_rfl,fun p hp=>by
   rcases List.mem_cons.mp hp with rfl | hp
   ·show enc (S "last")≠0;decide +kernel
   ·rw [List.mem_singleton.mp hp];show enc (S "code")≠0;decide +kernel,tb_ok w⟩
end Hd
end
section
open PySem PySem.W PySem.Calls PyProof.Rows NN
namespace Hd
variable {w:World}{d:Nat}{Q:V→NN.St→Prop}
theorem V_asg {c:Cx}{n i:Nat}{K:List NN.Fr}{m:Mp}{σ:NN.St}{v:V}(h:setM m i v fun m'=>(mach c n).F K .next m' σ):(mach c (n+2)).V (.asg (.loc i)::K) v m σ:=h
theorem F_seq {c:Cx}{n:Nat}{r:List RS}{K:List NN.Fr}{m:Mp}{σ:NN.St}(h:(mach c n).S r K m σ):(mach c (n+1)).F (.seq r::K) .next m σ:=h
theorem rg_at {n x:Nat}{dn td:List Nat}(e:dn++x::td=List.range n):x=dn.length∧dn.length<n:=by
 have hl:=congrArg List.length e
 rw [List.length_append,List.length_cons,List.length_range] at hl
 have h:=congrArg (·[dn.length]?) e
 simp only [List.getElem?_append_right (Nat.le_refl _),Nat.sub_self,List.getElem?_cons_zero,List.getElem?_range (show dn.length<n by lia),Option.some.injEq] at h
 exact ⟨h,by lia⟩
theorem rng_eq {a b:Nat}:rangeOf a b=(List.range (b - a)).map fun i=>V.int ((a+i:Nat):Int):=by
 unfold rangeOf
 rw [show ((b:Int) - a).toNat=b - a by simp]
 exact List.map_congr_left fun i _=>congrArg V.int (by simp)
theorem rng_src {a b:Nat}(ha:a≤1000)(hb:b≤1000):srcV (.rng a b) ((List.range (b - a)).map fun i=>V.int ((a+i:Nat):Int)):=⟨⟨by simp,by lia,by lia,by lia⟩,rng_eq.symm⟩
theorem rng0 {b:Nat}(hb:b≤1000):srcV (.rng 0 b) ((List.range b).map fun i=>V.int ((i:Nat):Int)):=by
 have:=rng_src (a:=0) (b:=b) (by decide) hb
 simp only [Nat.zero_add,Nat.sub_zero] at this
 exact this
theorem dat_sp {σ:NN.St}{q:Addr}{sp:Sp}:Lf (DAT ((q,.lst (sp.map tn))::σ) (.own q) (.list (sp.map fun p=>PyData.tuple [.int p.1,.int p.2]))∧DAT ((q,.lst (sp.map tn))::σ) (.lst []) (.list [])∧SeqAt.shaped (.list (sp.map fun p=>PyData.tuple [.int p.1,.int p.2]))=true∧SeqAt.shaped (.list [])=true):=by
 refine ⟨.own (.head _) (dS_of sp),.pure rfl,?_,rfl⟩
 have h1:(PyData.list (sp.map fun p=>PyData.tuple [.int p.1,.int p.2])).canLay0=true:=dS_lay (s:=sp)
 have h2:(PyData.list (sp.map fun p=>PyData.tuple [.int p.1,.int p.2])).depth≤2:=dS_depth (s:=sp)
 unfold SeqAt.shaped
 rw [h1,decide_eq_true (by exact zz7)];rfl
theorem ne_sp {sp:Sp}:(!((PyData.list (sp.map fun p=>PyData.tuple [.int p.1,.int p.2])).eqv (.list [])))=decide (sp≠[]):=by
 cases sp with
 |nil=>rfl
 |cons x xs=>rw [decide_eq_true (by simp)];rfl
theorem tn0 {c:Cx}{p:Nat×Nat}:Lf (tupAt [.int p.1,.int p.2] 0 (.int p.1)):=⟨⟨by decide,by decide⟩,0,rfl,rfl⟩
theorem tn1 {c:Cx}{p:Nat×Nat}:Lf (tupAt [.int p.1,.int p.2] 1 (.int p.2)):=⟨⟨by decide,by decide⟩,1,rfl,rfl⟩
theorem leaf_tail {a h:Addr}{g N:Nat}{x4 x6 x7:Option V}{held:List Bool}{tr:Bool}{τ:NN.St}(hl:held.length=128)
  (hq:∀ sp q,SpI held tr 128 sp→NN.Back Q (tv (.chs sp)) ((q,.lst (sp.map tn))::(h,.lst (held.map V.bool))::τ)) :
  (mach (cx0 w tb d) (N+500)).S ((r_leaf 0 0).drop 9) [.fin (BK Q)] [some (.own a),some (.int g),none,none,x4,some (.own h),x6,x7,some (.bool tr),none,none,none,none,none] ((h,.lst (held.map V.bool))::τ):=by
 intro q
 refine ⟨_,_,⟨.rfl⟩,?_⟩
 refine forL (l:=List.range 128) (f:=fun i=>V.int ((i:Nat):Int)) (fun dn m σ'=>∃ (sp:Sp) (x4:Option V),m=[some (.own a),some (.int g),none,none,x4,some (.own h),x6,x7,some (.bool tr),some (.own q),none,none,none,none]∧σ'=(q,.lst (sp.map tn))::(h,.lst (held.map V.bool))::τ∧SpI held tr dn.length sp) ?_ ?_ ?_ ?_
 ·exact rng0 (b:=128) (by decide)
 ·exact ⟨[],x4,rfl,rfl,.nil⟩
 ·rintro I dn i td m σ' e ⟨sp,x4,rfl,rfl,H⟩ nx
  refine xAoo (rg_at e) fun er1 hi=>?_;subst er1
  refine xEo (⟨_,List.getElem?_eq_getElem (by lia)⟩:∃ x,held[dn.length]?=some x) fun x hx=>?_
  have hspl:sp.length≤200:=by
   have:=List.count_le_length (a:=true) (l:=held.take dn.length)
   rw [List.length_take] at this
   cases tr with
   |false=>have:=H.n1 rfl;lia
   |true=>have:=H.n2 rfl;lia
  have nxt:∀ sp':Sp,SpI held tr (dn.length+1) sp'→I (dn.length+1) [some (.own a),some (.int g),none,none,some (.int dn.length),some (.own h),x6,x7,some (.bool tr),some (.own q),none,none,none,none] ((q,.lst (sp'.map tn))::(h,.lst (held.map V.bool))::τ):=fun sp' h'=>nx ⟨sp',_,rfl,rfl,by rw [List.length_append];exact h'⟩
  refine own_at (i:=dn.length) (.tail _ (.head _)) (by rw [List.getElem?_map,hx];rfl) ?_ (by exact zz7)
  refine ⟨_,_,⟨.pure rfl,.pure rfl,rfl,rfl⟩,?_⟩
  refine bq (p:=x≠tr) _ (by cases x<;>cases tr<;>rfl) (fun h1=>?_) fun h1=>?_
  ·have hx':held[dn.length]?=some (!tr):=by rw [hx];cases x<;>cases tr<;>first | rfl | exact absurd rfl h1
   intro b
   refine ⟨_,_,⟨.lst⟩,?_⟩
   refine ⟨_,_,dat_sp,?_⟩
   refine bq _ ne_sp (fun h2=>?_) fun h2=>?_
   ·refine xEEo (⟨_,_,(List.dropLast_concat_getLast h2).symm⟩:∃ us p,sp=us++[p]) fun us p er1=>?_;subst er1
    have hat:Lf (itemAt ((us++[p]).map tn) (-1) (tn p)):=⟨.inr ⟨rfl,us.map tn,by rw [List.map_append];rfl,by rw [List.length_map];rw [List.length_append] at hspl;exact zz7⟩⟩
    refine ⟨_,_,⟨.head _⟩,hat,?_⟩
    refine ⟨_,tn1 (c:=cx0 w tb d),?_⟩
    refine bq (p:=p.2+1=dn.length) _ (by rw [Bool.eq_iff_iff];simp only [beq_iff_eq,decide_eq_true_eq];lia) (fun h3=>?_) fun h3=>?_
    ·refine ⟨_,_,⟨.head _⟩,hat,?_⟩
     refine ⟨_,tn0 (c:=cx0 w tb d),?_⟩
     refine ⟨_,us.length,_,⟨?_,?_,by decide,by decide⟩,⟨.head⟩,?_⟩
     ·rw [List.length_map,List.length_append];unfold seqIndex?;simp;lia
     ·rw [List.length_map,List.length_append];exact Nat.lt_succ_self _
     ·have:=nxt _ (H.ext hx' h3)
      rw [List.map_append] at this ⊢
      rw [List.set_append_right _ _ (by rw [List.length_map];exact Nat.le_refl _),List.length_map,Nat.sub_self]
      exact this
    ·refine mApp (.head _) ?_
     refine ⟨_,_,⟨.head⟩,⟨by rw [List.length_map];exact zz6⟩,?_⟩
     have:=nxt _ (H.app hx' (fun q e=>by rw [List.getLast?_append] at e;simp at e;subst e;exact h3))
     rw [List.map_append] at this
     exact this
   ·have e0:sp=[]:=Classical.byContradiction h2
    refine bf _ rfl ?_
    refine mApp (.head _) ?_
    refine ⟨_,_,⟨.head⟩,⟨by rw [List.length_map];exact zz6⟩,?_⟩
    have:=nxt _ (H.app hx' (fun q e=>by rw [e0] at e;cases e))
    rw [List.map_append] at this
    exact this
  ·exact nxt _ (H.skip (by rw [hx];exact congrArg some (Classical.byContradiction h1)))
 ·rintro m σ' ⟨sp,x4,rfl,rfl,H⟩
  rw [List.length_range] at H
  refine ⟨_,⟨.head _⟩,⟨?_⟩,hq sp q H⟩
  rw [List.length_map]
  have:=List.count_le_length (a:=true) (l:=held.take 128)
  rw [List.length_take] at this
  cases tr with
  |false=>have:=H.n1 rfl;lia
  |true=>have:=H.n2 rfl;lia
end Hd
end
section
open PySem PySem.W PySem.Calls PyProof.Rows NN
namespace Hd
variable {w:World}{d:Nat}{Q:V→NN.St→Prop}{a:Addr}{xs:List Int}{G:Int→Int→NN.St}
theorem V_eq {c:Cx}{n:Nat}{t:RT}{x y:Int}{K:List NN.Fr}{m:Mp}{σ:NN.St}(h:(mach c n).V (.asg t::K) (.bool (x == y)) m σ):(mach c (n+4)).V (.cmp1 .Eq (.val (.int y))::.boolV::.asg t::K) (.int x) m σ:=h
noncomputable def Lf0 (t:Tr):Prop:=OkT t∧sz t=1∧ht t=0
theorem leNN {i:Int}{a b:Nat}(e1:i=a:=by rfl){j:Int}(e2:j=b:=by rfl):decide (i≤j)=decide (a≤b):=by rw [e1,e2];simp
theorem subV {σ:NN.St}{v v':V}{P:V→NN.St→Prop}(h:P v σ)(e:v'=v):P v' σ:=e▸h
theorem back4 {σ:NN.St}{v:V}{p q r s:Addr×Cell}(h:Q v σ):NN.Back Q v (p::q::r::s::σ):=⟨_,_,.trans .drop (.trans .drop (.trans .drop .drop)),h⟩
theorem hl0_ok {c l:Nat}(hc:c<128)(h1:c≤l)(h2:l≤c+1):Hl (hl0 c l) c 2:=by
 refine ⟨by unfold hl0;simp,?_,?_⟩
 ·unfold hl0
  rw [List.count_eq_countP,List.countP_map,List.countP_eq_length_filter]
  have sub:((List.range 128).filter ((fun x=>x == true)∘fun i=>decide (c≤i) && decide (i≤l))).length≤[c,c+1].length:=by
   refine List.Nodup.length_le_of_subset (List.nodup_range.filter _) fun x hx=>?_
   have:=(List.mem_filter.mp hx).2
   simp at this
   simp;lia
  exact sub
 ·unfold hl0
  rw [List.getElem?_map,List.getElem?_range hc]
  simp [h1]
theorem k_leaf (H:PS a xs G){s r:Int}(hs:0≤s∧s≤90000)(hr:0≤r)(hq:∀ (t:Tr) (s' r':Int),Lf0 t→s≤s'→s'≤s+15→0≤r'→Q (tv t) (G s' r')) :
  CALL w (fr w.params) (d+2) (.ref 978) [.own a] (G s r) Q:=by
 have HC:∀ {n} {u v:Option V},PS a xs fun s r=>(n+1,.cel u)::(n,.cel v)::G s r:=(H.cons _).cons _
 refine O_leaf fun n=>?_
 refine ⟨k_draw HC (m:=8) ⟨by decide,by decide⟩ ⟨hs.1,by lia⟩ hr fun g s1 r1 hg a1 a2 a3=>?_⟩
 refine bq (p:=g=6) _ eqI (fun h1=>?_) fun h1=>?_
 ·intro b
  refine ⟨_,_,⟨.lst⟩,?_⟩
  refine ⟨k_draw HC (m:=2) ⟨by decide,by decide⟩ ⟨by exact zzh,by lia⟩ a3 fun g2 s2 r2 hg2 b1 b2 b3=>?_⟩
  obtain rfl | rfl:g2=0∨g2=1:=by lia
  ·exact ⟨_,tupN (c:=cx0 w tb d) (i:=0) rfl (by decide),back2 (hq .emp _ _ ⟨trivial,rfl,rfl⟩ (by exact zzf) (by lia) b3)⟩
  ·exact ⟨_,tupN (c:=cx0 w tb d) (i:=1) rfl (by decide),back2 (hq .nev _ _ ⟨trivial,rfl,rfl⟩ (by lia) (by lia) b3)⟩
 refine bq (p:=g=7) _ eqI (fun h2=>?_) fun h2=>?_
 ·exact back2 (hq (.chs [(0,9),(11,127)]) _ _ ⟨⟨⟨by decide,by decide⟩,by decide,by decide⟩,rfl,rfl⟩ (by omega) (by lia) a3)
 refine ⟨k_draw HC (m:=128) ⟨by decide,by decide⟩ ⟨by lia,by lia⟩ a3 fun c s2 r2 hc b1 b2 b3=>?_⟩
 refine ⟨_,_,⟨.tail .head⟩,?_⟩
 refine bq (p:=g<4) _ ltN (fun h3=>?_) fun h3=>?_
 ·refine ⟨_,⟨.tail _ (.head _)⟩,_,⟨.tail _ (.head _)⟩,?_⟩
  exact back2 (hq (.chs [(c,c)]) _ _ ⟨⟨⟨fun p hp=>by rw [List.mem_singleton.mp hp];exact ⟨Nat.le_refl _,hc⟩,by simp⟩,by simp,List.pairwise_singleton _ _⟩,rfl,rfl⟩ (by lia) (by lia) b3)
 refine ⟨_,⟨.tail _ (.head _)⟩,?_⟩
 refine ⟨k_draw HC (m:=2) ⟨by decide,by decide⟩ ⟨by exact zzi,by lia⟩ b3 fun g3 s3 r3 hg3 c1 c2 c3=>?_⟩
 refine ⟨_,_,⟨.head⟩,?_⟩
 refine compL (l:=List.range 128) (f:=fun i=>V.int ((i:Nat):Int)) (g:=fun i=>V.bool (decide (c≤i) && decide (i≤c+g3))) (σ:=(n+1,.cel (some (.int ((c:Int)+g3))))::(n,.cel (some (.int c)))::G s3 r3) ⟨⟨rfl,by decide,by decide⟩,(rng0 (b:=128) (by decide)).2⟩ (by decide) (fun i _ P hP=>?_) fun h=>?_
 ·refine ⟨_,⟨.tail _ (.head _)⟩,?_⟩
  refine bq (p:=c≤i) _ leNN (fun h4=>?_) fun h4=>?_
  ·refine ⟨_,⟨.head _⟩,?_⟩
   refine subV hP (congrArg V.bool ?_)
   rw [decide_eq_true h4,Bool.true_and]
   exact leNN (b:=c+g3)
  ·refine subV hP (congrArg V.bool ?_)
   rw [decide_eq_false h4,Bool.false_and]
 have HL:∀ {held:List Bool},PS a xs fun s r=>(h,.lst (held.map V.bool))::(n+1,.cel (some (.int ((c:Int)+g3))))::(n,.cel (some (.int c)))::G s r:=HC.cons _
 have e0:(List.range 128).map (fun i=>V.bool (decide (c≤i) && decide (i≤c+g3)))=(hl0 c (c+g3)).map V.bool:=by unfold hl0;rw [List.map_map];rfl
 rw [e0]
 refine ⟨k_draw HL (m:=3) ⟨by decide,by decide⟩ ⟨by lia,by lia⟩ c3 fun g4 s4 r4 hg4 d1 d2 d3=>?_⟩
 revert HL
 refine gen (n+1,Cell.cel (some (.int ((c:Int)+g3)))) fun p1 _=>gen (n,Cell.cel (some (.int (c:Int)))) fun p2 _ HL=>?_
 refine forL (l:=List.range (1+g4)) (f:=fun i=>V.int ((i:Nat):Int)) (fun dn m σ'=>∃ (held:List Bool) (s r:Int) (x4 x6 x7:Option V),m=[some (.own a),some (.int g),none,none,x4,some (.own h),x6,x7,none,none,none,none,none,none]∧σ'=(h,.lst (held.map V.bool))::p1::p2::G s r∧Hl held c (2+6*dn.length)∧s4≤s∧s≤s4+2*dn.length∧0≤r) ?_ ?_ ?_ ?_
 ·exact rng0 (b:=1+g4) (by lia)
 ·exact ⟨_,s4,r4,none,none,none,rfl,rfl,hl0_ok hc (by exact Nat.le_add_right _ _) (by lia),Int.le_refl _,by simp,d3⟩
 ·intro I dn i td m σ' e hJ nx
  refine fo fun Gx gx=>?_
  obtain ⟨held,s,r,x4,x6,x7,rfl,rfl,hh,e1,e2,e3⟩:=hJ
  refine gx ?_
  refine xAoo (rg_at e) fun er1 hi=>?_;subst er1
  refine ⟨k_draw HL (m:=128) ⟨by decide,by decide⟩ ⟨by lia,by lia⟩ e3 fun lw s5 r5 hlw f1 f2 f3=>?_⟩
  refine ⟨k_draw HL (m:=6) ⟨by decide,by decide⟩ ⟨by lia,by lia⟩ f3 fun g6 s6 r6 hg6 j1 j2 j3=>?_⟩
  refine ⟨((min (lw+1+g6) 128:Nat):Int),⟨by split<;>lia⟩,?_⟩
  refine forL (l:=List.range (min (lw+1+g6) 128 - lw)) (f:=fun i=>V.int ((lw+i:Nat):Int)) (fun dn2 m σ'=>∃ (held:List Bool) (x4:Option V),m=[some (.own a),some (.int g),none,none,x4,some (.own h),some (.int dn.length),some (.int lw),none,none,none,none,none,none]∧σ'=(h,.lst (held.map V.bool))::p1::p2::G s6 r6∧Hl held c (2+6*dn.length+dn2.length)) ?_ ?_ ?_ ?_
  ·exact rng_src (a:=lw) (b:=min (lw+1+g6) 128) (by exact zz9) (by lia)
  ·exact ⟨held,x4,rfl,rfl,hh⟩
  ·intro I dn2 y td2 m σ' e' hJ nx
   refine fo fun Gx gx=>?_
   obtain ⟨held2,x4,rfl,rfl,hh2⟩:=hJ
   refine gx ?_
   refine xAoo (rg_at e') fun er1 hi2=>?_;subst er1
   have hl2:=hh2.l
   refine sit_at (i:=lw+dn2.length) .head ?_ (by rw [List.length_map];lia) (by lia)
   refine nx ⟨held2.set (lw+dn2.length) true,_,rfl,by rw [List.map_set],?_⟩
   rw [List.length_append]
   exact hh2.set (by lia)
  ·rintro m σ' ⟨held2,x4,rfl,rfl,hh2⟩
   refine nx ⟨held2,s6,r6,_,_,_,rfl,rfl,⟨hh2.l,Nat.le_trans hh2.n ?_,hh2.c⟩,by lia,?_,j3⟩
   ·rw [List.length_append,List.length_singleton,List.length_range];lia
   ·rw [List.length_append,List.length_singleton];lia
 ·intro m σ' hJ
  refine fo fun Gx gx=>?_
  obtain ⟨held,s,r,x4,x6,x7,rfl,rfl,hh,e1,e2,e3⟩:=hJ
  refine gx ?_
  rw [List.length_range] at hh e2
  have fin:∀ (tr:Bool) (s' r':Int) (sp:Sp) (q:Addr),s≤s'→s'≤s+1→0≤r'→SpI held tr 128 sp→NN.Back Q (tv (.chs sp)) ((q,.lst (sp.map tn))::(h,.lst (held.map V.bool))::p1::p2::G s' r'):=fun tr s' r' sp q k1 k2 k3 hsp =>
   back4 (hq (.chs sp) _ _ ⟨hsp.ok hh.l (Nat.le_trans hh.n (by lia)) (hh.all (by lia) tr hc),rfl,rfl⟩ (by lia) (by lia) k3)
  refine bq (p:=g=5) _ eqI (fun h5=>?_) fun h5=>?_
  ·refine ⟨k_draw HL (m:=2) ⟨by decide,by decide⟩ ⟨by lia,by lia⟩ e3 fun g7 s7 r7 hg7 k1 k2 k3=>?_⟩
   refine V_eq (V_asg (F_seq ?_))
   exact leaf_tail hh.l fun sp q hsp=>fin _ _ _ sp q k1 k2 k3 hsp
  ·refine V_asg (F_seq ?_)
   exact leaf_tail hh.l fun sp q hsp=>fin _ _ _ sp q (Int.le_refl _) (by lia) e3 hsp
end Hd
end
section
open PySem PySem.W PySem.Calls PyProof.Rows NN
namespace Hd
variable {w:World}{d:Nat}{Q:V→NN.St→Prop}{a:Addr}{xs:List Int}{G:Int→Int→NN.St}
theorem pick_lo {g:Nat}(h:g<4):∃ lo:Nat,lo≤40∧[V.int 2,.int 0,.int 1,.int 40][g]?=some (.int lo):=by
 match g,h with
 |0,_=>exact ⟨2,by decide,rfl⟩
 |1,_=>exact ⟨0,by decide,rfl⟩
 |2,_=>exact ⟨1,by decide,rfl⟩
 |3,_=>exact ⟨40,by decide,rfl⟩
theorem pick_hi {g lo:Nat}(h:g<4)(hl:lo≤40):∃ hi:Option Nat,(∀ n,hi=some n→lo≤n∧n≤40)∧[V.int lo,.none,.int 40,.int (min (lo+1) 40:Nat)][g]?=some (hiV hi):=by
 match g,h with
 |0,_=>exact ⟨some lo,fun n e=>by cases e;exact ⟨Nat.le_refl _,hl⟩,rfl⟩
 |1,_=>exact ⟨none,(fun n e=>by cases e),rfl⟩
 |2,_=>exact ⟨some 40,fun n e=>by cases e;exact ⟨hl,Nat.le_refl _⟩,rfl⟩
 |3,_=>exact ⟨some (min (lo+1) 40),fun n e=>by cases e;lia,rfl⟩
theorem k_loop (H:PS a xs G){t:Tr}{g:Nat}(ht_:OkT t)(hg:g=4∨g=5∨g=6){s r:Int}(hs:0≤s∧s≤90000)(hr:0≤r)
  (hq:∀ (t':Tr) (s' r':Int),OkT t'→sz t'=sz t+1→s≤s'→s'≤s+2→0≤r'→Q (tv t') (G s' r')) :
  CALL w (fr w.params) (d+2) (.ref 985) [.own a,.int g,tv t] (G s r) Q:=by
 refine O__law_loop ?_
 refine bq (p:=g=4) _ eqI (fun h1=>?_) fun h1=>?_
 ·exact back' (hq (.star t) _ _ ht_ rfl (Int.le_refl _) (by lia) hr)
 refine bq (p:=g=5) _ eqI (fun h2=>?_) fun h2=>?_
 ·intro b
  refine ⟨_,_,⟨.lst⟩,?_⟩
  refine ⟨k_draw H (m:=2) ⟨by decide,by decide⟩ ⟨by exact zzd,by lia⟩ hr fun g2 s2 r2 hg2 b1 b2 b3=>?_⟩
  obtain rfl | rfl:g2=0∨g2=1:=by lia
  ·exact ⟨_,tupN (c:=cx0 w tb d) (i:=0) rfl (by decide),back' (hq (.plus t) _ _ ht_ rfl (by omega) (by lia) b3)⟩
  ·exact ⟨_,tupN (c:=cx0 w tb d) (i:=1) rfl (by decide),back' (hq (.opt t) _ _ ht_ rfl (by lia) (by lia) b3)⟩
 intro b
 refine ⟨_,_,⟨.lst⟩,?_⟩
 refine ⟨k_draw H (m:=4) ⟨by decide,by decide⟩ ⟨by lia,by lia⟩ hr fun g2 s2 r2 hg2 b1 b2 b3=>?_⟩
 refine xEAoo (pick_lo hg2) fun lo hlo elo=>?_
 refine ⟨_,tupN (c:=cx0 w tb d) (i:=g2) elo (by decide),?_⟩
 refine ⟨((min (lo+1) 40:Nat):Int),⟨by split<;>lia⟩,?_⟩
 intro b
 refine ⟨_,_,⟨.lst⟩,?_⟩
 refine ⟨k_draw H (m:=4) ⟨by decide,by decide⟩ ⟨by exact zzh,by lia⟩ b3 fun g3 s3 r3 hg3 c1 c2 c3=>?_⟩
 refine xEAoo (pick_hi hg3 hlo) fun hi hhi ehi=>?_
 refine ⟨_,tupN (c:=cx0 w tb d) (i:=g3) ehi (by simp),?_⟩
 exact back' (hq (.rep t lo hi) _ _ ⟨ht_,hlo,hhi⟩ rfl (by exact zzf) (by lia) c3)
end Hd
end
section
open PySem PySem.W PySem.Calls PyProof.Rows NN
namespace Hd
variable {w:World}{d:Nat}{Q:V→NN.St→Prop}{a:Addr}{xs:List Int}{G:Int→Int→NN.St}
theorem ht_sz:∀ {t:Tr},ht t<sz t
 |.emp=>Nat.zero_lt_one
 |.nev=>Nat.zero_lt_one
 |.chs _=>Nat.zero_lt_one
 |.cat a b=>by have:=ht_sz (t:=a);have:=ht_sz (t:=b);simp only [htE1,htE2,htE3,htE4,htE5,htE6,htE7,htE8,htE9,szE1,szE2,szE3,szE4,szE5,szE6,szE7,szE8,szE9];lia
 |.alt a b=>by have:=ht_sz (t:=a);have:=ht_sz (t:=b);simp only [htE1,htE2,htE3,htE4,htE5,htE6,htE7,htE8,htE9,szE1,szE2,szE3,szE4,szE5,szE6,szE7,szE8,szE9];lia
 |.star a=>Nat.succ_lt_succ ht_sz
 |.plus a=>Nat.succ_lt_succ ht_sz
 |.opt a=>Nat.succ_lt_succ ht_sz
 |.rep a _ _=>Nat.succ_lt_succ ht_sz
noncomputable def sums (l:List Tr):Nat:=(l.map sz).sum
theorem sums_app {l r:List Tr}:sums (l++r)=sums l+sums r:=by unfold sums;rw [List.map_append,List.sum_append]
theorem sums_one {t:Tr}:sums [t]=sz t:=by unfold sums;simp
theorem dats_tr:∀ {l:List Tr},datsO (l.map tv)=some (l.map dT)
 |[]=>rfl
 |t::l=>by rw [List.map_cons];unfold datsO;rw [dats_tr,dT_dat];rfl
theorem lay_tr:∀ {l:List Tr},PyData.canLayAll0 (l.map dT)=true
 |[]=>rfl
 |t::l=>by show ((dT t).canLay0 && PyData.canLayAll0 (l.map dT))=true;rw [dT_lay,lay_tr];rfl
theorem dep_tr:∀ {l:List Tr},PyData.depthAll (l.map dT)≤sums l+3
 |[]=>Nat.zero_le _
 |t::l=>by
  show max (dT t).depth (PyData.depthAll (l.map dT))≤sums ([t]++l)+3
  have h1:=dT_depth (t:=t)
  have h2:=ht_sz (t:=t)
  have h3:=dep_tr (l:=l)
  rw [sums_app,sums_one];lia
theorem dat_tr {σ:NN.St}{q:Addr}{l:List Tr}(h:sums l≤50):Lf (DAT ((q,.lst (l.map tv))::σ) (.own q) (.list (l.map dT))∧DAT ((q,.lst (l.map tv))::σ) (.lst []) (.list [])∧SeqAt.shaped (.list (l.map dT))=true∧SeqAt.shaped (.list [])=true):=by
 refine ⟨.own (.head _) dats_tr,.pure rfl,?_,rfl⟩
 have h1:(PyData.list (l.map dT)).canLay0=true:=lay_tr
 have h2:(PyData.list (l.map dT)).depth=PyData.depthAll (l.map dT)+1:=rfl
 have h3:=dep_tr (l:=l)
 unfold SeqAt.shaped
 rw [h1,decide_eq_true (by lia)];rfl
theorem ne_tr {l:List Tr}:(!((PyData.list (l.map dT)).eqv (.list [])))=decide (l≠[]):=by
 cases l with
 |nil=>rfl
 |cons x xs=>rw [decide_eq_true (by simp)];rfl
structure Pl (l:List Tr)(n:Nat):Prop where
 ok:∀ t∈l,OkT t
 s:sums l≤n
theorem Pl.push {l:List Tr}{n:Nat}{t:Tr}(H:Pl l n)(ht:Lf0 t):Pl (l++[t]) (n+1):=by
 refine ⟨fun x hx=>?_,?_⟩
 ·rcases List.mem_append.mp hx with hx | hx
  ·exact H.ok x hx
  ·rw [List.mem_singleton.mp hx];exact ht.1
 ·have:=H.s;rw [sums_app,sums_one,ht.2.1];exact zz3
theorem Pl.swap {l:List Tr}{n:Nat}{t t':Tr}(H:Pl (l++[t]) n)(ho:OkT t')(hz:sz t'=sz t+1):Pl (l++[t']) (n+1):=by
 refine ⟨fun x hx=>?_,?_⟩
 ·rcases List.mem_append.mp hx with hx | hx
  ·exact H.ok x (List.mem_append_left _ hx)
  ·rw [List.mem_singleton.mp hx];exact ho
 ·have:=H.s;rw [sums_app,sums_one] at this ⊢;lia
theorem Pl.join {l:List Tr}{n:Nat}{t u x:Tr}(H:Pl (l++[t]++[u]) n)(hx:x=.cat t u∨x=.alt t u):Pl (l++[x]) (n+1):=by
 have h1:=H.ok t (by simp)
 have h2:=H.ok u (by simp)
 have h3:=H.s
 rw [sums_app,sums_app,sums_one,sums_one] at h3
 refine ⟨fun y hy=>?_,?_⟩
 ·rcases List.mem_append.mp hy with hy | hy
  ·exact H.ok y (List.mem_append_left _ (List.mem_append_left _ hy))
  ·rw [List.mem_singleton.mp hy];rcases hx with rfl | rfl<;>exact ⟨h1,h2⟩
 ·have:sz x=sz t+sz u+1:=by rcases hx with rfl | rfl<;>rfl
  rw [sums_app,sums_one];lia
theorem last_at {q:Addr}{us:List V}{v:V}{σ:NN.St}{P:V→Prop}(h:P v)(hl:us.length≤1000):∃ vs x,Lf ((q,Cell.lst vs)∈(q,Cell.lst (us++[v]))::σ)∧Lf (itemAt vs (-1) x)∧P x :=
 ⟨_,_,⟨.head _⟩,⟨.inr ⟨rfl,us,rfl,by exact zz8⟩⟩,h⟩
theorem sit_last {M:Mc}{q:Addr}{us:List V}{u v:V}{K:List Fr}{m:Mp}{σ:NN.St}(h:M.F K .next m ((q,.lst (us++[v]))::σ))(hl:us.length≤1000):∃ vs j σ₄,Lf (seqIndex? (-1) vs.length=some j∧j<vs.length ∧ -(2^62)<(-1:Int)∧(-1:Int)<2^62)∧Lf (Upc q (.lst vs) (.lst (vs.set j v)) ((q,.lst (us++[u]))::σ) σ₄)∧M.F K .next m σ₄:=by
 refine ⟨_,us.length,_,⟨?_,?_,by decide,by decide⟩,⟨.head⟩,?_⟩
 ·rw [List.length_append];unfold seqIndex?;simp;lia
 ·rw [List.length_append];exact Nat.lt_succ_self _
 ·rw [List.set_append_right _ _ (Nat.le_refl _),Nat.sub_self];exact h
theorem two_last {l:List Tr}(h:2≤l.length):∃ l' t u,l=l'++[t]++[u]:=by
 rcases List.eq_nil_or_concat l with rfl | ⟨l1,u,rfl⟩
 ·cases h
 rw [List.concat_eq_append] at h ⊢
 rcases List.eq_nil_or_concat l1 with rfl | ⟨l2,t,rfl⟩
 ·simp at h
 exact ⟨l2,t,u,by rw [List.concat_eq_append]⟩
theorem join2 {n:Nat}(h:n<2){t u:Tr}:∃ x k,(x=Tr.cat t u∨x=.alt t u)∧[V.str (tx [99,97,116]),.str (tx [97,108,116])][n]?=some (.str (tx k))∧tv x=.tup [.str (tx k),tv t,tv u]:=by
 match n,h with
 |0,_=>exact ⟨_,_,.inl rfl,rfl,rfl⟩
 |1,_=>exact ⟨_,_,.inr rfl,rfl,rfl⟩
theorem map_last {l:List Tr}{t:Tr}:(l++[t]).map tv=l.map tv++[tv t]:=by rw [List.map_append];rfl
end Hd
end
section
open PySem PySem.W PySem.Calls PyProof.Rows NN
namespace Hd
variable {w:World}{d:Nat}{Q:V→NN.St→Prop}{a:Addr}{xs:List Int}{G:Int→Int→NN.St}
theorem k_tree (H:PS a xs G){T:Nat}(hT:1≤T∧T≤4){s r:Int}(hs:0≤s∧s≤80000)(hr:0≤r)
  (hq:∀ (t:Tr) (s' r':Int),OkT t→sz t≤11→s≤s'→s'≤s+160→0≤r'→Q (tv t) (G s' r')) :
  CALL w (fr w.params) (d+3) (.ref 992) [.own a,.int T] (G s r) Q:=by
 refine O__law_tree ?_
 intro p
 refine ⟨_,_,⟨.rfl⟩,?_⟩
 have HP:∀ {l:List V},PS a xs fun s r=>(p,.lst l)::G s r:=H.cons _
 refine ⟨k_draw HP (m:=4) ⟨by decide,by decide⟩ ⟨by exact zzd,by lia⟩ hr fun g s1 r1 hg a1 a2 a3=>?_⟩
 refine forL (l:=List.range (T+g)) (f:=fun i=>V.int ((i:Nat):Int)) (fun dn m σ'=>∃ (l:List Tr) (s r:Int) (x3 x4 x5:Option V),m=[some (.own a),some (.int T),some (.own p),x3,x4,x5,none,none,none,none,none]∧σ'=(p,.lst (l.map tv))::G s r∧Pl l dn.length∧l.length≤5∧(dn≠[]→l≠[])∧s1≤s∧s≤s1+20*dn.length∧0≤r) ?_ ?_ ?_ ?_
 ·exact rng0 (b:=T+g) (by lia)
 ·exact ⟨[],s1,r1,none,none,none,rfl,rfl,⟨fun t h=>(by cases h),Nat.le_refl _⟩,by decide,(fun h=>absurd rfl h),Int.le_refl _,by simp,a3⟩
 ·intro I dn i td m σ' e hJ nx
  refine fo fun Gx gx=>?_
  obtain ⟨l,s2,r2,x3,x4,x5,rfl,rfl,hP,hl5,hne,b1,b2,b3⟩:=hJ
  refine gx ?_
  refine xAoo (rg_at e) fun er1 hi=>?_;subst er1
  have nxt:∀ {m:Mp} {σ:NN.St} (l':List Tr) (s3 r3:Int) (x3 x4 x5:Option V),m=[some (.own a),some (.int T),some (.own p),x3,x4,x5,none,none,none,none,none]→σ=(p,.lst (l'.map tv))::G s3 r3→Pl l' (dn.length+1)→l'.length≤5→l'≠[]→s1≤s3→s3≤s2+20→0≤r3 →
    I (dn.length+1) m σ:=by
   intro m σ l' s3 r3 x3 x4 x5 em es h1 h2 h3 h4 h5 h6
   refine nx ⟨l',s3,r3,x3,x4,x5,em,es,?_,h2,fun _=>h3,h4,?_,h6⟩
   ·rw [List.length_append];exact h1
   ·rw [List.length_append,List.length_singleton];lia
  have hsz:sums l≤50:=by have:=hP.s;lia
  refine ⟨k_draw HP (m:=11) ⟨by decide,by decide⟩ ⟨by exact zzi,by lia⟩ b3 fun g3 s3 r3 hg3 c1 c2 c3=>?_⟩
  have leaf:∀ {Q:V→NN.St→Prop},(∀ (t:Tr) (s' r':Int),Lf0 t→s3≤s'→s'≤s3+15→0≤r'→Q (tv t) ((p,.lst (l.map tv))::G s' r'))→CALL w (fr w.params) (d+2) (.ref 978) [.own a] ((p,.lst (l.map tv))::G s3 r3) Q:=fun h=>k_leaf HP ⟨by lia,by lia⟩ c3 h
  have fin:∀ {m:Mp} (t:Tr) (s' r':Int) (x3 x4 x5:Option V),m=[some (.own a),some (.int T),some (.own p),x3,x4,x5,none,none,none,none,none]→l.length<5→Lf0 t→s3≤s'→s'≤s3+15→0≤r'→I (dn.length+1) m ((p,.lst (l.map tv++[tv t]))::G s' r'):=fun t s' r' x3 x4 x5 em h1 h2 h3 h4 h5 =>
   nxt (l++[t]) s' r' x3 x4 x5 em (by rw [map_last]) (hP.push h2) (by rw [List.length_append,List.length_singleton];assumption) (by simp) (by lia) (by lia) h5
  intro b
  refine ⟨_,_,⟨.lst⟩,?_⟩
  refine ⟨_,_,dat_tr hsz,?_⟩
  refine bq _ ne_tr (fun h1=>?_) fun h1=>?_
  ·refine bq (p:=4≤g3) _ (leNN (a:=4)) (fun h2=>?_) fun h2=>?_
   ·refine bq (p:=g3≤6) _ (leNN (b:=6)) (fun h3=>?_) fun h3=>?_
    ·clear fin leaf
     refine xEEo (⟨_,_,(List.dropLast_concat_getLast h1).symm⟩:∃ l' t,l=l'++[t]) fun l' t er1=>?_;subst er1
     rw [map_last]
     rw [List.length_append,List.length_singleton] at hl5
     refine last_at ?_ (by rw [List.length_map];exact zz9)
     refine ⟨k_loop HP (t:=t) (hP.ok t (by simp)) (by lia) ⟨by lia,by lia⟩ c3 fun t' s4 r4 d1 d2 d3 d4 d5=>?_⟩
     refine sit_last ?_ (by rw [List.length_map];lia)
     exact nxt (l'++[t']) s4 r4 _ _ _ rfl (by rw [map_last]) (hP.swap d1 d2) (by rw [List.length_append,List.length_singleton];omega) (by simp) (by lia) (by lia) d5
    ·refine ⟨_,⟨.head _⟩,⟨by rw [List.length_map];exact zz6⟩,?_⟩
     refine bq (p:=1<l.length) _ (by rw [List.length_map];exact gtN (b:=1)) (fun h4=>?_) fun h4=>?_
     ·refine bt _ (by rw [gtN (b:=6)];exact decide_eq_true (by exact zzn)) ?_
      clear fin leaf
      refine xEEEo (two_last h4) fun l' t u er1=>?_;subst er1
      rw [List.length_append,List.length_append,List.length_singleton,List.length_singleton] at hl5
      rw [map_last]
      refine mPop (.head _) ?_
      refine ⟨_,_,_,⟨.head⟩,⟨by rw [List.length_map,List.length_append,List.length_singleton];exact zz9⟩,?_⟩
      refine xEEAoAoo (join2 (n:=g3 % 2) (Nat.mod_lt _ (by decide)) (t:=t) (u:=u)) fun x k hx ek etv=>?_
      intro b
      refine ⟨_,_,⟨.lst⟩,?_⟩
      refine ⟨⟨by decide⟩,((g3 % 2:Nat):Int),⟨fm⟩,?_⟩
      refine ⟨_,tupN (c:=cx0 w tb d) (i:=g3 % 2) ek (by decide),?_⟩
      rw [map_last]
      refine last_at ?_ (by rw [List.length_map];lia)
      refine sit_last ?_ (by rw [List.length_map];lia)
      exact nxt (l'++[x]) s3 r3 _ _ _ rfl (by rw [map_last,etv];rfl) (hP.join hx) (by rw [List.length_append,List.length_singleton];exact zz5) (by simp) (by exact zzf) (by lia) c3
     ·refine bf _ rfl ?_
      refine ⟨_,⟨.head _⟩,⟨by rw [List.length_map];exact zz6⟩,?_⟩
      refine bt _ (by rw [List.length_map,ltN (b:=5)];exact decide_eq_true (by lia)) ?_
      refine mApp (.head _) ?_
      refine ⟨leaf fun t s' r' f1 f2 f3 f4=>⟨_,_,⟨.head⟩,⟨by rw [List.length_map];exact zz6⟩,fin t s' r' _ _ _ rfl (by lia) f1 f2 f3 f4⟩⟩
   ·refine bf _ rfl ?_
    refine ⟨_,⟨.head _⟩,⟨by rw [List.length_map];lia⟩,?_⟩
    refine bq (p:=1<l.length) _ (by rw [List.length_map];exact gtN (b:=1)) (fun h4=>?_) fun h4=>?_
    ·refine bf _ (by rw [gtN (b:=6)];exact decide_eq_false (by lia)) ?_
     refine ⟨_,⟨.head _⟩,⟨by rw [List.length_map];lia⟩,?_⟩
     refine bq (p:=l.length<5) _ (by rw [List.length_map];exact ltN (b:=5)) (fun h5=>?_) fun h5=>?_
     ·refine mApp (.head _) ?_
      refine ⟨leaf fun t s' r' f1 f2 f3 f4=>⟨_,_,⟨.head⟩,⟨by rw [List.length_map];lia⟩,fin t s' r' _ _ _ rfl (by lia) f1 f2 f3 f4⟩⟩
     ·exact nxt l s3 r3 _ _ _ rfl rfl ⟨hP.ok,Nat.le_succ_of_le hP.s⟩ hl5 h1 (by lia) (by lia) c3
    ·refine bf _ rfl ?_
     refine ⟨_,⟨.head _⟩,⟨by rw [List.length_map];lia⟩,?_⟩
     refine bt _ (by rw [List.length_map,ltN (b:=5)];exact decide_eq_true (by lia)) ?_
     refine mApp (.head _) ?_
     refine ⟨leaf fun t s' r' f1 f2 f3 f4=>⟨_,_,⟨.head⟩,⟨by rw [List.length_map];lia⟩,fin t s' r' _ _ _ rfl (by lia) f1 f2 f3 f4⟩⟩
  ·refine bf _ rfl ?_
   have e0:l=[]:=Classical.byContradiction h1
   have el:l.length=0:=by rw [e0];rfl
   refine ⟨_,⟨.head _⟩,⟨by rw [List.length_map];lia⟩,?_⟩
   refine bf _ (by rw [List.length_map,gtN (b:=1)];exact decide_eq_false (by lia)) ?_
   refine bf _ rfl ?_
   refine ⟨_,⟨.head _⟩,⟨by rw [List.length_map];lia⟩,?_⟩
   refine bt _ (by rw [List.length_map,ltN (b:=5)];exact decide_eq_true (by lia)) ?_
   refine mApp (.head _) ?_
   refine ⟨leaf fun t s' r' f1 f2 f3 f4=>⟨_,_,⟨.head⟩,⟨by rw [List.length_map];lia⟩,fin t s' r' _ _ _ rfl (by lia) f1 f2 f3 f4⟩⟩
 ·intro m σ' hJ
  refine fo fun Gx gx=>?_
  obtain ⟨l,s2,r2,x3,x4,x5,rfl,rfl,hP,hl5,hne,b1,b2,b3⟩:=hJ
  refine gx ?_
  rw [List.length_range] at hP b2
  have hl1:l≠[]:=hne (by intro q;have:=congrArg List.length q;rw [List.length_range] at this;simp at this;lia)
  have h7:=hP.s
  refine whlL (fun n m σ=>∃ (l:List Tr) (s r:Int) (x3 x4 x5:Option V),n=l.length∧m=[some (.own a),some (.int T),some (.own p),x3,x4,x5,none,none,none,none,none]∧σ=(p,.lst (l.map tv))::G s r∧Pl l (12 - l.length)∧l.length≤5∧l≠[]∧s1≤s∧s+l.length≤s1+150∧0≤r) l.length ⟨l,s2,r2,x3,x4,x5,rfl,rfl,rfl,⟨hP.ok,by lia⟩,hl5,hl1,b1,by lia,b3⟩ ?_
  intro I n m σ hJ nx
  refine fo fun Gx gx=>?_
  obtain ⟨l,s2,r2,x3,x4,x5,rfl,rfl,rfl,hP,hl5,hl1,b1,b2,b3⟩:=hJ
  refine gx ?_
  refine ⟨_,⟨.head _⟩,⟨by rw [List.length_map];lia⟩,?_⟩
  refine bq (p:=1<l.length) _ (by rw [List.length_map];exact gtN (b:=1)) (fun h4=>?_) fun h4=>?_
  ·refine xEEEo (two_last h4) fun l' t u er1=>?_;subst er1
   have el:(l'++[t]++[u]).length=l'.length+2:=by rw [List.length_append,List.length_append];rfl
   rw [el] at hl5 b2 hP
   rw [map_last]
   refine mPop (.head _) ?_
   refine ⟨_,_,_,⟨.head⟩,⟨by rw [List.length_map,List.length_append,List.length_singleton];lia⟩,?_⟩
   intro b
   refine ⟨_,_,⟨.lst⟩,?_⟩
   refine ⟨k_draw HP (m:=2) ⟨by decide,by decide⟩ ⟨by lia,by lia⟩ b3 fun g3 s3 r3 hg3 c1 c2 c3=>?_⟩
   refine xEEAoAoo (join2 hg3 (t:=t) (u:=u)) fun x k hx ek etv=>?_
   refine ⟨_,tupN (c:=cx0 w tb d) (i:=g3) ek (by decide),?_⟩
   rw [map_last]
   refine last_at ?_ (by rw [List.length_map];lia)
   refine sit_last ?_ (by rw [List.length_map];lia)
   have el2:(l'++[x]).length=l'.length+1:=by rw [List.length_append];rfl
   refine nx (n':=l'.length+1) (by lia) ⟨l'++[x],s3,r3,_,_,_,el2.symm,rfl,by rw [map_last,etv];rfl,?_,by lia,by simp,by lia,by lia,c3⟩
   have:=hP.join hx
   rw [el2]
   exact ⟨this.ok,by have:=this.s;lia⟩
  ·refine xEo (by
    rcases l with _ | ⟨t,_ | ⟨u,l⟩⟩
    ·exact absurd rfl hl1
    ·exact ⟨t,rfl⟩
    ·simp at h4:∃ t,l=[t]) fun t er1=>?_;subst er1
   refine own_at (i:=0) (.head _) rfl ?_
   have h8:=hP.s
   rw [sums_one] at h8
   rw [List.length_singleton] at b2 h8
   exact back1 (hq t _ _ (hP.ok t (.head _)) (by lia) (by lia) (by lia) b3)
end Hd
end
section
open PySem PySem.W PySem.Calls PyProof.Rows NN
namespace Hd
inductive Sc (r:Sp):List Nat→Nat→List Nat→Sp→Bool→Prop
 |nil {k:Nat} {op:List Nat} {b:Bool}:Sc r [] k op r b
 |esc {c k:Nat} {z op:List Nat} {fd:Sp} {b:Bool}:Sc r z (k+2) op fd b→Sc r (92::c::z) k op fd b
 |inc {c k:Nat} {z op:List Nat} {fd:Sp}:c≠92→Sc r z (k+1) op fd (decide (c≠93))→Sc r (c::z) k op fd true
 |opc {k:Nat} {z op:List Nat} {fd:Sp}:Sc r z (k+1) op fd true→Sc r (91::z) k op fd false
 |opn {k:Nat} {z op:List Nat} {fd:Sp}:Sc r z (k+1) (k::op) fd false→Sc r (40::z) k op fd false
 |cls {k o:Nat} {z op:List Nat} {fd:Sp}:Sc r z (k+1) op (fd++[(o,k)]) false→Sc r (41::z) k (o::op) fd false
 |oth {c k:Nat} {z op:List Nat} {fd:Sp}:c∉[92,91,40,41,32,10,9]→Sc r z (k+1) op fd false→Sc r (c::z) k op fd false
variable {r:Sp}
noncomputable def PaB (b:Bool)(c:Nat):Prop:=if b=true then c≠92∧c≠93 else c∉[92,91,40,41,32,10,9]
theorem Sc.pass1 {c k:Nat}{z op:List Nat}{fd:Sp}{b:Bool}(h:PaB b c)(H:Sc r z (k+1) op fd b):Sc r (c::z) k op fd b:=by
 cases b with
 |true=>exact .inc h.1 (by rw [decide_eq_true h.2];exact H)
 |false=>exact .oth h H
theorem Sc.pass {b:Bool}{op:List Nat}{fd:Sp}{z:List Nat}:∀ {y:List Nat} {k:Nat},(∀ c∈y,PaB b c)→Sc r z (k+y.length) op fd b→Sc r (y++z) k op fd b
 |[],k,_,H=>H
 |c::y,k,h,H=>.pass1 (h c (.head _)) (Sc.pass (y:=y) (k:=k+1) (fun x hx=>h x (.tail _ hx)) (by rw [Nat.add_assoc,Nat.add_comm 1];exact H))
theorem pa_hx:∀ n,n<16→∀ b,PaB b (hx n):=by unfold PaB hx;decide
theorem Sc.code {b:Bool}{op:List Nat}{fd:Sp}{y z:List Nat}{c k:Nat}(h:Cd y c)(hp:∀ x,y=[x]→PaB b x)(H:Sc r z (k+y.length) op fd b):Sc r (y++z) k op fd b:=by
 cases h with
 |raw=>exact .pass1 (hp _ rfl) H
 |esc h =>
  cases h with
  |n=>exact .esc H
  |t=>exact .esc H
  |@x a b' h1 h2 h3=>exact .esc (.pass1 (pa_hx _ h1 _) (.pass1 (pa_hx _ h2 _) H))
  |c=>exact .esc H
theorem Sc.item {op:List Nat}{fd:Sp}{y z:List Nat}{p:Nat×Nat}{k:Nat}(h:CI y p)(H:Sc r z (k+y.length) op fd true):Sc r (y++z) k op fd true:=by
 have one:∀ {y:List Nat} {c:Nat},Cd y c→HO y→∀ x,y=[x]→PaB true x:=by
  intro y c h ho x e
  refine xEEAoAoo ho fun x' z' e' h1 _=>?_
  rw [e] at e' h
  cases e'
  cases h with
  |raw h=>exact ⟨h,h1⟩
  |esc h=>cases h
 cases h with
 |one h ho=>exact .code h (one h ho) H
 |@two y z' x x' h ho h' ho' _ =>
  rw [List.append_assoc,List.cons_append]
  refine .code h (one h ho) (.pass1 ⟨by decide,by decide⟩ (.code h' (one h' ho') ?_))
  rw [List.length_append,List.length_cons] at H
  rw [show k+y.length+1+z'.length=k+(y.length+(z'.length+1)) by lia]
  exact H
theorem Sc.items {op:List Nat}{fd:Sp}{z:List Nat}:∀ {its:List (List Nat×(Nat×Nat))} {k:Nat},(∀ x∈its,CI x.1 x.2)→Sc r z (k+(fl its).length) op fd true→Sc r (fl its++z) k op fd true
 |[],k,_,H=>H
 |x::its,k,h,H=>by
  have e:fl (x::its)=x.1++fl its:=rfl
  rw [e,List.append_assoc]
  refine .item (h x (.head _)) (Sc.items (fun q hq=>h q (.tail _ hq)) ?_)
  rw [e,List.length_append] at H
  rw [Nat.add_assoc];exact H
theorem Sc.at {op:List Nat}{fd:Sp}{y z:List Nat}{u:Tr}{k:Nat}(h:At none y u)(H:Sc r z (k+y.length) op fd false):Sc r (y++z) k op fd false:=by
 cases h with
 |sgn h hs =>
  refine .code h (fun x e=>?_) H
  refine xEEAoo hs fun x' z' e' hb=>?_
  rw [e] at e' h
  cases e'
  have h9:x≠92:=by
   cases h with
   |raw h=>exact h
   |esc h=>cases h
  show x∉_
  exact fun q=>(List.mem_cons.mp q).elim h9 fun q=>nsub hb (by decide) q
 |dot=>exact .pass1 (b:=false) (by unfold PaB;decide) H
 |@cls its b u h1 h2 h3 h4 h5 h6 =>
  refine .opc ?_
  show Sc r (((if b=true then [94] else [])++(fl its++[93]))++z) (k+1) op fd true
  rw [List.append_assoc,List.append_assoc]
  have k1:Sc r (fl its++([93]++z)) (k+1+(if b=true then [94] else []).length) op fd true:=by
   refine .items h2 (.inc (by decide) ?_)
   rw [show k+1+(if b=true then [94] else []).length+(fl its).length+1=k+(91::((if b=true then [94] else [])++(fl its++[93]))).length by simp only [List.length_cons,List.length_append,List.length_nil];lia]
   exact H
  cases b with
  |true=>exact .pass1 ⟨by decide,by decide⟩ k1
  |false=>exact k1
 |dfn h=>cases h
theorem pa_lp {l:Lp}(h:lpO l):∀ c∈lpT l,PaB false c:=by
 have fg:∀ {n c:Nat},n≤40→c∈dec n→PaB false c:=fun hn hc=>by
  have:=fig_mem.mp (dec_fig hn _ hc)
  exact (show ∀ c,c<58→48≤c→c∉[92,91,40,41,32,10,9] by decide) _ (Nat.lt_succ_of_le this.2) this.1
 have o1:∀ {n:Nat},(n=123∨n=44∨n=125∨n=42∨n=43∨n=63)→PaB false n:=fun h=>by
  rcases h with e | e | e | e | e | e<;>(subst e;show _∉_;decide)
 intro c hc
 cases l with
 |st=>exact o1 (by rw [List.mem_singleton.mp hc];decide)
 |pl=>exact o1 (by rw [List.mem_singleton.mp hc];decide)
 |op=>exact o1 (by rw [List.mem_singleton.mp hc];decide)
 |rp lo hi =>
  refine xAoo h fun h1 h2=>?_
  cases hi with
  |none =>
   rcases List.mem_append.mp hc with hc | hc
   ·rcases List.mem_append.mp hc with hc | hc
    ·exact o1 (.inl (List.mem_singleton.mp hc))
    ·exact fg h1 hc
   ·rcases List.mem_cons.mp hc with rfl | hc
    ·exact o1 (by decide)
    ·exact o1 (by rw [List.mem_singleton.mp hc];decide)
  |some n =>
   have h3:=h2 n rfl
   have hc:c∈(if n=lo then [123]++dec lo++[125] else [123]++dec lo++[44]++dec n++[125]):=hc
   split at hc
   ·rcases List.mem_append.mp hc with hc | hc
    ·rcases List.mem_append.mp hc with hc | hc
     ·exact o1 (.inl (List.mem_singleton.mp hc))
     ·exact fg h1 hc
    ·exact o1 (by rw [List.mem_singleton.mp hc];decide)
   ·rcases List.mem_append.mp hc with hc | hc
    ·rcases List.mem_append.mp hc with hc | hc
     ·rcases List.mem_append.mp hc with hc | hc
      ·rcases List.mem_append.mp hc with hc | hc
       ·exact o1 (.inl (List.mem_singleton.mp hc))
       ·exact fg h1 hc
      ·exact o1 (by rw [List.mem_singleton.mp hc];decide)
     ·exact fg h3.2 hc
    ·exact o1 (by rw [List.mem_singleton.mp hc];decide)
theorem sh_app {n:Nat}{a b:Sp}:sh n (a++b)=sh n a++sh n b:=List.map_append
theorem sh_sh {n m:Nat}{a:Sp}:sh n (sh m a)=sh (n+m) a:=by
 unfold sh
 rw [List.map_map]
 exact List.map_congr_left fun p _=>Prod.ext (show p.1+m+n=p.1+(n+m) by lia) (show p.2+m+n=p.2+(n+m) by lia)
theorem sh_0 {a:Sp}:sh 0 a=a:=List.map_id a
theorem Sc.ps {l:Nat}{y:List Nat}{u:Tr}{ps:Sp}{s:Nat}(h:Ps none l y u ps s):∀ {z op:List Nat} {fd:Sp} {k:Nat},Sc r z (k+y.length) op (fd++sh k ps) false→Sc r (y++z) k op fd false:=by
 induction h with
 |atom h=>intro z op fd k H;exact .at h (by simpa [sh] using H)
 |emp=>intro z op fd k H;exact .opn (.cls (by simp only [sh,List.map_cons,List.map_nil,Nat.zero_add,Nat.add_comm 1 k] at H;exact H))
 |@grp y u ps s _ ih =>
  intro z op fd k H
  refine .opn ?_
  show Sc r ((y++[41])++z) (k+1) (k::op) fd false
  rw [List.append_assoc]
  refine ih (.cls ?_)
  rw [sh_app,sh_sh,←List.append_assoc] at H
  simp only [List.length_cons,List.length_append,List.length_nil] at H
  rw [show k+1+y.length+1=k+(y.length+(0+1)+1) by lia]
  have e:sh k [(0,y.length+1)]=[(k,k+1+y.length)]:=by
   show [(0+k,y.length+1+k)]=_
   rw [Nat.zero_add,show y.length+1+k=k+1+y.length by lia]
  rw [e] at H
  exact H
 |@suf y u ps s l _ hl ih =>
  intro z op fd k H
  rw [List.append_assoc]
  refine ih (.pass (pa_lp hl) ?_)
  rw [List.length_append] at H
  rw [Nat.add_assoc];exact H
 |row1 _ ih=>exact ih
 |@rowS y y' u u' ps ps' s s' _ _ ih ih' =>
  intro z op fd k H
  rw [List.append_assoc]
  refine ih (ih' ?_)
  rw [sh_app,sh_sh,List.length_append,←List.append_assoc] at H
  rw [Nat.add_assoc];exact H
 |alt1 _ ih=>exact ih
 |@altS y y' u u' ps ps' s s' _ _ ih ih' =>
  intro z op fd k H
  rw [List.append_assoc,List.cons_append]
  refine ih (.pass1 (b:=false) (by unfold PaB;decide) (ih' ?_))
  rw [sh_app,sh_sh,List.length_append,List.length_cons,←List.append_assoc] at H
  rw [show k+y.length+1+y'.length=k+(y.length+(y'.length+1)) by lia,show k+y.length+1=k+(y.length+1) by lia]
  exact H
theorem sc_of {y:List Nat}{u:Tr}{ps:Sp}{s:Nat}(h:Ps none 0 y u ps s):Sc ps y 0 [] [] false:=by
 have:=Sc.ps (r:=ps) h (z:=[]) (op:=[]) (fd:=[]) (k:=0) (by rw [sh_0];exact .nil)
 rw [List.append_nil] at this
 exact this
end Hd
end
section
open PySem PySem.W PySem.Calls PyProof.Rows NN
namespace Hd
variable {w:World}{d:Nat}{Q:V→NN.St→Prop}{σ:NN.St}
theorem eqc {c b:Nat}:((⟨#[c]⟩:PySem.Str) == tx [b])=decide (c=b):=eq1
theorem nec {c b:Nat}:((⟨#[c]⟩:PySem.Str) != tx [b])=decide (c≠b):=by rw [bne,eqc];by_cases h:c=b<;>simp [h]
noncomputable abbrev ops (op:List Nat):List V:=op.reverse.map fun i=>V.int ((i:Nat):Int)
theorem k_pairs {y:List Nat}{ps:Sp}(h:Sc ps y 0 [] [] false)(hl:y.length≤1000000)(hq:Q (.lst (ps.map tn)) σ):CALL w (fr w.params) (d+1) (.ref 1006) [.str (tx y)] σ Q:=by
 refine O__law_pairs ?_
 intro f
 refine ⟨_,_,⟨.rfl⟩,?_⟩
 intro o
 refine ⟨_,_,⟨.rfl⟩,?_⟩
 refine whlL (fun n m σ'=>∃ (z op:List Nat) (k:Nat) (fd:Sp) (b:Bool) (x:Option V),n=z.length∧y.drop k=z∧Sc ps z k op fd b∧op.length≤k∧fd.length≤k∧k≤y.length∧m=[some (.str (tx y)),some (.own f),some (.own o),some (.bool b),some (.int k),x,none]∧σ'=(o,.lst (ops op))::(f,.lst (fd.map tn))::σ) (y.length) ⟨y,[],0,[],false,none,rfl,rfl,h,Nat.le_refl _,Nat.le_refl _,Nat.zero_le _,rfl,rfl⟩ ?_
 intro I n m σ' hJ nx
 refine fo fun Gx gx=>?_
 obtain ⟨z,op,k,fd,b,x,rfl,hd,H,g1,g2,g3,rfl,rfl⟩:=hJ
 refine gx ?_
 refine ⟨⟨by rw [tx_len];exact zz8⟩,?_⟩
 have hk:y.length - k=z.length:=by rw [←hd,List.length_drop]
 have nxt:∀ {z' op':List Nat} {k' n:Nat} {fd':Sp} {b':Bool} {x':Option V} {m:Mp} {σ':NN.St},k'=k+n→z.drop n=z'→1≤n→n≤z.length→Sc ps z' k' op' fd' b'→op'.length≤op.length+n→fd'.length≤fd.length+n→m=[some (.str (tx y)),some (.own f),some (.own o),some (.bool b'),some (.int k'),x',none]→σ'=(o,.lst (ops op'))::(f,.lst (fd'.map tn))::σ →
   ∃ n',n'<z.length∧I n' m σ':=by
  intro z' op' k' n fd' b' x' m σ' e1 e2 h1 h2 h3 h4 h5 h6 h7
  subst e1 e2
  exact nx (n':=(z.drop n).length) (by rw [List.length_drop];omega) ⟨z.drop n,op',k+n,fd',b',x',rfl,by rw [←hd,List.drop_drop],h3,by lia,by lia,by lia,h6,h7⟩
 cases z with
 |nil =>
  refine bf _ (by rw [tx_len,ltN (a:=k)];exact decide_eq_false (by rw [List.length_nil] at hk;lia)) ?_
  cases H
  exact ⟨_,_,.trans .drop .lst,hq⟩
 |cons c z =>
  rw [List.length_cons] at hk
  refine bt _ (by rw [tx_len,ltN (a:=k)];exact decide_eq_true (by lia)) ?_
  refine ⟨c,⟨strAt_tx (take_hd hd) (by exact zz8)⟩,?_⟩
  cases H with
  |@esc c' _ z' _ _ _ H =>
   refine bt _ (by rw [eqc (c:=92)];rfl) ?_
   exact nxt (n:=2) rfl rfl (by decide) (by rw [List.length_cons,List.length_cons];exact Nat.le_add_left _ _) H (by exact Nat.le_add_right _ _) (by exact Nat.le_add_right _ _) rfl rfl
  |inc hc H =>
   refine bf _ (by rw [eqc (c:=c)];exact decide_eq_false hc) ?_
   refine bt _ rfl ?_
   refine nxt (n:=1) (b':=decide (c≠93)) rfl rfl (by decide) (by rw [List.length_cons];exact Nat.succ_pos _) H (by exact Nat.le_succ _) (by exact Nat.le_succ _) (by rw [nec];rfl) rfl
  |opc H =>
   refine bf _ (by rw [eqc (c:=91)];rfl) ?_
   refine bf _ rfl ?_
   refine bt _ (by rw [eqc (c:=91)];rfl) ?_
   exact nxt (n:=1) rfl rfl (by decide) (by rw [List.length_cons];lia) H (by lia) (by lia) rfl rfl
  |opn H =>
   refine bf _ (by rw [eqc (c:=40)];rfl) ?_
   refine bf _ rfl ?_
   refine bf _ (by rw [eqc (c:=40)];rfl) ?_
   refine bt _ (by rw [eqc (c:=40)];rfl) ?_
   refine mApp (.head _) ?_
   refine ⟨_,_,⟨.head⟩,⟨by rw [List.length_map,List.length_reverse];lia⟩,?_⟩
   exact nxt (n:=1) rfl rfl (by decide) (by rw [List.length_cons];lia) H (by rw [List.length_cons];exact Nat.lt_succ_self _) (by lia) rfl (by simp [ops])
  |@cls _ o' _ op' _ H =>
   refine bf _ (by rw [eqc (c:=41)];rfl) ?_
   refine bf _ rfl ?_
   refine bf _ (by rw [eqc (c:=41)];rfl) ?_
   refine bf _ (by rw [eqc (c:=41)];rfl) ?_
   refine bt _ (by rw [eqc (c:=41)];rfl) ?_
   rw [List.length_cons] at g1
   rw [show ops (o'::op')=ops op'++[V.int ((o':Nat):Int)] by simp [ops]]
   refine mApp (.tail _ (.head _)) ?_
   refine mPop (.head _) ?_
   refine ⟨_,_,_,⟨.head⟩,⟨by rw [List.length_map,List.length_reverse];lia⟩,?_⟩
   refine ⟨_,_,⟨.tail .head⟩,⟨by rw [List.length_map];lia⟩,?_⟩
   exact nxt (n:=1) rfl rfl (by decide) (by rw [List.length_cons];lia) H (by rw [List.length_cons];lia) (by rw [List.length_append,List.length_singleton];exact Nat.lt_succ_self _) rfl (by rw [List.map_append];rfl)
  |oth hc H =>
   simp only [List.mem_cons,List.not_mem_nil,or_false,not_or] at hc
   refine bf _ (by rw [eqc (c:=c)];exact decide_eq_false hc.1) ?_
   refine bf _ rfl ?_
   refine bf _ (by rw [eqc (c:=c)];exact decide_eq_false hc.2.1) ?_
   refine bf _ (by rw [eqc (c:=c)];exact decide_eq_false hc.2.2.1) ?_
   refine bf _ (by rw [eqc (c:=c)];exact decide_eq_false hc.2.2.2.1) ?_
   refine bf _ (by rw [inT (c:=c)];exact decide_eq_false (by simp only [List.mem_cons,List.not_mem_nil,or_false,not_or];exact hc.2.2.2.2)) ?_
   exact nxt (n:=1) rfl rfl (by decide) (by rw [List.length_cons];lia) H (by lia) (by lia) rfl rfl
end Hd
end
section
open PySem PySem.W PySem.Calls PyProof.Rows NN
namespace Hd
variable {w:World}{d:Nat}{Q:V→NN.St→Prop}{a:Addr}{xs:List Int}{G:Int→Int→NN.St}{σ:NN.St}
theorem k_drawI (H:PS a xs G){m:Nat}{i:Int}(e:i=m)(hm:1≤m∧m≤1000){s r:Int}(hs:0≤s∧s≤100000)(hr:0≤r)(hq:∀ (g:Nat) (s' r':Int),g<m→s≤s'→s'≤s+1→0≤r'→Q (.int g) (G s' r')) :
  CALL w (fr w.params) (d+1) (.ref 973) [.own a,.int i] (G s r) Q:=by subst e;exact k_draw H hm hs hr hq
theorem one_ok {c:Nat}(h:c<128):OkT (.chs [(c,c)]):=⟨⟨fun p hp=>by rw [List.mem_singleton.mp hp];exact ⟨Nat.le_refl _,h⟩,by simp⟩,by simp,List.pairwise_singleton _ _⟩
theorem one_tx {c:Nat}:tL (.chs [(c,c)])=shs c∧tT (.chs [(c,c)])=shs c:=by
 have:shch [(c,c)]=shs c:=by
  unfold shch
  rw [if_neg (by unfold dot;simp),if_pos (by simp [siz])];rfl
 exact ⟨this,this⟩
theorem k_shown {t:Tr}{y:List Nat}(ok:OkT t)(hz:sz t≤20)(hy:tL t=y)(hd:sz t≤d+1)(hq:Q (.str (tx y)) σ):CALL w (fr w.params) (d+9) (.ref 954) [nv t] σ Q :=
 k_showRegex (by have:=ht_sz (t:=t);lia) ok (by lia) (by rw [hy];exact hq)
theorem neF {x:PySem.Str}{a b:List Nat}(h:a=b)(e:x=tx a:=by rfl):(x != tx b)=false:=by rw [e,h,tx_bne,decide_eq_true rfl];rfl
theorem eqTT {x y:PySem.Str}{a b:List Nat}(h:a=b)(e1:x=tx a:=by rfl)(e2:y=tx b:=by rfl):(x == y)=true:=by rw [e1,e2,h];simp
theorem k_few (H:PS a xs G){s r:Int}(hs:0≤s∧s≤90000)(hr:0≤r)(hq:∀ (s' r':Int),s≤s'→s'≤s+3→0≤r'→Q (.bool true) (G s' r')) :
  CALL w (fr w.params) (d+11) (.ref 1027) [.own a] (G s r) Q:=by
 refine O__law_few_told ?_
 refine ⟨k_draw H (m:=128) ⟨by decide,by decide⟩ ⟨by exact zzd,by lia⟩ hr fun c s1 r1 hc a1 a2 a3=>?_⟩
 refine ⟨k_lawSign hc ?_⟩
 refine ⟨k_span ⟨Nat.le_refl _,by exact zz4⟩ ?_⟩
 refine ⟨k_Chars ?_⟩
 refine ⟨k_draw H (m:=41) ⟨by decide,by decide⟩ ⟨by exact zzh,by lia⟩ a3 fun lo s2 r2 hlo b1 b2 b3=>?_⟩
 refine ⟨k_drawI H (m:=41 - lo) (by lia) ⟨by lia,by lia⟩ ⟨by exact zzi,by lia⟩ b3 fun g s3 r3 hg c1 c2 c3=>?_⟩
 have hsl:=shs_len (c:=c)
 refine ⟨k_shown (d:=d+1) (t:=.chs [(c,c)]) (one_ok hc) (by simp [szE1,szE2,szE3,szE4,szE5,szE6,szE7,szE8,szE9]) one_tx.1 (by simp [szE1,szE2,szE3,szE4,szE5,szE6,szE7,szE8,szE9]) ?_⟩
 refine bf _ (neF rfl) ?_
 refine ⟨k_dot (d:=d+7) ?_⟩
 refine ⟨k_Chars ?_⟩
 refine ⟨k_shown (d:=d+1) (t:=.chs dot) (y:=[46]) ⟨⟨by unfold dot;decide,by unfold dot;decide⟩,by unfold dot;decide,by unfold dot;decide⟩ (by simp [szE1,szE2,szE3,szE4,szE5,szE6,szE7,szE8,szE9]) (by show shch dot=_;unfold shch;rw [if_pos rfl]) (by simp [szE1,szE2,szE3,szE4,szE5,szE6,szE7,szE8,szE9]) ?_⟩
 refine bf _ (neF rfl) ?_
 refine ⟨k_Empty ?_⟩
 refine ⟨k_shown (d:=d+1) (t:=.emp) (y:=[40,41]) trivial (by simp [szE1,szE2,szE3,szE4,szE5,szE6,szE7,szE8,szE9]) rfl (by simp [szE1,szE2,szE3,szE4,szE5,szE6,szE7,szE8,szE9]) ?_⟩
 refine bf _ (neF rfl) ?_
 have hd1:(dec lo).length≤2:=dec_len
 have hd2:(dec (lo+g)).length≤2:=dec_len
 have str:∀ n:Nat,n<41→Lf ((n:Int).natAbs.log2<1920):=fun n h=>⟨log_ok h⟩
 refine ⟨ll (a:=shs c) (b:=[123]) (by simp;exact zz6),str lo hlo,_,⟨dec_eq lo hlo⟩,?_⟩
 refine ⟨ll (a:=shs c++[123]) (b:=dec lo) (by simp;lia),?_⟩
 have hy2:∀ h:Option Nat,tL (.rep (.chs [(c,c)]) lo h)=shs c++shct lo h:=fun h=>by
  show tT (.chs [(c,c)])++shct lo h=_
  rw [one_tx.2]
 refine bq (p:=0<g) _ (by rw [Bool.eq_iff_iff];simp only [decide_eq_true_eq];lia) (fun h1=>?_) fun h1=>?_
 ·refine ⟨str (lo+g) (by lia),_,⟨dec_eq (lo+g) (by lia)⟩,?_⟩
  refine ⟨ll (a:=[44]) (b:=dec (lo+g)) (by simp;lia),?_⟩
  refine ⟨ll (a:=shs c++[123]++dec lo) (b:=[44]++dec (lo+g)) (by simp;lia),?_⟩
  refine ⟨ll (a:=shs c++[123]++dec lo++([44]++dec (lo+g))) (b:=[125]) (by simp;lia),?_⟩
  refine ⟨k_Repeat (d:=d+7) (h:=some (lo+g)) (by exact zz4) (fun n e=>by cases e;lia) ?_⟩
  refine ⟨k_shown (d:=d+1) (t:=.rep (.chs [(c,c)]) lo (some (lo+g))) ⟨one_ok hc,by lia,fun n e=>by cases e;lia⟩ (by simp [szE1,szE2,szE3,szE4,szE5,szE6,szE7,szE8,szE9]) (hy2 (some (lo+g))) (by simp [szE1,szE2,szE3,szE4,szE5,szE6,szE7,szE8,szE9]) ?_⟩
  refine bt _ (eqTT (show shs c++shct lo (some (lo+g))=shs c++[123]++dec lo++([44]++dec (lo+g))++[125] by unfold shct;dsimp only;rw [if_neg (by lia)];simp)) ?_
  refine ⟨k_Repeat (d:=d+7) (h:=none) (by lia) (fun n e=>by cases e) ?_⟩
  refine ⟨k_shown (d:=d+1) (t:=.rep (.chs [(c,c)]) lo none) ⟨one_ok hc,by lia,fun n e=>by cases e⟩ (by simp [szE1,szE2,szE3,szE4,szE5,szE6,szE7,szE8,szE9]) (hy2 none) (by simp [szE1,szE2,szE3,szE4,szE5,szE6,szE7,szE8,szE9]) ?_⟩
  refine ⟨ll (a:=shs c) (b:=[123]) (by simp;lia),str lo hlo,_,⟨dec_eq lo hlo⟩,?_⟩
  refine ⟨ll (a:=shs c++[123]) (b:=dec lo) (by simp;lia),ll (a:=shs c++[123]++dec lo) (b:=[44,125]) (by simp;lia),?_⟩
  exact back (hq _ _ (by lia) (by lia) c3) (congrArg V.bool (eqTT (show shs c++shct lo none=shs c++[123]++dec lo++[44,125] by unfold shct;simp)))
 ·refine ⟨ll (a:=shs c++[123]++dec lo) (b:=[]) (by simp;lia),?_⟩
  refine ⟨ll (a:=shs c++[123]++dec lo++[]) (b:=[125]) (by simp;lia),?_⟩
  refine ⟨k_Repeat (d:=d+7) (h:=some (lo+g)) (by lia) (fun n e=>by cases e;lia) ?_⟩
  refine ⟨k_shown (d:=d+1) (t:=.rep (.chs [(c,c)]) lo (some (lo+g))) ⟨one_ok hc,by lia,fun n e=>by cases e;lia⟩ (by simp [szE1,szE2,szE3,szE4,szE5,szE6,szE7,szE8,szE9]) (hy2 (some (lo+g))) (by simp [szE1,szE2,szE3,szE4,szE5,szE6,szE7,szE8,szE9]) ?_⟩
  refine bt _ (eqTT (show shs c++shct lo (some (lo+g))=shs c++[123]++dec lo++[]++[125] by unfold shct;dsimp only;rw [if_pos (by lia)];simp)) ?_
  refine ⟨k_Repeat (d:=d+7) (h:=none) (by lia) (fun n e=>by cases e) ?_⟩
  refine ⟨k_shown (d:=d+1) (t:=.rep (.chs [(c,c)]) lo none) ⟨one_ok hc,by lia,fun n e=>by cases e⟩ (by simp [szE1,szE2,szE3,szE4,szE5,szE6,szE7,szE8,szE9]) (hy2 none) (by simp [szE1,szE2,szE3,szE4,szE5,szE6,szE7,szE8,szE9]) ?_⟩
  refine ⟨ll (a:=shs c) (b:=[123]) (by simp;lia),str lo hlo,_,⟨dec_eq lo hlo⟩,?_⟩
  refine ⟨ll (a:=shs c++[123]) (b:=dec lo) (by simp;lia),ll (a:=shs c++[123]++dec lo) (b:=[44,125]) (by simp;lia),?_⟩
  exact back (hq _ _ (by lia) (by lia) c3) (congrArg V.bool (eqTT (show shs c++shct lo none=shs c++[123]++dec lo++[44,125] by unfold shct;simp)))
end Hd
end
section
open PySem PySem.W PySem.Calls PyProof.Rows NN
namespace Hd
noncomputable def HD (y:List Nat):Prop:=∃ c z,y=c::z∧c∉[60,37,47,94]
theorem HD.app {y z:List Nat}(h:HD y):HD (y++z):=by obtain ⟨c,x,rfl,h⟩:=h;exact ⟨c,x++z,rfl,h⟩
theorem hd_c {c:Nat}{z:List Nat}(h:c∉[60,37,47,94]):HD (c::z):=⟨c,z,rfl,h⟩
set_option tactic.hygienic true in
theorem hd_shs {c:Nat}:HD (shs c):=by
 unfold shs
 split;· exact hd_c (by decide)
 split;· exact hd_c (by decide)
 split;· exact hd_c (by decide)
 split;· exact hd_c (by decide)
 split;· exact hd_c (by decide)
 next h _ =>
  exact hd_c fun q=>h (.inl ((show ∀ x∈[60,37,47,94],x∈marks by decide) c q))
theorem hd_cls {s:Sp}:HD (cls s):=by
 unfold cls
 split<;>exact hd_c (by decide)
theorem hd_shch {s:Sp}:HD (shch s):=by
 unfold shch
 split;· exact hd_c (by decide)
 split;· exact hd_shs
 exact hd_cls
theorem hd_tx {t:Tr}:HD (tT t)∧HD (tR t)∧HD (tL t):=by
 induction t with
 |emp=>exact ⟨hd_c (by decide),hd_c (by decide),hd_c (by decide)⟩
 |nev=>exact ⟨hd_cls (s:=[]),hd_cls (s:=[]),hd_cls (s:=[])⟩
 |chs s=>exact ⟨hd_shch,hd_shch,hd_shch⟩
 |cat a b iha ihb=>exact ⟨hd_c (by decide),iha.2.1.app,iha.2.1.app⟩
 |alt a b iha ihb=>exact ⟨hd_c (by decide),hd_c (by decide),iha.2.2.app.app⟩
 |star a iha=>exact ⟨iha.1.app,iha.1.app,iha.1.app⟩
 |plus a iha=>exact ⟨iha.1.app,iha.1.app,iha.1.app⟩
 |opt a iha=>exact ⟨iha.1.app,iha.1.app,iha.1.app⟩
 |rep a lo hi iha=>exact ⟨iha.1.app,iha.1.app,iha.1.app⟩
theorem nd_sz {t:Tr}:(nd t).1≤sz t∧lpc t≤sz t:=by
 induction t with
 |emp=>exact ⟨Nat.le_refl _,Nat.zero_le _⟩
 |nev=>exact ⟨Nat.zero_le _,Nat.zero_le _⟩
 |chs s=>exact ⟨Nat.zero_le _,Nat.zero_le _⟩
 |cat a b iha ihb=>have:=iha;have:=ihb;have:=nd_le a;simp only [ndE4,lpcE4,szE4];lia
 |alt a b iha ihb=>have:=iha;have:=ihb;have:=nd_le a;have:=nd_le b;simp only [ndE5,lpcE5,szE5];lia
 |star a iha=>have:=iha;simp only [ndE6,lpcE6,szE6];lia
 |plus a iha=>have:=iha;simp only [ndE7,lpcE7,szE7];lia
 |opt a iha=>have:=iha;simp only [ndE8,lpcE8,szE8];lia
 |rep a lo hi iha=>have:=iha;simp only [ndE9,lpcE9,szE9];lia
structure TO (t:Tr):Prop where
 ok:OkT t
 sz:sz t≤11
theorem TO.ht {t:Tr}(h:TO t):ht t≤11:=by have:=ht_sz (t:=t);have:=h.sz;lia
theorem TO.ps {D:Option (Tr×Tr)}{t:Tr}(h:TO t):∃ ps,Ps D 0 (tL t) t ps (lpc t)∧ps.length=(nd t).2.2∧ps.length≤11∧lpc t≤11:=by
 refine xEAoo ((show_ps (D:=D) h.ok).L) fun ps h1 h2=>?_
 have:=nd_sz (t:=t)
 have:=nd_le t
 have:=h.sz
 exact ⟨ps,h1,h2,by lia,by lia⟩
theorem TO.len {t:Tr}(h:TO t):(tL t).length≤3300:=by have:=(tx_len3 h.ok).2.2;have:=h.sz;lia
theorem TO.le:TO leT:=⟨⟨⟨by decide,by decide⟩,by decide,by decide⟩,by decide⟩
end Hd
end
section
open PySem PySem.W PySem.Calls PyProof.Rows NN
namespace Hd
variable {w:World}{d:Nat}{Q:V→NN.St→Prop}{a:Addr}{xs:List Int}{G:Int→Int→NN.St}{σ:NN.St}
noncomputable def otD:Option Tr→PyData
 |none=>.none
 |some t=>dT t
theorem ot_dat {x:Option Tr}:datO (otT x)=some (otD x):=by cases x with | none=>rfl | some t=>exact dT_dat
theorem pt_dat {b:Bool}{t:Tr}{x:Option Tr}:datO (.tup [.bool b,tv t,otT x])=some (.tuple [.bool b,dT t,otD x]):=by
 exact dat_t (dats_c rfl (dats_c dT_dat (dats_c ot_dat rfl)))
theorem pt_lay {b:Bool}{t:Tr}{x:Option Tr}:(PyData.tuple [.bool b,dT t,otD x]).canLay0=true:=layC rfl (layC dT_lay (lay1 (by cases x with | none=>rfl | some t=>exact dT_lay)))
theorem pt_shaped {b:Bool}{t:Tr}{x:Option Tr}(ht_:TO t)(hx:∀ y,x=some y→TO y):SeqAt.shaped (.tuple [.bool b,dT t,otD x])=true:=by
 have h1:=dT_depth (t:=t)
 have h2:=ht_.ht
 have h3:(otD x).depth≤14:=by
  cases x with
  |none=>exact Nat.zero_le _
  |some y=>have:=dT_depth (t:=y);have:=(hx y rfl).ht;show (dT y).depth≤14;lia
 have e:(PyData.tuple [.bool b,dT t,otD x]).depth=max 0 (max (dT t).depth (max (otD x).depth 0))+1:=rfl
 unfold SeqAt.shaped
 rw [pt_lay,decide_eq_true (by lia)];rfl
theorem pick3 {g:Nat}(h:g<3){t:Tr}(ht_:TO t):∃ x:Option Tr,(∀ y,x=some y→TO y)∧[V.none,.tup [.str (tx [99,104,97,114,115]),.tup [.tup [.int 10,.int 10]]],tv t][g]?=some (otT x):=by
 match g,h with
 |0,_=>exact ⟨none,(fun y e=>by cases e),rfl⟩
 |1,_=>exact ⟨some leT,(fun y e=>by cases e;exact .le),rfl⟩
 |2,_=>exact ⟨some t,(fun y e=>by cases e;exact ht_),rfl⟩
theorem pickL {g:Nat}(h:g<3):∃ y:List Nat,y.length≤2∧[V.str (tx []),.str (tx [120,32]),.str (tx [10])][g]?=some (.str (tx y)):=by
 match g,h with
 |0,_=>exact ⟨[],by decide,rfl⟩
 |1,_=>exact ⟨[120,32],by decide,rfl⟩
 |2,_=>exact ⟨[10],by decide,rfl⟩
theorem pickT {g:Nat}(h:g<4):∃ y:List Nat,y.length≤3∧overB y=true∧[V.str (tx []),.str (tx [32,121]),.str (tx [9]),.str (tx [10,37,37])][g]?=some (.str (tx y)):=by
 match g,h with
 |0,_=>exact ⟨[],by decide,rfl,rfl⟩
 |1,_=>exact ⟨[32,121],by decide,rfl,rfl⟩
 |2,_=>exact ⟨[9],by decide,rfl,rfl⟩
 |3,_=>exact ⟨[10,37,37],by decide,rfl,rfl⟩
theorem shp_te {b:Tr}{s:Bool}{x:Option Tr}{z:List Nat}(hx:∀ y,x=some y→TO y)(hz:overB z=true) :
  ∃ z' n,TE x z' n∧shp b s x++z=(if s=true then [94] else [])++(tL b++z')∧(shp b s x).length=(if s=true then 1 else 0)+(tL b).length+n:=by
 have e0:(shp0 b s).length=(if s=true then 1 else 0)+(tL b).length:=by unfold shp0;rw [List.length_append];cases s<;>rfl
 cases x with
 |none=>exact ⟨z,0,.no hz,by show shp0 b s++z=_;unfold shp0;rw [List.append_assoc],e0⟩
 |some t =>
  have ht_:=hx t rfl
  by_cases h:isLe t=true
  ·have e:shp b s (some t)=shp0 b s++[36]:=by show (if isLe t=true then _ else _)=_;rw [if_pos h]
   have et:=isLe_iff.mp h
   subst et
   exact ⟨36::z,1,.le hz,by rw [e];unfold shp0;simp,by rw [e,List.length_append,e0];rfl⟩
  ·have e:shp b s (some t)=shp0 b s++[47]++tL t:=by show (if isLe t=true then _ else _)=_;rw [if_neg h]
   refine xEAoAoAoo (ht_.ps (D:=none)) fun ps h1 _ h2 h3=>?_
   have hl:=ht_.len
   exact ⟨47::(tL t++z),(tL t).length+1,.tr h1 (by exact zz6) (by exact zz6) (by exact zz6) hz,by rw [e];unfold shp0;simp,by rw [e,List.length_append,List.length_append,e0,List.length_singleton];lia⟩
theorem shp_len {b:Tr}{s:Bool}{x:Option Tr}(hb:TO b)(hx:∀ y,x=some y→TO y):(shp b s x).length≤14000:=by
 have hl:=hb.len
 have e0:(shp0 b s).length≤6601:=by unfold shp0;rw [List.length_append];cases s<;>simp<;>lia
 cases x with
 |none=>exact Nat.le_trans e0 (by decide)
 |some t =>
  have hl2:=(hx t rfl).len
  show (if isLe t=true then shp0 b s++[36] else shp0 b s++[47]++tL t).length≤_
  split
  ·rw [List.length_append,List.length_singleton];exact zz8
  ·rw [List.length_append,List.length_append,List.length_singleton];lia
end Hd
end
section
open PySem PySem.W PySem.Calls PyProof.Rows NN
namespace Hd
variable {w:World}{d:Nat}{Q:V→NN.St→Prop}{a:Addr}{xs:List Int}{G:Int→Int→NN.St}{σ:NN.St}
theorem V_argL {c:Cx}{n i:Nat}{u v:V}{e:RX}{es:List RX}{done:List V}{f:Fi}{K:List NN.Fr}{m:Mp}(hi:nthO m i=some u)(h:(mach c n).E e (.arg es (u::v::done) f::K) m σ):(mach c (n+5)).V (.arg (.loc i::e::es) done f::K) v m σ:=by
 show (match nthO m i with | some v'=>(mach c (n+2)).V (.arg (e::es) (v::done) f::K) v' m σ | none=>False)
 rw [hi]
 exact h
theorem isT {t:Tr}{P:Bool→Prop}(h:P false):bif notRaw (tv t) then P (tv t).isNone else False:=by cases t<;>exact h
theorem ite_trail {n i:Nat}{K:List NN.Fr}{m:Mp}{x:Option Tr}(hx:∀ y,x=some y→OkT y∧ht y≤d)(hi:nthO m i=some (otT x))(h:∀ k,(mach (cx0 w tb (d+5)) (k+n)).V K (otN x) m σ) :
  (mach (cx0 w tb (d+5)) (n+20)).E (.ite (.cmp .Is (.loc i) (.val .none)) (.val .none) (.call 999 [.loc i])) K m σ:=by
 show (match nthO m i with | some v=>(mach (cx0 w tb (d+5)) (n+17)).V (.cmp1 .Is (.val .none)::.iteE (.val .none) (.call 999 [.loc i])::K) v m σ | none=>False)
 rw [hi]
 cases x with
 |none =>
  refine bt _ rfl ?_
  have:=h 12
  rw [Nat.add_comm 12 n] at this
  exact this
 |some y =>
  refine isT ?_ (P:=fun b=>(mach (cx0 w tb (d+5)) (n+14)).B (.iteE (.val .none) (.call 999 [.loc i])::K) b m σ)
  refine bf _ rfl ?_
  show (match nthO m i with | some v=>(mach (cx0 w tb (d+5)) (n+10)).V (.arg [] [] (.call 999)::K) v m σ | none=>False)
  rw [hi]
  refine ⟨k_node (hx y rfl).1 (hx y rfl).2 ?_⟩
  have:=h 8
  rw [Nat.add_comm 8 n] at this
  exact this
theorem k_patternTold (H:PS a xs G){t:Tr}(ht_:TO t){s r:Int}(hs:0≤s∧s≤70000)(hr:0≤r)(hq:∀ (s' r':Int),Q (.bool true) (G s' r')) :
  CALL w (fr w.params) (d+81) (.ref 1034) [.own a,tv t] (G s r) Q:=by
 refine O__law_pattern_told ?_
 refine ⟨k_tree (d:=d+77) H (T:=1) ⟨by decide,by decide⟩ ⟨by exact zzd,by lia⟩ hr fun t2 s1 r1 o1 z1 a1 a2 a3=>?_⟩
 intro b
 refine ⟨_,_,⟨.lst⟩,?_⟩
 refine ⟨k_draw H (m:=3) ⟨by decide,by decide⟩ ⟨by exact zzh,by lia⟩ a3 fun g s2 r2 hg b1 b2 b3=>?_⟩
 refine xEAoo (pick3 hg ⟨o1,z1⟩) fun x hx ex=>?_
 refine ⟨_,tupN (c:=cx0 w tb d) (i:=g) ex (by simp),?_⟩
 refine ⟨k_draw H (m:=2) ⟨by decide,by decide⟩ ⟨by exact zzi,by lia⟩ b3 fun g2 s3 r3 hg2 c1 c2 c3=>?_⟩
 refine ⟨k_node (d:=d+75) ht_.ok (by have:=ht_.ht;lia) ?_⟩
 refine V_argL rfl ?_
 refine ite_trail (d:=d+75) (fun y e=>⟨(hx y e).ok,by have:=(hx y e).ht;lia⟩) rfl fun k=>?_
 refine ⟨k_Pattern ?_⟩
 refine gen ((g2:Int) == 1) fun bg _=>?_
 have hsh:=shp_len (s:=bg) ht_ hx
 refine ⟨k_showPattern (d:=d+71) ⟨by have:=ht_.ht;lia,ht_.ok,by have:=ht_.sz;exact zz6⟩ (fun y e=>⟨by have:=(hx y e).ht;lia,(hx y e).ok,by have:=(hx y e).sz;exact zz6,by have:=(hx y e).ht;exact zz6⟩) ?_⟩
 intro b
 refine ⟨_,_,⟨.lst⟩,?_⟩
 refine ⟨k_draw H (m:=3) ⟨by decide,by decide⟩ ⟨by lia,by lia⟩ c3 fun g4 s4 r4 hg4 d1 d2 d3=>?_⟩
 refine xEAoo (pickL hg4) fun ld hld eld=>?_
 refine ⟨_,tupN (c:=cx0 w tb d) (i:=g4) eld (by decide),?_⟩
 refine ⟨ll (a:=ld) (b:=shp t bg x) (by lia),?_⟩
 intro b
 refine ⟨_,_,⟨.lst⟩,?_⟩
 refine ⟨k_draw H (m:=4) ⟨by decide,by decide⟩ ⟨by lia,by lia⟩ d3 fun g5 s5 r5 hg5 e1 e2 e3=>?_⟩
 refine xEAoAoo (pickT hg5) fun tl htl ho etl=>?_
 refine ⟨_,tupN (c:=cx0 w tb d) (i:=g5) etl (by decide),?_⟩
 refine ⟨ll (a:=ld++shp t bg x) (b:=tl) (by rw [List.length_append];lia),?_⟩
 refine ⟨⟨by rw [tx_len];exact zz8⟩,?_⟩
 refine xEEAoAoo (shp_te (b:=t) (s:=bg) hx ho) fun z' n te sh1 sh2=>?_
 refine xEAoAoAoo (ht_.ps (D:=none)) fun ps h1 _ h2 h3=>?_
 have hln:=ht_.len
 refine ⟨k_readPattern (bg:=bg) (q:=d+64) (t:=ld++shp t bg x++tl) (k:=(tx ld).length) h1 (by exact zz6) (by exact zz6) (by exact zz6) (fun y e=>?_) ?_ ?_ te (by exact Nat.le_add_left _ _) ?_⟩
 ·refine xEEAoo ((hd_tx (t:=t)).2.2) fun c z e' hc=>?_
  rw [e'] at e
  exact hc (by rw [(List.cons.inj e).1];decide)
 ·rw [tx_len,List.append_assoc,List.drop_left,sh1]
 ·rw [List.length_append,List.length_append];lia
 refine ⟨⟨rfl⟩,⟨k_patTold (d:=d+76) ⟨by have:=ht_.ht;lia,by have:=ht_.sz;lia⟩ (fun y e=>⟨by have:=(hx y e).ht;lia,by have:=(hx y e).sz;lia⟩) ?_⟩⟩
 refine ⟨_,_,⟨.pure pt_dat,.pure pt_dat,pt_shaped ht_ hx,pt_shaped ht_ hx⟩,?_⟩
 refine bt _ (PySem.SeqAt.eqv_refl _ pt_lay) ?_
 refine ⟨⟨by rw [tx_len];lia⟩,⟨by rw [tx_len];exact zz8⟩,back (hq _ _) (congrArg V.bool ?_)⟩
 rw [beq_iff_eq,tx_len,tx_len,sh2]
 lia
end Hd
end
section
open PySem PySem.W PySem.Calls PyProof.Rows NN
namespace Hd
variable {w:World}{d:Nat}{Q:V→NN.St→Prop}{a:Addr}{xs:List Int}{G:Int→Int→NN.St}{σ:NN.St}{D:Option (Tr×Tr)}
theorem dat_tv {t t':Tr}{P:Bool→Prop}{b:Bool}(hb:b=true↔t=t')(h1:ht t≤60)(h2:ht t'≤60)(h:P b):datV σ (tv t) (tv t') P :=
 ⟨_,_,⟨.pure dT_dat,.pure dT_dat,dT_shaped h1,dT_shaped h2⟩,by rw [tr_dec hb,Bool.decide_eq_true];exact h⟩
theorem V_ne {c:Cx}{n i:Nat}{K:List NN.Fr}{m:Mp}{t t':Tr}{v:V}{b:Bool}(hb:b=true↔t=t')(hv:tv t'=v)(hi:nthO m i=some v)(h1:ht t≤60)(h2:ht t'≤60)(h:(mach c n).B K (!b) m σ):(mach c (n+3)).V (.cmp1 .NotEq (.loc i)::K) (tv t) m σ:=by
 show (match nthO m i with | some v=>(mach c (n+1)).V (.cmp2 .NotEq (tv t)::K) v m σ | none=>False)
 rw [hi,←hv]
 have key:datV σ (tv t) (tv t') fun c'=>(mach c n).B K (!c') m σ:=dat_tv hb h1 h2 h
 cases t<;>exact key
theorem V_eqt {c:Cx}{n i:Nat}{K:List NN.Fr}{m:Mp}{t t':Tr}{v:V}{b:Bool}(hb:b=true↔t=t')(hv:tv t'=v)(hi:nthO m i=some v)(h1:ht t≤60)(h2:ht t'≤60)(h:(mach c n).B K b m σ):(mach c (n+3)).V (.cmp1 .Eq (.loc i)::K) (tv t) m σ:=by
 show (match nthO m i with | some v=>(mach c (n+1)).V (.cmp2 .Eq (tv t)::K) v m σ | none=>False)
 rw [hi,←hv]
 have key:datV σ (tv t) (tv t') fun c'=>(mach c n).B K c' m σ:=dat_tv hb h1 h2 h
 cases t<;>exact key
theorem tv_hd (t:Tr):∃ vs,tv t=.tup (.str (tx (nm t))::vs)∧vs.length≤3:=by cases t<;>exact ⟨_,rfl,by simp⟩
theorem alt_nm {t:Tr}(h:nm t≠[97,108,116]):tR t=tL t:=by
 cases t with
 |alt a b=>exact absurd rfl h
 |_=>rfl
noncomputable def aroT (t X:Tr):Tr:=.alt (.cat (.cat (.chs [(97,97)]) t) (.plus t)) X
noncomputable def aro (t:Tr)(y:List Nat):List Nat:=[97,40]++tL t++[41,123,68,125,43,124]++y
theorem aro_al {t X:Tr}{y:List Nat}(h:TO t)(hX:∃ ps s,Ps (some (t,.emp)) 1 y X ps s∧ps.length≤12∧s≤12):AL (some (t,.emp)) (aro t y) (aroT t X) 12 12 (aro t y).length:=by
 refine xEAoAoAoo (h.ps (D:=some (t,.emp))) fun ps h1 _ h2 h3=>?_
 refine xEEAoAoo hX fun qs s g1 g2 g3=>?_
 have pa:Ps (some (t,.emp)) 2 [97] (.chs [(97,97)]) [] 0:=.atom (.sgn (.raw (by decide) (by decide) (by decide)) ⟨97,[],rfl,by decide⟩)
 have pd:Ps (some (t,.emp)) 2 [123,68,125] t [] 0:=.atom (.dfn (x:=t) (y:=.emp) (c:=68) rfl (.inl rfl))
 have row:=Ps.rowS (.rowS (.row1 pa) (.grp h1)) (.suf (l:=.pl) pd trivial)
 refine ⟨([97]++(40::(tL t++[41]))++([123,68,125]++lpT .pl),.cat (.cat (.chs [(97,97)]) t) (.plus t)),[(y,X)],?_,rfl,fun x hx=>?_⟩
 ·simp [aro,fb,lpT]
 ·rcases List.mem_cons.mp hx with rfl | hx
  ·refine ⟨_,_,row,?_,?_,?_⟩
   ·simp only [List.length_append,sh_len,List.length_nil,List.length_cons];lia
   ·lia
   ·simp only [aro,lpT,List.length_append,List.length_cons,List.length_nil];lia
  ·rw [List.mem_singleton.mp hx]
   exact ⟨qs,s,g1,g2,g3,by simp only [aro,List.length_append,List.length_cons,List.length_nil];exact Nat.le_add_left _ _⟩
theorem TO.row {t:Tr}(h:TO t)(hn:nm t≠[97,108,116]):∃ ps s,Ps D 1 (tL t) t ps s∧ps.length≤12∧s≤12:=by
 refine xEAoo ((show_ps (D:=D) h.ok).R) fun ps h1 h2=>?_
 have:=nd_sz (t:=t)
 have:=nd_le t
 have:=h.sz
 exact ⟨ps,_,by rw [←alt_nm hn];exact h1,by lia,by lia⟩
theorem emp_row {t:Tr}:∃ ps s,Ps (some (t,.emp)) 1 [123,69,125] .emp ps s∧ps.length≤12∧s≤12:=by
 have pd:Ps (some (t,.emp)) 2 [123,69,125] .emp [] 0:=.atom (.dfn (x:=t) (y:=.emp) (c:=69) rfl (.inr rfl))
 exact ⟨_,_,.row1 pd,Nat.zero_le _,Nat.zero_le _⟩
end Hd
end
section
open PySem PySem.W PySem.Calls PyProof.Rows NN
namespace Hd
variable {w:World}{d:Nat}{σ:NN.St}
theorem k_node2 {Q:V→NN.St→Prop}{t:Tr}{v:V}(hv:tv t=v)(ok:OkT t)(hd:ht t≤d)(hq:Q (nv t) σ):CALL w (fr w.params) (d+5) (.ref 999) [v] σ Q:=hv▸k_node ok hd hq
theorem k_patternTold2 {Q:V→NN.St→Prop}{a:Addr}{xs:List Int}{G:Int→Int→NN.St}{v:V}{t:Tr}(hv:tv t=v)(H:PS a xs G)(ht_:TO t){s r:Int}(hs:0≤s∧s≤70000)(hr:0≤r)(hq:∀ (s' r':Int),Q (.bool true) (G s' r')) :
  CALL w (fr w.params) (d+81) (.ref 1034) [.own a,v] (G s r) Q:=hv▸k_patternTold H ht_ hs hr hq
theorem law_run {ys:List Int}(hl:ys.length≤63):RUN w tb (d+100) e_law r_law [.lst (ys.map V.int)] σ fun v _=>v=.bool true:=by
 refine ⟨k_pen (d:=d+99) hl fun p=>?_⟩
 have H:PS p ys fun s r=>(p,penC ys s r)::σ:=⟨fun _ _=>.head _,fun _ _ _ _=>.head,hl⟩
 refine ⟨k_tree (d:=d+97) H (T:=4) ⟨by decide,by decide⟩ ⟨Int.le_refl _,by decide⟩ (Int.le_refl _) fun t s r ok hz a1 a2 a3=>?_⟩
 have T:TO t:=⟨ok,hz⟩
 have h11:=T.ht
 refine xEAoAoAoo (T.ps (D:=none)) fun ps hps hpn hp11 hlp=>?_
 have hlen:=T.len
 refine xEAoo (tv_hd t) fun vs hv hvs=>?_
 rw [hv]
 refine ⟨k_node2 (d:=d+95) hv ok (by lia) ?_⟩
 refine ⟨k_showRegex (d:=d+91) (by lia) ok (by exact zz6) ?_⟩
 refine ⟨k_pairs (d:=d+99) (sc_of hps) (by exact zz6) ?_⟩
 refine bf _ rfl ?_
 refine xEEAoo ((hd_tx (t:=t)).2.2) fun c z e hc=>?_
 refine ⟨c,⟨strAt_tx (k:=0) (by rw [e];rfl) (by exact zz8)⟩,?_⟩
 refine bf _ (by rw [inT (c:=c)];exact decide_eq_false fun h=>hc (by simp only [List.mem_cons,List.not_mem_nil,or_false] at h ⊢;lia)) ?_
 refine mTold (d:=d+100) (k_told_ (d:=d+97) (sz t) (Nat.le_refl _) (by lia) (by lia) ?_)
 refine V_ne (b:=true) ⟨fun _=>rfl,fun _=>rfl⟩ hv rfl (by exact zz6) (by lia) ?_
 refine bf _ rfl ?_
 refine ⟨k_heard (D:=none) (q:=d+83) hps (by exact zz6) (by exact zz6) (by exact zz6) (by lia) (by lia) (by lia) ?_⟩
 refine V_ne (b:=true) ⟨fun _=>rfl,fun _=>rfl⟩ hv rfl (by lia) (by lia) ?_
 refine bf _ rfl ?_
 refine ⟨k_few (d:=d+89) H ⟨by omega,by exact zzg⟩ a3 fun s2 r2 b1 b2 b3=>?_⟩
 refine bf _ rfl ?_
 refine forL (f:=tn) (l:=ps) (fun dn m σ'=>∃ x6 x7:Option V,m=[some (.lst (ys.map V.int)),some (.own p),some (.tup (.str (tx (nm t))::vs)),some (nv t),some (.str (tx (tL t))),some (.lst (ps.map tn)),x6,x7,none,none,none,none,none,none,none,none,none,none,none,none]∧σ'=(p,penC ys s2 r2)::σ) ?_ ?_ ?_ ?_
 ·rfl
 ·exact ⟨none,none,rfl,rfl⟩
 ·rintro I dn q td m σ' e' ⟨x6,x7,rfl,rfl⟩ nx
  have hq:q∈ps:=by rw [←e'];simp
  refine bq (p:=q.1+1<q.2) _ (gtN (b:=q.1+1)) (fun h1=>?_) fun h1=>?_
  ·refine xEEAoAoAoo (other hps hpn hq h1) fun u qs g hqs hne hsz=>?_
   have eR:(tL t).take q.1++((tL t).drop (q.1+1)).take (q.2 - (q.1+1))++(tL t).drop (q.2+1)=rmv (tL t) q:=by
    unfold rmv;rw [List.append_assoc,show q.2 - (q.1+1)=q.2 - q.1 - 1 by lia]
   have hu:=ht_sz (t:=u)
   have ls:(tx (tL t)).length≤16777216:=by rw [tx_len];exact zz6
   have l0:(tL t).length≤6600:=by lia
   have l1:((tL t).take q.1).length≤6600:=Nat.le_trans (List.take_sublist _ _).length_le l0
   have l2:(((tL t).drop (q.1+1)).take (q.2 - (q.1+1))).length≤6600:=Nat.le_trans (List.take_sublist _ _).length_le (Nat.le_trans (List.drop_sublist _ _).length_le l0)
   have l3:((tL t).drop (q.2+1)).length≤6600:=Nat.le_trans (List.drop_sublist _ _).length_le l0
   refine ⟨⟨ls⟩,_,⟨slice_to.symm⟩,?_⟩
   refine ⟨⟨ls⟩,_,⟨(slice_mid (a:=q.1+1)).symm⟩,?_⟩
   refine ⟨ll (a:=(tL t).take q.1) (b:=((tL t).drop (q.1+1)).take (q.2 - (q.1+1))) (by lia),?_⟩
   refine ⟨⟨ls⟩,_,⟨(slice_from (a:=q.2+1)).symm⟩,?_⟩
   refine ⟨ll (a:=(tL t).take q.1++((tL t).drop (q.1+1)).take (q.2 - (q.1+1))) (b:=(tL t).drop (q.2+1)) (by rw [List.length_append];lia),?_⟩
   have lR:(rmv (tL t) q).length≤6600:=Nat.le_trans rmv_len (by lia)
   rw [←eR] at g lR
   refine ⟨k_heard (D:=none) (q:=d+83) (y:=(tL t).take q.1++((tL t).drop (q.1+1)).take (q.2 - (q.1+1))++(tL t).drop (q.2+1)) g (by exact zz6) (by lia) (by lia) (by lia) (by lia) (by lia) ?_⟩
   refine V_eqt (b:=false) ⟨(fun h=>by cases h),fun h=>absurd h hne⟩ hv rfl (by lia) (by lia) ?_
   refine bf _ rfl ?_
   exact nx ⟨_,_,rfl,rfl⟩
  ·refine bf _ rfl ?_
   exact nx ⟨_,_,rfl,rfl⟩
 ·rintro m σ' ⟨x6,x7,rfl,rfl⟩
  refine xEAoAoAoo (T.ps (D:=some (t,Tr.emp))) fun qs hqs hqn hq11 hql=>?_
  refine ⟨k_Empty ?_⟩
  refine ⟨ll (a:=[40]) (b:=tL t) (by simp only [List.length_singleton];lia),?_⟩
  refine ⟨ll (a:=[40]++tL t) (b:=[41]) (by simp only [List.length_append,List.length_singleton];lia),?_⟩
  refine ⟨k_heard (D:=some (t,Tr.emp)) (q:=d+83) (y:=[40]++tL t++[41]) (.alt1 (.row1 (.grp hqs))) (by simp only [List.length_append,List.length_singleton];lia) (by rw [List.length_append,sh_len,List.length_singleton];exact zz8) (by lia) (by rw [List.length_append,sh_len,List.length_singleton];lia) (by lia) (by lia) ?_⟩
  refine V_ne (b:=true) ⟨fun _=>rfl,fun _=>rfl⟩ hv rfl (by lia) (by lia) ?_
  refine bf _ rfl ?_
  refine ⟨k_heard (D:=some (t,Tr.emp)) (q:=d+83) (y:=[123,68,125]) (u:=t) (.alt1 (.row1 (.atom (.dfn (x:=t) (y:=.emp) (c:=68) rfl (.inl rfl))))) (by decide) (by decide) (by decide) (by simp) (by lia) (by lia) ?_⟩
  refine V_ne (b:=true) ⟨fun _=>rfl,fun _=>rfl⟩ hv rfl (by lia) (by lia) ?_
  refine bf _ rfl ?_
  refine ⟨_,tq0 (by rw [List.length_cons];exact zz8),?_⟩
  refine bq (p:=nm t≠[97,108,116]) _ (neT (a:=nm t)) (fun h1=>?_) fun h1=>?_
  ·have hv':tv (aroT t t)=.tup [.str (tx [97,108,116]),.tup [.str (tx [99,97,116]),.tup [.str (tx [99,97,116]),.tup [.str (tx [99,104,97,114,115]),.tup [.tup [.int 97,.int 97]]],.tup (.str (tx (nm t))::vs)],.tup [.str (tx [112,108,117,115]),.tup (.str (tx (nm t))::vs)]],.tup (.str (tx (nm t))::vs)]:=by rw [←hv];rfl
   refine ⟨ll (a:=[97,40]) (b:=tL t) (by simp only [List.length_cons,List.length_nil];lia),?_⟩
   refine ⟨ll (a:=[97,40]++tL t) (b:=[41,123,68,125,43,124]) (by simp only [List.length_append,List.length_cons,List.length_nil];lia),?_⟩
   refine ⟨_,tq0 (by rw [List.length_cons];lia),?_⟩
   refine bt _ (by rw [neT (a:=nm t)];exact decide_eq_true h1) ?_
   refine ⟨ll (a:=[97,40]++tL t++[41,123,68,125,43,124]) (b:=(tL t)) (by simp only [List.length_append,List.length_cons,List.length_nil];lia),?_⟩
   refine ⟨k_heardA (D:=some (t,Tr.emp)) (q:=d+83) (y:=aro t (tL t)) (u:=aroT t t) (aro_al T (T.row h1)) (by simp only [aro,List.length_append,List.length_cons,List.length_nil];lia) (by decide) (by decide) (by simp) (by simp only [aroT,szE1,szE2,szE3,szE4,szE5,szE6,szE7,szE8,szE9];lia) (by simp only [aroT,htE1,htE2,htE3,htE4,htE5,htE6,htE7,htE8,htE9];lia) ?_⟩
   refine V_eqt (b:=true) (t':=aroT t t) ⟨fun _=>rfl,fun _=>rfl⟩ hv' rfl (by simp only [aroT,htE1,htE2,htE3,htE4,htE5,htE6,htE7,htE8,htE9];lia) (by simp only [aroT,htE1,htE2,htE3,htE4,htE5,htE6,htE7,htE8,htE9];lia) ?_
   refine bt _ rfl ?_
   refine ⟨k_patternTold2 (d:=d+19) hv H T ⟨by lia,by lia⟩ b3 fun s3 r3=>?_⟩
   refine bt _ rfl ?_
   refine mTold (d:=d+100) (k_told_ (d:=d+97) (sz t) (Nat.le_refl _) (by lia) (by lia) ?_)
   refine V_eqt (b:=true) ⟨fun _=>rfl,fun _=>rfl⟩ hv rfl (by lia) (by lia) ?_
   exact back' rfl
  ·have hv':tv (aroT t .emp)=.tup [.str (tx [97,108,116]),.tup [.str (tx [99,97,116]),.tup [.str (tx [99,97,116]),.tup [.str (tx [99,104,97,114,115]),.tup [.tup [.int 97,.int 97]]],.tup (.str (tx (nm t))::vs)],.tup [.str (tx [112,108,117,115]),.tup (.str (tx (nm t))::vs)]],.tup [.str (tx [101,109,112,116,121])]]:=by rw [←hv];rfl
   refine ⟨ll (a:=[97,40]) (b:=tL t) (by simp only [List.length_cons,List.length_nil];lia),?_⟩
   refine ⟨ll (a:=[97,40]++tL t) (b:=[41,123,68,125,43,124]) (by simp only [List.length_append,List.length_cons,List.length_nil];lia),?_⟩
   refine ⟨_,tq0 (by rw [List.length_cons];lia),?_⟩
   refine bf _ (by rw [neT (a:=nm t)];exact decide_eq_false h1) ?_
   refine ⟨ll (a:=[97,40]++tL t++[41,123,68,125,43,124]) (b:=[123,69,125]) (by simp only [List.length_append,List.length_cons,List.length_nil];lia),?_⟩
   refine ⟨k_heardA (D:=some (t,Tr.emp)) (q:=d+83) (y:=aro t [123,69,125]) (u:=aroT t .emp) (aro_al T emp_row) (by simp only [aro,List.length_append,List.length_cons,List.length_nil];lia) (by decide) (by decide) (by lia) (by simp only [aroT,szE1,szE2,szE3,szE4,szE5,szE6,szE7,szE8,szE9];lia) (by simp only [aroT,htE1,htE2,htE3,htE4,htE5,htE6,htE7,htE8,htE9];lia) ?_⟩
   refine V_eqt (b:=true) (t':=aroT t .emp) ⟨fun _=>rfl,fun _=>rfl⟩ hv' rfl (by simp only [aroT,htE1,htE2,htE3,htE4,htE5,htE6,htE7,htE8,htE9];lia) (by simp only [aroT,htE1,htE2,htE3,htE4,htE5,htE6,htE7,htE8,htE9];lia) ?_
   refine bt _ rfl ?_
   refine ⟨k_patternTold2 (d:=d+19) hv H T ⟨by lia,by lia⟩ b3 fun s3 r3=>?_⟩
   refine bt _ rfl ?_
   refine mTold (d:=d+100) (k_told_ (d:=d+97) (sz t) (Nat.le_refl _) (by lia) (by lia) ?_)
   refine V_eqt (b:=true) ⟨fun _=>rfl,fun _=>rfl⟩ hv rfl (by lia) (by lia) ?_
   exact back' rfl
end Hd
end
section
open PySem PySem.W PySem.Calls PyProof.Rows NN
namespace Hd
theorem ns_hide {h:Heap}{L a:Addr}{m:PySem.Str→Option PySem.Value}{rs:List PySem.Value}(hn:h.Ns L m)(ha:h.get? a=some (lstObj rs 0)):(hideAll h [a]).Ns L m:=by
 refine xEEEAoAoo hn fun o es ep e hd r=>?_
 refine ⟨o,es,ep,hideAll_get [a] e fun q=>?_,hd,r⟩
 rw [List.mem_singleton.mp q,ha] at e
 cases e
 cases hd
theorem top_hide {p:Program}{loose:List PySem.Str}{mg mb:PySem.Str→Option PySem.Value}{h:Heap}{a:Addr}{rs:List PySem.Value}(T:TopRead p loose mg mb h)(ha:h.get? a=some (lstObj rs 0)):TopRead p loose mg mb (hideAll h [a]):=by
 refine xEAoo T.nolimit fun mc hc e=>?_
 exact ⟨ns_hide T.g ha,ns_hide T.b ha,⟨mc,ns_hide hc ha,e⟩,T.builtins,T.free⟩
noncomputable def isLst (o:Obj):Bool:=match o.cls,o.data with
 |.type n,.seq _ _=>n == "list"
 |_,_=>false
theorem fr_lst (P:Params):((fr P).all fun p=>!isLst p.2)=true:=by kernel_rfl
theorem lk_in {b:Addr}{o:Obj}:∀ {l:List (Addr×Obj)},l.lookup b=some o→(b,o)∈l
 |[],h=>by cases h
 |(a,o')::l,h=>by
  rw [List.lookup_cons] at h
  cases e:b == a with
  |true=>rw [e] at h;cases h;rw [eq_of_beq e];exact .head _
  |false=>rw [e] at h;exact .tail _ (lk_in h)
theorem in_hide {P:Params}{h:Heap}{a:Addr}{rs:List PySem.Value}(X:(fr P).In h)(ha:h.get? a=some (lstObj rs 0)):(fr P).In (hideAll h [a]):=by
 intro b o e
 refine hideAll_get [a] (X b o e) fun q=>?_
 have e':=X b o e
 rw [List.mem_singleton.mp q,ha] at e'
 cases e'
 have:=List.all_eq_true.mp (fr_lst P) _ (lk_in e)
 cases this
theorem call_top {w:World}{K:Frag}{fn:FnS}{d:Nat}{body:List PySem.Stmt}{ps:List PySem.Str}{rest:Nms}(D:DefIn K fn body ps [] rest){vs:List V}{rs:List PySem.Value}{z:Led}{s:Shared}{p:Program}{loose:List PySem.Str}{mg mb:PySem.Str→Option PySem.Value}{R:Result→Shared→Prop}{Q:V→NN.St→Prop}
  (hd:d≤200) (hz:∀ q∈z,s.heap.get? q.1=some q.2) (nd:(z.map (·.1)).Nodup) (T:TopRead p loose mg mb (hideAll s.heap (z.map (·.1)))) (X:K.In (hideAll s.heap (z.map (·.1)))) (hvs:VRs z vs rs) (hl:vs.length=ps.length)
  (h:EX w K fn d body (vs.map some++List.replicate rest.length none) [] fun f _ σ'=>NN.Back Q (retv f) σ')
  (k:∀ r v σ' z' s',(∀ b o,s.heap.get? b=some o→s'.heap.get? b=some o)→VR z' v r→Sm s s'→Q v σ'→R (.ok (.ret r)) s'):codeAny (M w) callerA (.call (.ref fn.a) ⟨rs,[]⟩) R s:=by
 refine xEEEEEEEEEEEEAoAoo D.at_ fun name params dV kV doc pm ct oc an od osl rd ho hrd hb=>?_
 cases hrd
 have XK:K.In s.heap:=fun b o e=>of_hideAll _ (X b o e)
 have hlen:(ps.zip rs).length=ps.length:=by rw [List.length_zip,←hvs.length,hl,Nat.min_self]
 have ndp:ps.Nodup:=by
  have:=D.nd
  rw [D.names,List.map_append,List.map_map] at this
  have:=(List.nodup_append.mp this).1
  simpa [Function.comp_def] using this
 have hb':=hb s rs XK (by rw [←hvs.length];exact hl)
 rw [List.append_nil] at hb'
 refine codeAny_call_def (fd:=fnOf name fn.q params body fn.sc dV kV doc pm an fn.cd ct) (body:=body) (binds:=ps.zip rs) (by decide) (XK _ _ ho) rfl (T.nolimit.keeps fun b o e=>of_hideAll _ e) (codeRec_of XK D.code) rfl hb' D.nocell ?_ (fun h₁ hns hk=>?_) D.co D.gen D.kind
 ·intro y hy
  refine lookup_of_mem D.nd ?_
  rw [D.names]
  exact List.mem_append_left _ (List.mem_map.mpr ⟨y.1,(List.of_mem_zip (show (y.1,y.2)∈_ from hy)).1,rfl⟩)
 ·let X':Fx w K fn d:={
   A:=callerA.deeper (envX fn.q fn.sc s.heap.objs.size fn.a fn.cd []),A₀:=callerA,base:=hideAll s.heap (z.map (·.1)),h₀:=hideAll s.heap (z.map (·.1)),outer:=[],L:=s.heap.objs.size,env:=envX fn.q fn.sc s.heap.objs.size fn.a fn.cd [],fenv:=envX fn.q fn.sc s.heap.objs.size fn.a fn.cd [],mc:=fun _=>none,co:=dictOf [] 0,ext:=[],mo:=fun _=>none,p:=p,loose:=loose,mg:=mg,mb:=mb
   B:=below_caller _,T:=T,X:=X
   hA:=Around.frames_deeper rfl,hk:=D.kind,hfr:=rfl,hfk:=D.kind,hsc:=rfl,hgl:=rfl,hbu:=rfl,hcl:=D.clo.symm,hloc:=fun _=>rfl
   hce:=fun e=>by rw [D.comp] at e;cases e
   hco:=fun h e=>⟨_,_,_,e,rfl,fun k hk=>by simp at hk,fun x=>rfl⟩
   hd:=by show (1+claimMargin)+1+d+5≤1000;unfold claimMargin;lia
   hu:=by show 4+3+20*d+100≤9900;lia
   hh:=rfl}
  have W₁:Wd X' (vs.map some++List.replicate rest.length none) [] z {s with heap:=h₁,toks:=s.toks+(ps.zip rs).length}:=by
   refine ⟨_,⟨[],⟨hns,fun b o e=>hk b o (of_hideAll _ e),Nat.le_of_eq (hideAll_size _ _)⟩,?_,?_,.nil⟩,⟨?_,fun e=>by rw [D.comp] at e;cases e⟩⟩
   ·intro q hq
    have hq:q∈z:=by
     rcases List.mem_append.mp hq with h | h
     ·cases h
     rcases List.mem_append.mp h with h | h
     ·exact h
     ·cases h
    exact ⟨hk _ _ (hz q hq),Nat.ne_of_lt (Heap.lt_size (hz q hq)),hideAll_none _ (List.mem_map_of_mem hq)⟩
   ·show (List.map Prod.fst (z++[])).Nodup
    rw [List.append_nil];exact nd
   ·rw [D.names]
    unfold Fx.look
    rw [D.comp]
    exact MR.start ndp hvs hl.symm
  refine h X' z _ _ _ W₁ ?_
  rintro r f m' σ' z' s' sub ⟨m'',W₂,R₂⟩ hf sm ⟨v',σ'',hw,hq⟩
  have sm':Sm s s':=⟨sm.gens,sm.drawn,sm.os⟩
  have close:∀ rv,VR z' (retv f) rv→R (.ok (.ret rv)) s':=by
   intro rv hv
   obtain ⟨z'',sub',⟨cl'',F,N,nd',S⟩,hv'⟩:=W₂.weak hw hv
   refine k _ v' σ'' z'' s' (fun b o e=>?_) hv' sm' hq
   by_cases hb:b∈z.map (·.1)
   ·refine xEAoo (List.mem_map.mp hb) fun q hq' er1=>?_;subst er1
    rw [hz q hq'] at e
    cases e
    exact (N q (List.mem_append_right _ (List.mem_append_left _ (sub' q (sub q hq'))))).1
   ·exact F.keep b o (hideAll_get _ e hb)
  cases hf with
  |next=>exact close _ .none
  |brk=>exact close _ .none
  |cont=>exact close _ .none
  |ret hr=>exact close _ hr
end Hd
end
section
open PySem PySem.W PySem.Calls PyProof.Rows NN
namespace Hd
theorem law_hc (w:World):hc1 w tb 100 (st 76) "law" 1041 (.ref 1040) e_law 1=hc2 (st 76) "law" (.ref 1040) .none pm4 none none r_law:=by kernel_rfl
theorem D_law (w:World):DefIn (fr w.params) (sfn (st 76) "law" 1041 (.ref 1040)) (sub (st 76)) (sps (st 76)) [] ((sS (st 76)).names.drop 1):=by
 obtain ⟨c1,c2,c3,c4,c5,c6,c7,c8,c9⟩:=chk_out (s:=st 76) (ns:=e_law) (np:=1) (congrArg (fun p=>p.2.2.1) (law_hc w))
 have hnames:(sS (st 76)).names=(sps (st 76)).map (fun x=>(x,NameKind.local))++(sS (st 76)).names.drop 1:=by rw [←c6,List.take_append_drop]
 exact ⟨⟨_,_,_,_,_,_,_,_,_,_,_,[],congrArg (fun p=>p.1) (law_hc w),.nil,fun s' rs hK hl'=>kp_binds hK (by obtain ⟨r0,rfl⟩:=sh1 (show rs.length=1 from hl'.trans c5.symm);intro S';kernel_rfl)⟩,congrArg (fun p=>p.2.1) (law_hc w),hnames,c9,c1,rfl,rfl,c2,c3,c4⟩
theorem law_ex (w:World){ys:List Int}(hl:ys.length≤63):EX w (fr w.params) (sfn (st 76) "law" 1041 (.ref 1040)) 100 (sub (st 76)) ([V.lst (ys.map V.int)].map some++List.replicate ((sS (st 76)).names.drop 1).length none) [] fun f _ σ'=>NN.Back (fun v _=>v=.bool true) (retv f) σ':=by
 obtain ⟨c1,c2,c3,c4,c5,c6,c7,c8,c9⟩:=chk_out (s:=st 76) (ns:=e_law) (np:=1) (congrArg (fun p=>p.2.2.1) (law_hc w))
 have h:=law_run (w:=w) (d:=0) (σ:=[]) hl
 unfold RUN at h
 have hl2:e_law.length=(sS (st 76)).names.length:=by rw [←c7];simp [encN]
 rw [mp0_eq (by rw [hl2];have:=congrArg List.length c6;rw [List.length_take,List.length_map,←c5] at this;simp;decide),show e_law.length - [V.lst (ys.map V.int)].length=((sS (st 76)).names.drop 1).length by rw [List.length_drop,hl2];rfl] at h
 refine walk (n:=2000) (fn:=sfn (st 76) "law" 1041 (.ref 1040)) (c:=ctx w tb 100 e_law) ⟨c7,c9,fun p hp=>(c8 p hp).1,fun p hp=>(c8 p hp).2,c1,rfl,rfl,(fun p hp=>by cases hp),tb_ok w⟩ (rs:=r_law) (congrArg (fun p=>p.2.2.2) (law_hc w)) ?_
 exact h
theorem vrs_int {z:Led}{P:Params}{h:Heap}:∀ {ys:List Int} {vs:List PySem.Value},WellAll P h vs (ofPys (ys.map PyData.int))→VRs z (ys.map V.int) vs:=by
 intro ys
 induction ys with
 |nil=>intro vs H;have H:WellAll P h vs []:=H;cases H;exact .nil
 |cons y ys ih =>
  intro vs H
  have H:WellAll P h vs (.int y::ofPys (ys.map PyData.int)):=H
  cases H with
  |cons a b=>cases a;exact .cons (.int _ _) (ih b)
set_option tactic.hygienic true in
theorem top:WalkO vw lo (XL vw []) H.says (OpenRow.toRowW rw_.row) lawD [] fun f vs=>PySem.call f vs:=by
 intro w s₀ s₁ mg mb G Y fa o pm cd doc dV kV ho hd hcd hD hmg hg args vals as hpre hlay hrd hwl hlo
 have KX:=kIn_of Y
 have T:=topRead_of G.T
 clear hD
 have hfa:mg lawD.name=some (.ref 1041):=mg_of KX T.g (by kernel_rfl)
 obtain rfl:fa=1041:=by rw [hfa] at hmg;cases hmg;rfl
 wrow_args hpre hlay hrd hwl hlo
 rename_i ys _ _ _ _ _ _ _ a items _ hL _ wl _ _ _ hlen _
 refine enter_call ?_
 have wl:Well w.params s₁.heap (.ref a) (.list (ofPys (ys.map PyData.int))):=wl
 cases wl with
 |list hA hW =>
  rename_i rs
  refine call_top (D_law _) (z:=[(a,lstObj rs 0)]) (d:=100) (by decide) (fun q hq=>by rw [List.mem_singleton.mp hq];exact hA) (by simp) (top_hide T hA) (in_hide KX hA) (vs:=[V.lst (ys.map V.int)]) (.cons (.lst (.head _) (vrs_int hW)) .nil) rfl (law_ex w (by lia)) ?_
  intro r v σ' z' s' kp hv sm e
  subst e
  cases hv
  refine ⟨.inl ⟨_,.bool true,[],rfl,fun cls=>rfl,.bool true,?_,fun _=>⟨List.nodup_nil,fun a h=>by cases h⟩⟩,.of_keep kp,sm.os,.of_eq (sm.gens.trans hg)⟩
  wrow_post
theorem all:rw_.Holds:=head top
end Hd
end
end Mine.Internal
set_option maxRecDepth 100000 in
theorem PySem.Challenge.cw_nn0413_01_holds : PySem.Challenge.rw_nn0413_01.Holds :=
  Mine.Internal.Hd.all
