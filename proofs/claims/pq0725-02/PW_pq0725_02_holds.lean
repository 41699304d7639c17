import PyProof.Rows.All
import Wide.All
import OpenK.AllK
import Wide.FinOn
import KE.KDictOf
import KE.KRevSl
import KE.KDictSum
import PyProof.Rows.SumAny
import KE.KSortKey
import Lean
import PySem.Challenge.RW_pq0725_02
open PySem PySem.W PySem.Calls PyProof.Rows PySem.Spec
set_option Elab.async false
set_option maxRecDepth 100000
set_option maxHeartbeats 0
set_option tactic.hygienic false
set_option linter.unusedVariables false
set_option linter.unusedSimpArgs false
namespace Mine
abbrev pw:Program:=PySem.Challenge.pw_pq0725_02
noncomputable def st (i:Nat):Stmt:=match pw.main.body[i]? with | some s=>s | none=>.Pass ⟨0,0,0,0⟩
noncomputable def su (i j:Nat):Stmt:=match st i with | .ClassDef (body:=b) ..=>(match b[j]? with | some s=>s | none=>.Pass ⟨0,0,0,0⟩) | s=>s
noncomputable def fd (s:Stmt) (name qual:Str) (g:Addr) (df kw doc pm code ct:Value) (b:Addr):FuncData:=match s with
  | .FunctionDef (args:=a) (body:=bd) (scope:=sc) ..=>{ name:=name,qualname:=qual,params:=a,body:=.stmts bd,scope:=sc,globals:=g,closure:=[],defaults:=df,kwdefaults:=kw,doc:=doc,pyModule:=pm,annotations:=none,code:=code,closureTuple:=ct,builtins:=b }
  | _=>default
abbrev en (P:Params) (s:Str) (t:Tok) (v:Value):DictEntry:=⟨PyData.keyHash P s,.str s t,v⟩
abbrev nd:Obj→BT→BT→BT:=BT.node
abbrev nl:BT:=BT.nil
noncomputable def tu (x:Array Value):Obj:=⟨.type "tuple",none,.seq x 0,#[]⟩
noncomputable def nf:Obj:=⟨.none,none,.fields #[],#[]⟩
noncomputable def f0 (s:Stmt) (a b:Str):Obj:=⟨.none,none,.func (fd s a b 0 .none .none .none .none .none .none 0),#[]⟩
noncomputable def f1 (s:Stmt) (a b:Str) (d:Value) (m:Str) (t:Tok) (c:Addr):Obj:=⟨.type "function",none,.func (fd s a b 3 d .none .none (.str m t) (.ref c) .none 0),#[]⟩
noncomputable def co (a:Str) (ta:Tok) (b:Str) (tb tc:Tok) (l n f:Int) (ra:Addr) (bo:Bool) (t:Int) (rb:Addr) (x y z v:Value) (u:Int) (td:Tok):Obj:=⟨.type "code",none,.fields #[.str a ta,.str b tb,.str "/claim/cut.py" tc,.int l 0,.int n 0,.int 0 0,.int 0 0,.int f 0,.ref ra,.bool bo,.int t 0,.ref rb,x,y,z,v,.int u 0,.int l 0,.str "/claim/cut.py" td],#[]⟩
noncomputable def te:Obj:=tu #[]
abbrev lf (o:Obj):BT:=.node o .nil .nil
noncomputable def o0 (P:Params):Obj:=⟨(.type "dict"),none,(.dict #[en P "__name__" 1 (.str "builtins" 160),en P "__doc__" 2 (.builtin "builtins.__doc__:str#opaque"),en P "__package__" 3 (.builtin "builtins.__package__:str#opaque"),en P "__loader__" 4 (.builtin "builtins.__loader__:shared#opaque"),en P "__spec__" 5 (.builtin "builtins.__spec__#opaque"),en P "__build_class__" 6 (.builtin "__build_class__"),en P "__import__" 7 (.builtin "__import__"),en P "abs" 8 (.builtin "abs"),en P "all" 9 (.builtin "all"),en P "any" 10 (.builtin "any"),en P "ascii" 11 (.builtin "ascii"),en P "bin" 12 (.builtin "bin"),en P "breakpoint" 13 (.builtin "breakpoint"),en P "callable" 14 (.builtin "callable"),en P "chr" 15 (.builtin "chr"),en P "compile" 16 (.builtin "compile"),en P "delattr" 17 (.builtin "delattr"),en P "dir" 18 (.builtin "dir"),en P "divmod" 19 (.builtin "divmod"),en P "eval" 20 (.builtin "eval"),en P "exec" 21 (.builtin "exec"),en P "format" 22 (.builtin "format"),en P "getattr" 23 (.builtin "getattr"),en P "globals" 24 (.builtin "globals"),en P "hasattr" 25 (.builtin "hasattr"),en P "hash" 26 (.builtin "hash"),en P "hex" 27 (.builtin "hex"),en P "id" 28 (.builtin "id"),en P "input" 29 (.builtin "input"),en P "isinstance" 30 (.builtin "isinstance"),en P "issubclass" 31 (.builtin "issubclass"),en P "iter" 32 (.builtin "iter"),en P "aiter" 33 (.builtin "aiter"),en P "len" 34 (.builtin "len"),en P "locals" 35 (.builtin "locals"),en P "max" 36 (.builtin "max"),en P "min" 37 (.builtin "min"),en P "next" 38 (.builtin "next"),en P "anext" 39 (.builtin "anext"),en P "oct" 40 (.builtin "oct"),en P "ord" 41 (.builtin "ord"),en P "pow" 42 (.builtin "pow"),en P "print" 43 (.builtin "print"),en P "repr" 44 (.builtin "repr"),en P "round" 45 (.builtin "round"),en P "setattr" 46 (.builtin "setattr"),en P "sorted" 47 (.builtin "sorted"),en P "sum" 48 (.builtin "sum"),en P "vars" 49 (.builtin "vars"),en P "None" 50 .none,en P "Ellipsis" 51 .ellipsis,en P "NotImplemented" 52 .notImplemented,en P "False" 53 (.bool false),en P "True" 54 (.bool true),en P "bool" 55 (.type "bool"),en P "memoryview" 56 (.type "memoryview"),en P "bytearray" 57 (.type "bytearray"),en P "bytes" 58 (.type "bytes"),en P "classmethod" 59 (.type "classmethod"),en P "complex" 60 (.type "complex"),en P "dict" 61 (.type "dict"),en P "enumerate" 62 (.type "enumerate"),en P "filter" 63 (.type "filter"),en P "float" 64 (.type "float"),en P "frozenset" 65 (.type "frozenset"),en P "property" 66 (.type "property"),en P "int" 67 (.type "int"),en P "list" 68 (.type "list"),en P "map" 69 (.type "map"),en P "object" 70 (.type "object"),en P "range" 71 (.type "range"),en P "reversed" 72 (.type "reversed"),en P "set" 73 (.type "set"),en P "slice" 74 (.type "slice"),en P "staticmethod" 75 (.type "staticmethod"),en P "str" 76 (.type "str"),en P "super" 77 (.type "super"),en P "tuple" 78 (.type "tuple"),en P "type" 79 (.type "type"),en P "zip" 80 (.type "zip"),en P "__debug__" 81 (.bool true),en P "BaseException" 82 (.type "BaseException"),en P "BaseExceptionGroup" 83 (.type "BaseExceptionGroup"),en P "Exception" 84 (.type "Exception"),en P "GeneratorExit" 85 (.type "GeneratorExit"),en P "KeyboardInterrupt" 86 (.type "KeyboardInterrupt"),en P "SystemExit" 87 (.type "SystemExit"),en P "ArithmeticError" 88 (.type "ArithmeticError"),en P "AssertionError" 89 (.type "AssertionError"),en P "AttributeError" 90 (.type "AttributeError"),en P "BufferError" 91 (.type "BufferError"),en P "EOFError" 92 (.type "EOFError"),en P "ImportError" 93 (.type "ImportError"),en P "LookupError" 94 (.type "LookupError"),en P "MemoryError" 95 (.type "MemoryError"),en P "NameError" 96 (.type "NameError"),en P "OSError" 97 (.type "OSError"),en P "ReferenceError" 98 (.type "ReferenceError"),en P "RuntimeError" 99 (.type "RuntimeError"),en P "StopAsyncIteration" 100 (.type "StopAsyncIteration"),en P "StopIteration" 101 (.type "StopIteration"),en P "SyntaxError" 102 (.type "SyntaxError"),en P "SystemError" 103 (.type "SystemError"),en P "TypeError" 104 (.type "TypeError"),en P "ValueError" 105 (.type "ValueError"),en P "Warning" 106 (.type "Warning"),en P "FloatingPointError" 107 (.type "FloatingPointError"),en P "OverflowError" 108 (.type "OverflowError"),en P "ZeroDivisionError" 109 (.type "ZeroDivisionError"),en P "BytesWarning" 110 (.type "BytesWarning"),en P "DeprecationWarning" 111 (.type "DeprecationWarning"),en P "EncodingWarning" 112 (.type "EncodingWarning"),en P "FutureWarning" 113 (.type "FutureWarning"),en P "ImportWarning" 114 (.type "ImportWarning"),en P "PendingDeprecationWarning" 115 (.type "PendingDeprecationWarning"),en P "ResourceWarning" 116 (.type "ResourceWarning"),en P "RuntimeWarning" 117 (.type "RuntimeWarning"),en P "SyntaxWarning" 118 (.type "SyntaxWarning"),en P "UnicodeWarning" 119 (.type "UnicodeWarning"),en P "UserWarning" 120 (.type "UserWarning"),en P "BlockingIOError" 121 (.type "BlockingIOError"),en P "ChildProcessError" 122 (.type "ChildProcessError"),en P "ConnectionError" 123 (.type "ConnectionError"),en P "FileExistsError" 124 (.type "FileExistsError"),en P "FileNotFoundError" 125 (.type "FileNotFoundError"),en P "InterruptedError" 126 (.type "InterruptedError"),en P "IsADirectoryError" 127 (.type "IsADirectoryError"),en P "NotADirectoryError" 128 (.type "NotADirectoryError"),en P "PermissionError" 129 (.type "PermissionError"),en P "ProcessLookupError" 130 (.type "ProcessLookupError"),en P "TimeoutError" 131 (.type "TimeoutError"),en P "IndentationError" 132 (.type "IndentationError"),en P "_IncompleteInputError" 133 (.type "_IncompleteInputError"),en P "IndexError" 134 (.type "IndexError"),en P "KeyError" 135 (.type "KeyError"),en P "ModuleNotFoundError" 136 (.type "ModuleNotFoundError"),en P "NotImplementedError" 137 (.type "NotImplementedError"),en P "PythonFinalizationError" 138 (.type "PythonFinalizationError"),en P "RecursionError" 139 (.type "RecursionError"),en P "UnboundLocalError" 140 (.type "UnboundLocalError"),en P "UnicodeError" 141 (.type "UnicodeError"),en P "BrokenPipeError" 142 (.type "BrokenPipeError"),en P "ConnectionAbortedError" 143 (.type "ConnectionAbortedError"),en P "ConnectionRefusedError" 144 (.type "ConnectionRefusedError"),en P "ConnectionResetError" 145 (.type "ConnectionResetError"),en P "TabError" 146 (.type "TabError"),en P "UnicodeDecodeError" 147 (.type "UnicodeDecodeError"),en P "UnicodeEncodeError" 148 (.type "UnicodeEncodeError"),en P "UnicodeTranslateError" 149 (.type "UnicodeTranslateError"),en P "ExceptionGroup" 150 (.type "ExceptionGroup"),en P "EnvironmentError" 151 (.type "OSError"),en P "IOError" 152 (.type "OSError"),en P "open" 153 (.builtin "open"),en P "quit" 154 (.builtin "builtins.quit#opaque"),en P "exit" 155 (.builtin "builtins.exit#opaque"),en P "copyright" 156 (.builtin "builtins.copyright#opaque"),en P "credits" 157 (.builtin "builtins.credits#opaque"),en P "license" 158 (.builtin "builtins.license#opaque"),en P "help" 159 (.builtin "builtins.help#opaque")] 159),#[]⟩
noncomputable def o1 (P:Params):Obj:=⟨(.type "dict"),none,(.dict #[en P "builtins" 162 (.ref 4),en P "__main__" 163 (.ref 5)] 2),#[]⟩
noncomputable def o2:Obj:=⟨.none,none,(.dict #[] 0),#[]⟩
noncomputable def o3 (P:Params):Obj:=⟨(.type "dict"),none,(.dict #[en P "__name__" 165 (.str "__main__" 164),en P "__doc__" 166 .none,en P "__package__" 167 .none,en P "__loader__" 168 (.builtin "__main__.__loader__#opaque"),en P "__spec__" 169 .none,en P "__annotations__" 170 (.ref 6),en P "__builtins__" 171 (.ref 4),en P "__file__" 173 (.str "/claim/cut.py" 172),en P "__cached__" 174 .none] 9),#[]⟩
noncomputable def o4:Obj:=⟨(.type "module"),(some 0),.plain,#[]⟩
noncomputable def o5:Obj:=⟨(.type "module"),(some 3),.plain,#[]⟩
noncomputable def o6:Obj:=⟨(.type "dict"),none,(.dict #[] 0),#[]⟩
noncomputable def o9:Obj:=co "<module>" 176 "<module>" 177 178 1 0 0 7 false 175 8 .none .none .none .none 179 180
noncomputable def o10:Obj:=⟨(.type "frame"),none,.plain,#[some (.ref 9),some (.ref 3),some (.ref 3),none,some (.str "__main__" 164),none,some (.ref 0)]⟩
noncomputable def o13:Obj:=co "<module>" 182 "<module>" 183 184 1 0 0 11 false 181 12 .none .none .none .none 185 186
noncomputable def o14:Obj:=⟨(.type "frame"),none,.plain,#[some (.ref 13),some (.ref 3),some (.ref 3),none,some (.str "__main__" 164),none,some (.ref 0)]⟩
noncomputable def zuL (P:Params):Obj:=⟨(.type "dict"),none,(.dict #[en P "__name__" 165 (.str "methodrows.subtype_sides" 271),en P "__doc__" 166 .none,en P "__package__" 167 .none,en P "__loader__" 168 (.builtin "__main__.__loader__#opaque"),en P "__spec__" 169 .none,en P "__annotations__" 170 (.ref 6),en P "__builtins__" 171 (.ref 4),en P "__file__" 173 (.str "/claim/cut.py" 172),en P "__cached__" 174 .none,en P "_wall" 193 (.ref 21),en P "ANY" 198 (.ref 23),en P "BOTTOM" 200 (.ref 24),en P "named" 208 (.ref 33),en P "tuple_of" 216 (.ref 41),en P "union_of" 226 (.ref 48),en P "parts_of_kind" 234 (.ref 55),en P "rebuilt_kind" 244 (.ref 62),en P "substituted" 250 (.ref 67),en P "free_vars" 256 (.ref 72),en P "binder_text" 264 (.ref 79),en P "kind_text" 270 (.ref 84),en P "MOST_CASES" 274 (.int 64 273),en P "Side" 341 (.ref 129),en P "Sides" 443 (.ref 200)] 24),#[]⟩
noncomputable def ztm:Obj:=⟨.none,none,(.fields #[(.int 1 0),(.int 0 0),(.ref 20),(.int 7 0),(.int 0 0),(.ref 32),(.int 9 0),(.int 0 0),(.ref 40),(.int 11 0),(.int 0 0),(.ref 47),(.int 24 0),(.int 0 0),(.ref 54),(.int 35 0),(.int 0 0),(.ref 61),(.int 47 0),(.int 0 0),(.ref 66),(.int 57 0),(.int 0 0),(.ref 71),(.int 70 0),(.int 0 0),(.ref 78),(.int 73 0),(.int 0 0),(.ref 83),(.int 94 0),(.int 0 0),(.ref 90),(.int 114 0),(.int 0 0),(.ref 139)]),#[]⟩
noncomputable def o17:Obj:=tu #[(.str "k" 190)]
noncomputable def o19:Obj:=f0 (st 0) "_wall" "_wall"
noncomputable def o20:Obj:=co "_wall" 187 "_wall" 188 189 1 1 3 15 true 181 16 .none (.ref 17) (.ref 18) (.ref 19) 191 192
noncomputable def o21:Obj:=f1 (st 0) "_wall" "_wall" .none "__main__" 164 20
noncomputable def o23:Obj:=tu #[(.str "name" 196),(.str "Any" 197),(.ref 22)]
noncomputable def o24:Obj:=tu #[(.str "bottom" 199)]
noncomputable def o26:Obj:=tu #[(.ref 25)]
noncomputable def o29:Obj:=tu #[(.str "name" 204),(.str "params" 205)]
noncomputable def o31:Obj:=f0 (st 4) "named" "named"
noncomputable def o32:Obj:=co "named" 201 "named" 202 203 7 2 3 27 true 181 28 .none (.ref 29) (.ref 30) (.ref 31) 206 207
noncomputable def o33:Obj:=f1 (st 4) "named" "named" (.ref 26) "methodrows.kind_terms" 194 32
noncomputable def o34:Obj:=tu #[.none]
noncomputable def o37:Obj:=tu #[(.str "kinds" 212),(.str "rest" 213)]
noncomputable def o39:Obj:=f0 (st 5) "tuple_of" "tuple_of"
noncomputable def o40:Obj:=co "tuple_of" 209 "tuple_of" 210 211 9 2 3 35 true 181 36 .none (.ref 37) (.ref 38) (.ref 39) 214 215
noncomputable def o41:Obj:=f1 (st 5) "tuple_of" "tuple_of" (.ref 34) "methodrows.kind_terms" 194 40
noncomputable def o44:Obj:=tu #[(.str "kinds" 220),(.str "left" 221),(.str "found" 222),(.str "here" 223)]
noncomputable def o46:Obj:=f0 (st 6) "union_of" "union_of"
noncomputable def o47:Obj:=co "union_of" 217 "union_of" 218 219 11 1 3 42 true 181 43 .none (.ref 44) (.ref 45) (.ref 46) 224 225
noncomputable def o48:Obj:=f1 (st 6) "union_of" "union_of" .none "methodrows.kind_terms" 194 47
noncomputable def o51:Obj:=tu #[(.str "kind" 230),(.str "word" 231)]
noncomputable def o53:Obj:=f0 (st 7) "parts_of_kind" "parts_of_kind"
noncomputable def o54:Obj:=co "parts_of_kind" 227 "parts_of_kind" 228 229 24 1 3 49 true 181 50 .none (.ref 51) (.ref 52) (.ref 53) 232 233
noncomputable def o55:Obj:=f1 (st 7) "parts_of_kind" "parts_of_kind" .none "methodrows.kind_terms" 194 54
noncomputable def o58:Obj:=tu #[(.str "kind" 238),(.str "parts" 239),(.str "word" 240),(.str "many" 241)]
noncomputable def o60:Obj:=f0 (st 8) "rebuilt_kind" "rebuilt_kind"
noncomputable def o61:Obj:=co "rebuilt_kind" 235 "rebuilt_kind" 236 237 35 2 3 56 true 181 57 .none (.ref 58) (.ref 59) (.ref 60) 242 243
noncomputable def o62:Obj:=f1 (st 8) "rebuilt_kind" "rebuilt_kind" .none "methodrows.kind_terms" 194 61
noncomputable def o65:Obj:=f0 (st 9) "substituted" "substituted"
noncomputable def o66:Obj:=co "substituted" 245 "substituted" 246 247 47 2 3 63 true 181 64 .none .none .none (.ref 65) 248 249
noncomputable def o67:Obj:=f1 (st 9) "substituted" "substituted" .none "methodrows.kind_terms" 194 66
noncomputable def o70:Obj:=f0 (st 10) "free_vars" "free_vars"
noncomputable def o71:Obj:=co "free_vars" 251 "free_vars" 252 253 57 1 3 68 true 181 69 .none .none .none (.ref 70) 254 255
noncomputable def o72:Obj:=f1 (st 10) "free_vars" "free_vars" .none "methodrows.kind_terms" 194 71
noncomputable def o75:Obj:=tu #[(.str "kind" 260),(.str "text" 261)]
noncomputable def o77:Obj:=f0 (st 11) "binder_text" "binder_text"
noncomputable def o78:Obj:=co "binder_text" 257 "binder_text" 258 259 70 1 3 73 true 181 74 .none (.ref 75) (.ref 76) (.ref 77) 262 263
noncomputable def o79:Obj:=f1 (st 11) "binder_text" "binder_text" .none "methodrows.kind_terms" 194 78
noncomputable def o82:Obj:=f0 (st 12) "kind_text" "kind_text"
noncomputable def o83:Obj:=co "kind_text" 265 "kind_text" 266 267 73 1 3 80 true 181 81 .none .none .none (.ref 82) 268 269
noncomputable def o84:Obj:=f1 (st 12) "kind_text" "kind_text" .none "methodrows.kind_terms" 194 83
noncomputable def o86:Obj:=⟨(.type "builtin_function_or_method"),none,(.fields #[(.builtin "type.__prepare__"),(.type "type")]),#[]⟩
noncomputable def o87 (P:Params):Obj:=⟨(.type "dict"),none,(.dict #[en P "__module__" 282 (.str "methodrows.subtype_sides" 271),en P "__qualname__" 284 (.str "Side" 283),en P "__firstlineno__" 286 (.int 94 285),en P "__init__" 298 (.ref 98),en P "with_lower" 306 (.ref 105),en P "with_upper" 314 (.ref 112),en P "lower" 321 (.ref 119),en P "upper" 328 (.ref 126),en P "__static_attributes__" 334 (.ref 127)] 9),#[]⟩
noncomputable def o89:Obj:=⟨.none,none,(.fields #[(.int 96 0),(.int 4 0),(.ref 97),(.int 103 0),(.int 4 0),(.ref 104),(.int 106 0),(.int 4 0),(.ref 111),(.int 109 0),(.int 4 0),(.ref 118),(.int 112 0),(.int 4 0),(.ref 125)]),#[]⟩
noncomputable def o90:Obj:=co "Side" 277 "Side" 278 279 94 0 0 88 false 181 89 .none .none .none .none 280 281
noncomputable def o91:Obj:=⟨(.type "frame"),none,.plain,#[some (.ref 90),some (.ref 3),some (.ref 87),none,some (.str "methodrows.subtype_sides" 271),none,some (.ref 0)]⟩
noncomputable def o94:Obj:=tu #[(.str "self" 290),(.str "is_asked" 291),(.str "order" 292),(.str "lowers" 293),(.str "uppers" 294),(.str "is_diagonal" 295)]
noncomputable def o96:Obj:=f0 (su 15 0) "__init__" "Side.__init__"
noncomputable def o97:Obj:=co "__init__" 287 "Side.__init__" 288 289 96 6 3 92 true 181 93 .none (.ref 94) (.ref 95) (.ref 96) 296 297
noncomputable def o98:Obj:=f1 (su 15 0) "__init__" "Side.__init__" .none "methodrows.subtype_sides" 271 97
noncomputable def zjj:Obj:=tu #[(.str "self" 302),(.str "kind" 303)]
noncomputable def zlc:Obj:=f0 (su 15 1) "with_lower" "Side.with_lower"
noncomputable def zim:Obj:=co "with_lower" 299 "Side.with_lower" 300 301 103 2 3 99 true 181 100 .none (.ref 101) (.ref 102) (.ref 103) 304 305
noncomputable def zgl:Obj:=f1 (su 15 1) "with_lower" "Side.with_lower" .none "methodrows.subtype_sides" 271 104
noncomputable def zjL:Obj:=tu #[(.str "self" 310),(.str "kind" 311)]
noncomputable def zjI:Obj:=f0 (su 15 2) "with_upper" "Side.with_upper"
noncomputable def zk7:Obj:=co "with_upper" 307 "Side.with_upper" 308 309 106 2 3 106 true 181 107 .none (.ref 108) (.ref 109) (.ref 110) 312 313
noncomputable def zjl:Obj:=f1 (su 15 2) "with_upper" "Side.with_upper" .none "methodrows.subtype_sides" 271 111
noncomputable def ziP:Obj:=tu #[(.str "self" 318)]
noncomputable def zkr:Obj:=f0 (su 15 3) "lower" "Side.lower"
noncomputable def ziV:Obj:=co "lower" 315 "Side.lower" 316 317 109 1 3 113 true 181 114 .none (.ref 115) (.ref 116) (.ref 117) 319 320
noncomputable def zjC:Obj:=f1 (su 15 3) "lower" "Side.lower" .none "methodrows.subtype_sides" 271 118
noncomputable def zjh:Obj:=tu #[(.str "self" 325)]
noncomputable def zlb:Obj:=f0 (su 15 4) "upper" "Side.upper"
noncomputable def zhD:Obj:=co "upper" 322 "Side.upper" 323 324 112 1 3 120 true 181 121 .none (.ref 122) (.ref 123) (.ref 124) 326 327
noncomputable def zf3:Obj:=f1 (su 15 4) "upper" "Side.upper" .none "methodrows.subtype_sides" 271 125
noncomputable def zkp:Obj:=tu #[(.str "is_asked" 329),(.str "is_diagonal" 330),(.str "lowers" 331),(.str "order" 332),(.str "uppers" 333)]
noncomputable def zjg (P:Params):Obj:=⟨(.type "dict"),none,(.dict #[en P "__module__" 282 (.str "methodrows.subtype_sides" 271),en P "__firstlineno__" 286 (.int 94 285),en P "__init__" 298 (.ref 98),en P "with_lower" 306 (.ref 105),en P "with_upper" 314 (.ref 112),en P "lower" 321 (.ref 119),en P "upper" 328 (.ref 126),en P "__static_attributes__" 334 (.ref 127),en P "__dict__" 336 (.ref 130),en P "__weakref__" 338 (.ref 131),en P "__doc__" 339 .none] 4),#[]⟩
noncomputable def zkj:Obj:=⟨(.type "type"),none,(.cls ⟨"Side",[(.type "object")],[(.ref 129),(.type "object")],128,"Side",true,[],[],false,none,false⟩),#[none,none,some (.str "Side" 275),some (.str "Side" 283),some (.builtin "object.__new__"),some (.bool true)]⟩
noncomputable def ziG:Obj:=⟨(.type "getset_descriptor"),none,(.fields #[(.str "__dict__" 335),(.ref 129),(.builtin "function.__dict__"),(.builtin "function.__dict__#set")]),#[]⟩
noncomputable def zju:Obj:=⟨(.type "getset_descriptor"),none,(.fields #[(.str "__weakref__" 337),(.ref 129),(.builtin "ExceptionGroup.__weakref__"),.none]),#[]⟩
noncomputable def zkf:Obj:=⟨(.type "super"),none,(.fields #[(.ref 129),(.ref 129),(.ref 129)]),#[]⟩
noncomputable def zld:Obj:=⟨(.type "builtin_function_or_method"),none,(.fields #[(.builtin "object.__init_subclass__"),(.ref 129)]),#[]⟩
noncomputable def ziu:Obj:=⟨(.type "builtin_function_or_method"),none,(.fields #[(.builtin "type.__prepare__"),(.type "type")]),#[]⟩
noncomputable def zkR (P:Params):Obj:=⟨(.type "dict"),none,(.dict #[en P "__module__" 349 (.str "methodrows.subtype_sides" 271),en P "__qualname__" 351 (.str "Sides" 350),en P "__firstlineno__" 353 (.int 114 352),en P "__init__" 363 (.ref 148),en P "copied" 370 (.ref 155),en P "opened" 387 (.ref 162),en P "side" 395 (.ref 169),en P "is_asked" 403 (.ref 176),en P "add_lower" 412 (.ref 183),en P "add_upper" 421 (.ref 190),en P "later_ones" 433 (.ref 197),en P "__static_attributes__" 436 (.ref 198)] 12),#[]⟩
noncomputable def zi7:Obj:=⟨.none,none,(.fields #[(.int 116 0),(.int 4 0),(.ref 147),(.int 120 0),(.int 4 0),(.ref 154),(.int 123 0),(.int 4 0),(.ref 161),(.int 132 0),(.int 4 0),(.ref 168),(.int 135 0),(.int 4 0),(.ref 175),(.int 138 0),(.int 4 0),(.ref 182),(.int 141 0),(.int 4 0),(.ref 189),(.int 144 0),(.int 4 0),(.ref 196)]),#[]⟩
noncomputable def zis:Obj:=co "Sides" 344 "Sides" 345 346 114 0 0 137 false 181 138 .none .none .none .none 347 348
noncomputable def zkF:Obj:=⟨(.type "frame"),none,.plain,#[some (.ref 139),some (.ref 3),some (.ref 136),none,some (.str "methodrows.subtype_sides" 271),none,some (.ref 0)]⟩
noncomputable def zfc:Obj:=tu #[.none,(.int 0 354)]
noncomputable def zk9:Obj:=tu #[(.str "self" 358),(.str "rows" 359),(.str "many" 360)]
noncomputable def zjr:Obj:=f0 (su 16 0) "__init__" "Sides.__init__"
noncomputable def zhv:Obj:=co "__init__" 355 "Sides.__init__" 356 357 116 3 3 142 true 181 143 .none (.ref 144) (.ref 145) (.ref 146) 361 362
noncomputable def zgA:Obj:=f1 (su 16 0) "__init__" "Sides.__init__" (.ref 141) "methodrows.subtype_sides" 271 147
noncomputable def zkG:Obj:=tu #[(.str "self" 367)]
noncomputable def ziA:Obj:=f0 (su 16 1) "copied" "Sides.copied"
noncomputable def zhY:Obj:=co "copied" 364 "Sides.copied" 365 366 120 1 3 149 true 181 150 .none (.ref 151) (.ref 152) (.ref 153) 368 369
noncomputable def zf1:Obj:=f1 (su 16 1) "copied" "Sides.copied" .none "methodrows.subtype_sides" 271 154
noncomputable def zka:Obj:=tu #[(.str "self" 374),(.str "kind" 375),(.str "is_asked" 376),(.str "word" 377),(.str "name" 378),(.str "lower" 379),(.str "upper" 380),(.str "body" 381),(.str "fresh" 382),(.str "lowers" 383),(.str "uppers" 384)]
noncomputable def zi5:Obj:=f0 (su 16 2) "opened" "Sides.opened"
noncomputable def zhz:Obj:=co "opened" 371 "Sides.opened" 372 373 123 3 3 156 true 181 157 .none (.ref 158) (.ref 159) (.ref 160) 385 386
noncomputable def zf9:Obj:=f1 (su 16 2) "opened" "Sides.opened" .none "methodrows.subtype_sides" 271 161
noncomputable def zjw:Obj:=tu #[(.str "self" 391),(.str "name" 392)]
noncomputable def zkI:Obj:=f0 (su 16 3) "side" "Sides.side"
noncomputable def zhR:Obj:=co "side" 388 "Sides.side" 389 390 132 2 3 163 true 181 164 .none (.ref 165) (.ref 166) (.ref 167) 393 394
noncomputable def zfU:Obj:=f1 (su 16 3) "side" "Sides.side" .none "methodrows.subtype_sides" 271 168
noncomputable def zku:Obj:=tu #[(.str "self" 399),(.str "kind" 400)]
noncomputable def zjJ:Obj:=f0 (su 16 4) "is_asked" "Sides.is_asked"
noncomputable def ziq:Obj:=co "is_asked" 396 "Sides.is_asked" 397 398 135 2 3 170 true 181 171 .none (.ref 172) (.ref 173) (.ref 174) 401 402
noncomputable def zfM:Obj:=f1 (su 16 4) "is_asked" "Sides.is_asked" .none "methodrows.subtype_sides" 271 175
noncomputable def zi4:Obj:=tu #[(.str "self" 407),(.str "name" 408),(.str "kind" 409)]
noncomputable def ziK:Obj:=f0 (su 16 5) "add_lower" "Sides.add_lower"
noncomputable def zh9:Obj:=co "add_lower" 404 "Sides.add_lower" 405 406 138 3 3 177 true 181 178 .none (.ref 179) (.ref 180) (.ref 181) 410 411
noncomputable def zgw:Obj:=f1 (su 16 5) "add_lower" "Sides.add_lower" .none "methodrows.subtype_sides" 271 182
noncomputable def zjU:Obj:=tu #[(.str "self" 416),(.str "name" 417),(.str "kind" 418)]
noncomputable def zi8:Obj:=f0 (su 16 6) "add_upper" "Sides.add_upper"
noncomputable def zkA:Obj:=co "add_upper" 413 "Sides.add_upper" 414 415 141 3 3 184 true 181 185 .none (.ref 186) (.ref 187) (.ref 188) 419 420
noncomputable def zkS:Obj:=f1 (su 16 6) "add_upper" "Sides.add_upper" .none "methodrows.subtype_sides" 271 189
noncomputable def ziz:Obj:=tu #[(.str "self" 425),(.str "kind" 426),(.str "name" 427),(.str "order" 428),(.str "found" 429),(.str "other" 430)]
noncomputable def zkO:Obj:=f0 (su 16 7) "later_ones" "Sides.later_ones"
noncomputable def zia:Obj:=co "later_ones" 422 "Sides.later_ones" 423 424 144 3 3 191 true 181 192 .none (.ref 193) (.ref 194) (.ref 195) 431 432
noncomputable def zga:Obj:=f1 (su 16 7) "later_ones" "Sides.later_ones" .none "methodrows.subtype_sides" 271 196
noncomputable def zkq:Obj:=tu #[(.str "many" 434),(.str "rows" 435)]
noncomputable def zkl (P:Params):Obj:=⟨(.type "dict"),none,(.dict #[en P "__module__" 349 (.str "methodrows.subtype_sides" 271),en P "__firstlineno__" 353 (.int 114 352),en P "__init__" 363 (.ref 148),en P "copied" 370 (.ref 155),en P "opened" 387 (.ref 162),en P "side" 395 (.ref 169),en P "is_asked" 403 (.ref 176),en P "add_lower" 412 (.ref 183),en P "add_upper" 421 (.ref 190),en P "later_ones" 433 (.ref 197),en P "__static_attributes__" 436 (.ref 198),en P "__dict__" 438 (.ref 201),en P "__weakref__" 440 (.ref 202),en P "__doc__" 441 .none] 4),#[]⟩
noncomputable def zk4:Obj:=⟨(.type "type"),none,(.cls ⟨"Sides",[(.type "object")],[(.ref 200),(.type "object")],199,"Sides",true,[],[],false,none,false⟩),#[none,none,some (.str "Sides" 342),some (.str "Sides" 350),some (.builtin "object.__new__"),some (.bool true)]⟩
noncomputable def zji:Obj:=⟨(.type "getset_descriptor"),none,(.fields #[(.str "__dict__" 437),(.ref 200),(.builtin "function.__dict__"),(.builtin "function.__dict__#set")]),#[]⟩
noncomputable def ziB:Obj:=⟨(.type "getset_descriptor"),none,(.fields #[(.str "__weakref__" 439),(.ref 200),(.builtin "ExceptionGroup.__weakref__"),.none]),#[]⟩
noncomputable def ziF:Obj:=⟨(.type "super"),none,(.fields #[(.ref 200),(.ref 200),(.ref 200)]),#[]⟩
noncomputable def zjK:Obj:=⟨(.type "builtin_function_or_method"),none,(.fields #[(.builtin "object.__init_subclass__"),(.ref 200)]),#[]⟩
noncomputable def zuB (P:Params):Obj:=⟨(.type "dict"),none,(.dict #[en P "__name__" 165 (.str "methodrows.subtypes" 495),en P "__doc__" 166 .none,en P "__package__" 167 .none,en P "__loader__" 168 (.builtin "__main__.__loader__#opaque"),en P "__spec__" 169 .none,en P "__annotations__" 170 (.ref 6),en P "__builtins__" 171 (.ref 4),en P "__file__" 173 (.str "/claim/cut.py" 172),en P "__cached__" 174 .none,en P "_wall" 193 (.ref 21),en P "ANY" 198 (.ref 23),en P "BOTTOM" 200 (.ref 24),en P "named" 208 (.ref 33),en P "tuple_of" 216 (.ref 41),en P "union_of" 226 (.ref 48),en P "parts_of_kind" 234 (.ref 55),en P "rebuilt_kind" 244 (.ref 62),en P "substituted" 250 (.ref 67),en P "free_vars" 256 (.ref 72),en P "binder_text" 264 (.ref 79),en P "kind_text" 270 (.ref 84),en P "MOST_CASES" 274 (.int 64 273),en P "Side" 341 (.ref 129),en P "Sides" 443 (.ref 200),en P "occurrences" 449 (.ref 209),en P "bound_occurrences" 459 (.ref 216),en P "is_diagonal" 469 (.ref 223),en P "left_cases" 475 (.ref 228),en P "tuple_cases" 481 (.ref 233),en P "is_empty" 487 (.ref 238),en P "tail_of" 494 (.ref 245),en P "TYPE" 499 (.ref 247),en P "FUNCTION" 502 (.ref 249),en P "Search" 637 (.ref 338),en P "narrowed" 648 (.ref 349),en P "widened" 658 (.ref 356)] 36),#[]⟩
noncomputable def zri:Obj:=⟨.none,none,(.fields #[(.int 1 0),(.int 0 0),(.ref 20),(.int 7 0),(.int 0 0),(.ref 32),(.int 9 0),(.int 0 0),(.ref 40),(.int 11 0),(.int 0 0),(.ref 47),(.int 24 0),(.int 0 0),(.ref 54),(.int 35 0),(.int 0 0),(.ref 61),(.int 47 0),(.int 0 0),(.ref 66),(.int 57 0),(.int 0 0),(.ref 71),(.int 70 0),(.int 0 0),(.ref 78),(.int 73 0),(.int 0 0),(.ref 83),(.int 94 0),(.int 0 0),(.ref 90),(.int 114 0),(.int 0 0),(.ref 139),(.int 151 0),(.int 0 0),(.ref 208),(.int 166 0),(.int 0 0),(.ref 215),(.int 169 0),(.int 0 0),(.ref 222),(.int 172 0),(.int 0 0),(.ref 227),(.int 183 0),(.int 0 0),(.ref 232),(.int 191 0),(.int 0 0),(.ref 237),(.int 197 0),(.int 0 0),(.ref 244),(.int 202 0),(.int 0 0),(.ref 255),(.int 323 0),(.int 0 0),(.ref 348),(.int 329 0),(.int 0 0),(.ref 355)]),#[]⟩
noncomputable def zlx:Obj:=f0 (st 17) "occurrences" "occurrences"
noncomputable def ziD:Obj:=co "occurrences" 444 "occurrences" 445 446 151 2 3 205 true 181 206 .none .none .none (.ref 207) 447 448
noncomputable def zh0:Obj:=f1 (st 17) "occurrences" "occurrences" .none "methodrows.subtype_sides" 271 208
noncomputable def zmG:Obj:=tu #[(.str "kind" 453),(.str "name" 454),(.str "many" 455),(.str "is_within" 456)]
noncomputable def zlo:Obj:=f0 (st 18) "bound_occurrences" "bound_occurrences"
noncomputable def zns:Obj:=co "bound_occurrences" 450 "bound_occurrences" 451 452 166 2 3 210 true 181 211 .none (.ref 212) (.ref 213) (.ref 214) 457 458
noncomputable def zlh:Obj:=f1 (st 18) "bound_occurrences" "bound_occurrences" .none "methodrows.subtype_sides" 271 215
noncomputable def znp:Obj:=tu #[(.str "body" 463),(.str "name" 464),(.str "many" 465),(.str "is_within" 466)]
noncomputable def znr:Obj:=f0 (st 19) "is_diagonal" "is_diagonal"
noncomputable def zjP:Obj:=co "is_diagonal" 460 "is_diagonal" 461 462 169 2 3 217 true 181 218 .none (.ref 219) (.ref 220) (.ref 221) 467 468
noncomputable def zin:Obj:=f1 (st 19) "is_diagonal" "is_diagonal" .none "methodrows.subtype_sides" 271 222
noncomputable def zlP:Obj:=f0 (st 20) "left_cases" "left_cases"
noncomputable def zjc:Obj:=co "left_cases" 470 "left_cases" 471 472 172 1 3 224 true 181 225 .none .none .none (.ref 226) 473 474
noncomputable def zhx:Obj:=f1 (st 20) "left_cases" "left_cases" .none "methodrows.subtype_sides" 271 227
noncomputable def zl6:Obj:=f0 (st 21) "tuple_cases" "tuple_cases"
noncomputable def zj1:Obj:=co "tuple_cases" 476 "tuple_cases" 477 478 183 1 3 229 true 181 230 .none .none .none (.ref 231) 479 480
noncomputable def zh7:Obj:=f1 (st 21) "tuple_cases" "tuple_cases" .none "methodrows.subtype_sides" 271 232
noncomputable def zmE:Obj:=f0 (st 22) "is_empty" "is_empty"
noncomputable def zjv:Obj:=co "is_empty" 482 "is_empty" 483 484 191 1 3 234 true 181 235 .none .none .none (.ref 236) 485 486
noncomputable def zh6:Obj:=f1 (st 22) "is_empty" "is_empty" .none "methodrows.subtype_sides" 271 237
noncomputable def zl3:Obj:=tu #[(.str "kind" 491)]
noncomputable def zm4:Obj:=f0 (st 23) "tail_of" "tail_of"
noncomputable def zjy:Obj:=co "tail_of" 488 "tail_of" 489 490 197 1 3 239 true 181 240 .none (.ref 241) (.ref 242) (.ref 243) 492 493
noncomputable def zh1:Obj:=f1 (st 23) "tail_of" "tail_of" .none "methodrows.subtype_sides" 271 244
noncomputable def zlU:Obj:=tu #[(.str "name" 497),(.str "Type" 498),(.ref 246)]
noncomputable def zmx:Obj:=tu #[(.str "name" 500),(.str "Function" 501),(.ref 248)]
noncomputable def zmP:Obj:=⟨(.type "builtin_function_or_method"),none,(.fields #[(.builtin "type.__prepare__"),(.type "type")]),#[]⟩
noncomputable def zl7 (P:Params):Obj:=⟨(.type "dict"),none,(.dict #[en P "__module__" 510 (.str "methodrows.subtypes" 495),en P "__qualname__" 512 (.str "Search" 511),en P "__firstlineno__" 514 (.int 202 513),en P "__init__" 523 (.ref 263),en P "run" 536 (.ref 270),en P "settled" 548 (.ref 277),en P "step" 560 (.ref 284),en P "numbers" 571 (.ref 291),en P "below" 577 (.ref 296),en P "above" 583 (.ref 301),en P "by_form" 589 (.ref 306),en P "chosen" 595 (.ref 311),en P "plain" 605 (.ref 318),en P "nominal" 611 (.ref 323),en P "are_concrete" 621 (.ref 330),en P "is_one" 627 (.ref 335),en P "__static_attributes__" 630 (.ref 336)] 17),#[]⟩
noncomputable def zmQ:Obj:=⟨.none,none,(.fields #[(.int 204 0),(.int 4 0),(.ref 262),(.int 208 0),(.int 4 0),(.ref 269),(.int 217 0),(.int 4 0),(.ref 276),(.int 228 0),(.int 4 0),(.ref 283),(.int 244 0),(.int 4 0),(.ref 290),(.int 253 0),(.int 4 0),(.ref 295),(.int 260 0),(.int 4 0),(.ref 300),(.int 267 0),(.int 4 0),(.ref 305),(.int 286 0),(.int 4 0),(.ref 310),(.int 291 0),(.int 4 0),(.ref 317),(.int 303 0),(.int 4 0),(.ref 322),(.int 309 0),(.int 4 0),(.ref 329),(.int 316 0),(.int 4 0),(.ref 334)]),#[]⟩
noncomputable def zmH:Obj:=co "Search" 505 "Search" 506 507 202 0 0 253 false 181 254 .none .none .none .none 508 509
noncomputable def zmI:Obj:=⟨(.type "frame"),none,.plain,#[some (.ref 255),some (.ref 3),some (.ref 252),none,some (.str "methodrows.subtypes" 495),none,some (.ref 0)]⟩
noncomputable def zls:Obj:=tu #[(.str "self" 518),(.str "kinds" 519),(.str "fuel" 520)]
noncomputable def zmq:Obj:=f0 (su 27 0) "__init__" "Search.__init__"
noncomputable def zjn:Obj:=co "__init__" 515 "Search.__init__" 516 517 204 3 3 257 true 181 258 .none (.ref 259) (.ref 260) (.ref 261) 521 522
noncomputable def zhA:Obj:=f1 (su 27 0) "__init__" "Search.__init__" .none "methodrows.subtypes" 495 262
noncomputable def zmp:Obj:=tu #[(.str "self" 527),(.str "goals" 528),(.str "sides" 529),(.str "waiting" 530),(.str "left" 531),(.str "here" 532),(.str "found" 533)]
noncomputable def zmj:Obj:=f0 (su 27 1) "run" "Search.run"
noncomputable def zkK:Obj:=co "run" 524 "Search.run" 525 526 208 3 3 264 true 181 265 .none (.ref 266) (.ref 267) (.ref 268) 534 535
noncomputable def zh2:Obj:=f1 (su 27 1) "run" "Search.run" .none "methodrows.subtypes" 495 269
noncomputable def znw:Obj:=tu #[(.str "self" 540),(.str "left" 541),(.str "sides" 542),(.str "waiting" 543),(.str "ways" 544),(.str "way" 545)]
noncomputable def zlS:Obj:=f0 (su 27 2) "settled" "Search.settled"
noncomputable def zkP:Obj:=co "settled" 537 "Search.settled" 538 539 217 4 3 271 true 181 272 .none (.ref 273) (.ref 274) (.ref 275) 546 547
noncomputable def zig:Obj:=f1 (su 27 2) "settled" "Search.settled" .none "methodrows.subtypes" 495 276
noncomputable def zlV:Obj:=tu #[(.str "self" 552),(.str "goal" 553),(.str "sides" 554),(.str "word" 555),(.str "one" 556),(.str "other" 557)]
noncomputable def zlw:Obj:=f0 (su 27 3) "step" "Search.step"
noncomputable def zk2:Obj:=co "step" 549 "Search.step" 550 551 228 3 3 278 true 181 279 .none (.ref 280) (.ref 281) (.ref 282) 558 559
noncomputable def zhG:Obj:=f1 (su 27 3) "step" "Search.step" .none "methodrows.subtypes" 495 283
noncomputable def zmu:Obj:=tu #[(.str "self" 564),(.str "word" 565),(.str "one" 566),(.str "other" 567),(.str "sides" 568)]
noncomputable def zlD:Obj:=f0 (su 27 4) "numbers" "Search.numbers"
noncomputable def zmV:Obj:=co "numbers" 561 "Search.numbers" 562 563 244 5 3 285 true 181 286 .none (.ref 287) (.ref 288) (.ref 289) 569 570
noncomputable def zmZ:Obj:=f1 (su 27 4) "numbers" "Search.numbers" .none "methodrows.subtypes" 495 290
noncomputable def zmX:Obj:=f0 (su 27 5) "below" "Search.below"
noncomputable def zlt:Obj:=co "below" 572 "Search.below" 573 574 253 4 3 292 true 181 293 .none .none .none (.ref 294) 575 576
noncomputable def zmR:Obj:=f1 (su 27 5) "below" "Search.below" .none "methodrows.subtypes" 495 295
noncomputable def zlN:Obj:=f0 (su 27 6) "above" "Search.above"
noncomputable def zkW:Obj:=co "above" 578 "Search.above" 579 580 260 4 3 297 true 181 298 .none .none .none (.ref 299) 581 582
noncomputable def zhC:Obj:=f1 (su 27 6) "above" "Search.above" .none "methodrows.subtypes" 495 300
noncomputable def zlm:Obj:=f0 (su 27 7) "by_form" "Search.by_form"
noncomputable def zjB:Obj:=co "by_form" 584 "Search.by_form" 585 586 267 4 3 302 true 181 303 .none .none .none (.ref 304) 587 588
noncomputable def zhB:Obj:=f1 (su 27 7) "by_form" "Search.by_form" .none "methodrows.subtypes" 495 305
noncomputable def zlC:Obj:=f0 (su 27 8) "chosen" "Search.chosen"
noncomputable def zk8:Obj:=co "chosen" 590 "Search.chosen" 591 592 286 4 3 307 true 181 308 .none .none .none (.ref 309) 593 594
noncomputable def zhU:Obj:=f1 (su 27 8) "chosen" "Search.chosen" .none "methodrows.subtypes" 495 310
noncomputable def zng:Obj:=tu #[(.str "self" 599),(.str "one" 600),(.str "other" 601),(.str "words" 602)]
noncomputable def zma:Obj:=f0 (su 27 9) "plain" "Search.plain"
noncomputable def zkx:Obj:=co "plain" 596 "Search.plain" 597 598 291 3 3 312 true 181 313 .none (.ref 314) (.ref 315) (.ref 316) 603 604
noncomputable def zhw:Obj:=f1 (su 27 9) "plain" "Search.plain" .none "methodrows.subtypes" 495 317
noncomputable def znh:Obj:=f0 (su 27 10) "nominal" "Search.nominal"
noncomputable def zkM:Obj:=co "nominal" 606 "Search.nominal" 607 608 303 3 3 319 true 181 320 .none .none .none (.ref 321) 609 610
noncomputable def zhE:Obj:=f1 (su 27 10) "nominal" "Search.nominal" .none "methodrows.subtypes" 495 322
noncomputable def znf:Obj:=tu #[(.str "self" 615),(.str "sides" 616),(.str "name" 617),(.str "side" 618)]
noncomputable def zmt:Obj:=f0 (su 27 11) "are_concrete" "Search.are_concrete"
noncomputable def zjq:Obj:=co "are_concrete" 612 "Search.are_concrete" 613 614 309 2 3 324 true 181 325 .none (.ref 326) (.ref 327) (.ref 328) 619 620
noncomputable def zhO:Obj:=f1 (su 27 11) "are_concrete" "Search.are_concrete" .none "methodrows.subtypes" 495 329
noncomputable def zlT:Obj:=f0 (su 27 12) "is_one" "Search.is_one"
noncomputable def zlv:Obj:=co "is_one" 622 "Search.is_one" 623 624 316 3 3 331 true 181 332 .none .none .none (.ref 333) 625 626
noncomputable def zl8:Obj:=f1 (su 27 12) "is_one" "Search.is_one" .none "methodrows.subtypes" 495 334
noncomputable def zm1:Obj:=tu #[(.str "fuel" 628),(.str "kinds" 629)]
noncomputable def zlA (P:Params):Obj:=⟨(.type "dict"),none,(.dict #[en P "__module__" 510 (.str "methodrows.subtypes" 495),en P "__firstlineno__" 514 (.int 202 513),en P "__init__" 523 (.ref 263),en P "run" 536 (.ref 270),en P "settled" 548 (.ref 277),en P "step" 560 (.ref 284),en P "numbers" 571 (.ref 291),en P "below" 577 (.ref 296),en P "above" 583 (.ref 301),en P "by_form" 589 (.ref 306),en P "chosen" 595 (.ref 311),en P "plain" 605 (.ref 318),en P "nominal" 611 (.ref 323),en P "are_concrete" 621 (.ref 330),en P "is_one" 627 (.ref 335),en P "__static_attributes__" 630 (.ref 336),en P "__dict__" 632 (.ref 339),en P "__weakref__" 634 (.ref 340),en P "__doc__" 635 .none] 4),#[]⟩
noncomputable def zlu:Obj:=⟨(.type "type"),none,(.cls ⟨"Search",[(.type "object")],[(.ref 338),(.type "object")],337,"Search",true,[],[],false,none,false⟩),#[none,none,some (.str "Search" 503),some (.str "Search" 511),some (.builtin "object.__new__"),some (.bool true)]⟩
noncomputable def zmK:Obj:=⟨(.type "getset_descriptor"),none,(.fields #[(.str "__dict__" 631),(.ref 338),(.builtin "function.__dict__"),(.builtin "function.__dict__#set")]),#[]⟩
noncomputable def zlQ:Obj:=⟨(.type "getset_descriptor"),none,(.fields #[(.str "__weakref__" 633),(.ref 338),(.builtin "ExceptionGroup.__weakref__"),.none]),#[]⟩
noncomputable def znc:Obj:=⟨(.type "super"),none,(.fields #[(.ref 338),(.ref 338),(.ref 338)]),#[]⟩
noncomputable def zlF:Obj:=⟨(.type "builtin_function_or_method"),none,(.fields #[(.builtin "object.__init_subclass__"),(.ref 338)]),#[]⟩
noncomputable def zlp:Obj:=tu #[(.str "name" 641),(.str "kind" 642),(.str "sides" 643),(.str "later" 644),(.str "lower" 645)]
noncomputable def zlE:Obj:=f0 (st 28) "narrowed" "narrowed"
noncomputable def zmC:Obj:=co "narrowed" 638 "narrowed" 639 640 323 3 3 343 true 181 344 .none (.ref 345) (.ref 346) (.ref 347) 646 647
noncomputable def zl2:Obj:=f1 (st 28) "narrowed" "narrowed" .none "methodrows.subtypes" 495 348
noncomputable def zlB:Obj:=tu #[(.str "name" 652),(.str "kind" 653),(.str "sides" 654),(.str "later" 655)]
noncomputable def zly:Obj:=f0 (st 29) "widened" "widened"
noncomputable def zkN:Obj:=co "widened" 649 "widened" 650 651 329 3 3 350 true 181 351 .none (.ref 352) (.ref 353) (.ref 354) 656 657
noncomputable def zhy:Obj:=f1 (st 29) "widened" "widened" .none "methodrows.subtypes" 495 355
noncomputable def zp2 (P:Params):Obj:=⟨.none,none,(.dict #[en P "type.__subclasses__.Exception.0" 891 (.int 518 0),en P "type.__subclasses__.Exception.n" 892 (.int 1 0)] 2),#[]⟩
noncomputable def zuI (P:Params):Obj:=⟨(.type "dict"),none,(.dict #[en P "__name__" 165 (.str "methodrows.kinds" 911),en P "__doc__" 166 .none,en P "__package__" 167 .none,en P "__loader__" 168 (.builtin "__main__.__loader__#opaque"),en P "__spec__" 169 .none,en P "__annotations__" 170 (.ref 6),en P "__builtins__" 171 (.ref 4),en P "__file__" 173 (.str "/claim/cut.py" 172),en P "__cached__" 174 .none,en P "_wall" 193 (.ref 21),en P "ANY" 198 (.ref 23),en P "BOTTOM" 200 (.ref 24),en P "named" 208 (.ref 33),en P "tuple_of" 216 (.ref 41),en P "union_of" 226 (.ref 48),en P "parts_of_kind" 234 (.ref 55),en P "rebuilt_kind" 244 (.ref 62),en P "substituted" 250 (.ref 67),en P "free_vars" 256 (.ref 72),en P "binder_text" 264 (.ref 79),en P "kind_text" 270 (.ref 84),en P "MOST_CASES" 274 (.int 64 273),en P "Side" 341 (.ref 129),en P "Sides" 443 (.ref 200),en P "occurrences" 449 (.ref 209),en P "bound_occurrences" 459 (.ref 216),en P "is_diagonal" 469 (.ref 223),en P "left_cases" 475 (.ref 228),en P "tuple_cases" 481 (.ref 233),en P "is_empty" 487 (.ref 238),en P "tail_of" 494 (.ref 245),en P "TYPE" 499 (.ref 247),en P "FUNCTION" 502 (.ref 249),en P "Search" 637 (.ref 338),en P "narrowed" 648 (.ref 349),en P "widened" 658 (.ref 356),en P "has_within" 666 (.ref 363),en P "tuple_ways" 672 (.ref 368),en P "is_subtype" 685 (.ref 376),en P "same_kind" 694 (.ref 383),en P "FIRST_WORLD" 698 (.int 1 697),en P "Table" 744 (.ref 412),en P "Tables" 861 (.ref 496),en P "RowsError" 894 (.ref 518),en P "KindFault" 910 (.ref 531),en P "SIGNED" 918 (.ref 534),en P "UNSIGNED" 923 (.ref 535),en P "PLAIN_ERRORS" 928 (.ref 536),en P "TEXT_ERRORS" 933 (.ref 537)] 49),#[]⟩
noncomputable def zuu:Obj:=⟨.none,none,(.fields #[(.int 1 0),(.int 0 0),(.ref 20),(.int 7 0),(.int 0 0),(.ref 32),(.int 9 0),(.int 0 0),(.ref 40),(.int 11 0),(.int 0 0),(.ref 47),(.int 24 0),(.int 0 0),(.ref 54),(.int 35 0),(.int 0 0),(.ref 61),(.int 47 0),(.int 0 0),(.ref 66),(.int 57 0),(.int 0 0),(.ref 71),(.int 70 0),(.int 0 0),(.ref 78),(.int 73 0),(.int 0 0),(.ref 83),(.int 94 0),(.int 0 0),(.ref 90),(.int 114 0),(.int 0 0),(.ref 139),(.int 151 0),(.int 0 0),(.ref 208),(.int 166 0),(.int 0 0),(.ref 215),(.int 169 0),(.int 0 0),(.ref 222),(.int 172 0),(.int 0 0),(.ref 227),(.int 183 0),(.int 0 0),(.ref 232),(.int 191 0),(.int 0 0),(.ref 237),(.int 197 0),(.int 0 0),(.ref 244),(.int 202 0),(.int 0 0),(.ref 255),(.int 323 0),(.int 0 0),(.ref 348),(.int 329 0),(.int 0 0),(.ref 355),(.int 336 0),(.int 0 0),(.ref 362),(.int 338 0),(.int 0 0),(.ref 367),(.int 345 0),(.int 0 0),(.ref 375),(.int 353 0),(.int 0 0),(.ref 382),(.int 357 0),(.int 0 0),(.ref 389),(.int 371 0),(.int 0 0),(.ref 422),(.int 412 0),(.int 0 0),(.ref 506),(.int 418 0),(.int 0 0),(.ref 527)]),#[]⟩
noncomputable def zpV:Obj:=tu #[(.str "name" 662),(.str "kind" 663)]
noncomputable def zo3:Obj:=f0 (st 30) "has_within" "has_within"
noncomputable def zlL:Obj:=co "has_within" 659 "has_within" 660 661 336 2 3 357 true 181 358 .none (.ref 359) (.ref 360) (.ref 361) 664 665
noncomputable def zj5:Obj:=f1 (st 30) "has_within" "has_within" .none "methodrows.subtypes" 495 362
noncomputable def zpu:Obj:=f0 (st 31) "tuple_ways" "tuple_ways"
noncomputable def zmn:Obj:=co "tuple_ways" 667 "tuple_ways" 668 669 338 2 3 364 true 181 365 .none .none .none (.ref 366) 670 671
noncomputable def zj9:Obj:=f1 (st 31) "tuple_ways" "tuple_ways" .none "methodrows.subtypes" 495 367
noncomputable def ziN:Obj:=tu #[(.int 4000 673)]
noncomputable def zqK:Obj:=tu #[(.str "kinds" 677),(.str "one" 678),(.str "other" 679),(.str "fuel" 680),(.str "case" 681),(.str "search" 682)]
noncomputable def zpD:Obj:=f0 (st 32) "is_subtype" "is_subtype"
noncomputable def zlj:Obj:=co "is_subtype" 674 "is_subtype" 675 676 345 4 3 370 true 181 371 .none (.ref 372) (.ref 373) (.ref 374) 683 684
noncomputable def zjz:Obj:=f1 (st 32) "is_subtype" "is_subtype" (.ref 369) "methodrows.subtypes" 495 375
noncomputable def zoL:Obj:=tu #[(.str "kinds" 689),(.str "one" 690),(.str "other" 691)]
noncomputable def zp9:Obj:=f0 (st 33) "same_kind" "same_kind"
noncomputable def zmS:Obj:=co "same_kind" 686 "same_kind" 687 688 353 3 3 377 true 181 378 .none (.ref 379) (.ref 380) (.ref 381) 692 693
noncomputable def ziC:Obj:=f1 (st 33) "same_kind" "same_kind" .none "methodrows.subtypes" 495 382
noncomputable def zqM:Obj:=⟨(.type "builtin_function_or_method"),none,(.fields #[(.builtin "type.__prepare__"),(.type "type")]),#[]⟩
noncomputable def zpm (P:Params):Obj:=⟨(.type "dict"),none,(.dict #[en P "__module__" 706 (.str "methodrows.tables" 695),en P "__qualname__" 708 (.str "Table" 707),en P "__firstlineno__" 710 (.int 357 709),en P "__init__" 718 (.ref 397),en P "add" 728 (.ref 404),en P "live" 734 (.ref 409),en P "__static_attributes__" 737 (.ref 410)] 7),#[]⟩
noncomputable def zpy:Obj:=⟨.none,none,(.fields #[(.int 359 0),(.int 4 0),(.ref 396),(.int 363 0),(.int 4 0),(.ref 403),(.int 369 0),(.int 4 0),(.ref 408)]),#[]⟩
noncomputable def zok:Obj:=co "Table" 701 "Table" 702 703 357 0 0 387 false 181 388 .none .none .none .none 704 705
noncomputable def zo9:Obj:=⟨(.type "frame"),none,.plain,#[some (.ref 389),some (.ref 3),some (.ref 386),none,some (.str "methodrows.tables" 695),none,some (.ref 0)]⟩
noncomputable def zpw:Obj:=tu #[(.str "self" 714),(.str "name" 715)]
noncomputable def zrf:Obj:=f0 (su 36 0) "__init__" "Table.__init__"
noncomputable def znt:Obj:=co "__init__" 711 "Table.__init__" 712 713 359 2 3 391 true 181 392 .none (.ref 393) (.ref 394) (.ref 395) 716 717
noncomputable def zkB:Obj:=f1 (su 36 0) "__init__" "Table.__init__" .none "methodrows.tables" 695 396
noncomputable def zqR:Obj:=tu #[(.str "self" 722),(.str "method" 723),(.str "kinds" 724),(.str "elder" 725)]
noncomputable def zom:Obj:=f0 (su 36 1) "add" "Table.add"
noncomputable def zlr:Obj:=co "add" 719 "Table.add" 720 721 363 3 3 398 true 181 399 .none (.ref 400) (.ref 401) (.ref 402) 726 727
noncomputable def zje:Obj:=f1 (su 36 1) "add" "Table.add" .none "methodrows.tables" 695 403
noncomputable def zpx:Obj:=f0 (su 36 2) "live" "Table.live"
noncomputable def zlI:Obj:=co "live" 729 "Table.live" 730 731 369 2 3 405 true 181 406 .none .none .none (.ref 407) 732 733
noncomputable def zkg:Obj:=f1 (su 36 2) "live" "Table.live" .none "methodrows.tables" 695 408
noncomputable def zp3:Obj:=tu #[(.str "methods" 735),(.str "name" 736)]
noncomputable def zpr (P:Params):Obj:=⟨(.type "dict"),none,(.dict #[en P "__module__" 706 (.str "methodrows.tables" 695),en P "__firstlineno__" 710 (.int 357 709),en P "__init__" 718 (.ref 397),en P "add" 728 (.ref 404),en P "live" 734 (.ref 409),en P "__static_attributes__" 737 (.ref 410),en P "__dict__" 739 (.ref 413),en P "__weakref__" 741 (.ref 414),en P "__doc__" 742 .none] 4),#[]⟩
noncomputable def zqr:Obj:=⟨(.type "type"),none,(.cls ⟨"Table",[(.type "object")],[(.ref 412),(.type "object")],411,"Table",true,[],[],false,none,false⟩),#[none,none,some (.str "Table" 699),some (.str "Table" 707),some (.builtin "object.__new__"),some (.bool true)]⟩
noncomputable def zpb:Obj:=⟨(.type "getset_descriptor"),none,(.fields #[(.str "__dict__" 738),(.ref 412),(.builtin "function.__dict__"),(.builtin "function.__dict__#set")]),#[]⟩
noncomputable def zoO:Obj:=⟨(.type "getset_descriptor"),none,(.fields #[(.str "__weakref__" 740),(.ref 412),(.builtin "ExceptionGroup.__weakref__"),.none]),#[]⟩
noncomputable def zpA:Obj:=⟨(.type "super"),none,(.fields #[(.ref 412),(.ref 412),(.ref 412)]),#[]⟩
noncomputable def zpT:Obj:=⟨(.type "builtin_function_or_method"),none,(.fields #[(.builtin "object.__init_subclass__"),(.ref 412)]),#[]⟩
noncomputable def zpj:Obj:=⟨(.type "builtin_function_or_method"),none,(.fields #[(.builtin "type.__prepare__"),(.type "type")]),#[]⟩
noncomputable def zol (P:Params):Obj:=⟨(.type "dict"),none,(.dict #[en P "__module__" 752 (.str "methodrows.tables" 695),en P "__qualname__" 754 (.str "Tables" 753),en P "__firstlineno__" 756 (.int 371 755),en P "__init__" 764 (.ref 430),en P "table" 772 (.ref 437),en P "add" 780 (.ref 444),en P "live" 789 (.ref 451),en P "fitting" 799 (.ref 458),en P "lookup" 809 (.ref 465),en P "all_fitting" 819 (.ref 472),en P "is_hidden" 829 (.ref 479),en P "may_be_called" 839 (.ref 486),en P "answer" 849 (.ref 493),en P "__static_attributes__" 854 (.ref 494)] 14),#[]⟩
noncomputable def zqA:Obj:=⟨.none,none,(.fields #[(.int 373 0),(.int 4 0),(.ref 429),(.int 379 0),(.int 4 0),(.ref 436),(.int 384 0),(.int 4 0),(.ref 443),(.int 391 0),(.int 4 0),(.ref 450),(.int 394 0),(.int 4 0),(.ref 457),(.int 397 0),(.int 4 0),(.ref 464),(.int 400 0),(.int 4 0),(.ref 471),(.int 403 0),(.int 4 0),(.ref 478),(.int 406 0),(.int 4 0),(.ref 485),(.int 409 0),(.int 4 0),(.ref 492)]),#[]⟩
noncomputable def zoB:Obj:=co "Tables" 747 "Tables" 748 749 371 0 0 420 false 181 421 .none .none .none .none 750 751
noncomputable def zqs:Obj:=⟨(.type "frame"),none,.plain,#[some (.ref 422),some (.ref 3),some (.ref 419),none,some (.str "methodrows.tables" 695),none,some (.ref 0)]⟩
noncomputable def zpv:Obj:=tu #[(.str "self" 760),(.str "kinds" 761)]
noncomputable def zpP:Obj:=f0 (su 37 0) "__init__" "Tables.__init__"
noncomputable def zmw:Obj:=co "__init__" 757 "Tables.__init__" 758 759 373 2 3 424 true 181 425 .none (.ref 426) (.ref 427) (.ref 428) 762 763
noncomputable def zjE:Obj:=f1 (su 37 0) "__init__" "Tables.__init__" .none "methodrows.tables" 695 429
noncomputable def zpK:Obj:=tu #[(.str "self" 768),(.str "name" 769)]
noncomputable def zoT:Obj:=f0 (su 37 1) "table" "Tables.table"
noncomputable def zni:Obj:=co "table" 765 "Tables.table" 766 767 379 2 3 431 true 181 432 .none (.ref 433) (.ref 434) (.ref 435) 770 771
noncomputable def zkL:Obj:=f1 (su 37 1) "table" "Tables.table" .none "methodrows.tables" 695 436
noncomputable def zq1:Obj:=tu #[(.str "self" 776),(.str "method" 777)]
noncomputable def zqc:Obj:=f0 (su 37 2) "add" "Tables.add"
noncomputable def zm9:Obj:=co "add" 773 "Tables.add" 774 775 384 2 3 438 true 181 439 .none (.ref 440) (.ref 441) (.ref 442) 778 779
noncomputable def ziR:Obj:=f1 (su 37 2) "add" "Tables.add" .none "methodrows.tables" 695 443
noncomputable def zre:Obj:=tu #[(.str "self" 784),(.str "name" 785),(.str "world" 786)]
noncomputable def zq8:Obj:=f0 (su 37 3) "live" "Tables.live"
noncomputable def zmr:Obj:=co "live" 781 "Tables.live" 782 783 391 3 3 445 true 181 446 .none (.ref 447) (.ref 448) (.ref 449) 787 788
noncomputable def zi9:Obj:=f1 (su 37 3) "live" "Tables.live" .none "methodrows.tables" 695 450
noncomputable def zpq:Obj:=tu #[(.str "self" 793),(.str "name" 794),(.str "kind" 795),(.str "world" 796)]
noncomputable def zpF:Obj:=f0 (su 37 4) "fitting" "Tables.fitting"
noncomputable def zpf:Obj:=co "fitting" 790 "Tables.fitting" 791 792 394 4 3 452 true 181 453 .none (.ref 454) (.ref 455) (.ref 456) 797 798
noncomputable def zqL:Obj:=f1 (su 37 4) "fitting" "Tables.fitting" .none "methodrows.tables" 695 457
noncomputable def zqS:Obj:=tu #[(.str "self" 803),(.str "name" 804),(.str "kind" 805),(.str "world" 806)]
noncomputable def zo6:Obj:=f0 (su 37 5) "lookup" "Tables.lookup"
noncomputable def zpc:Obj:=co "lookup" 800 "Tables.lookup" 801 802 397 4 3 459 true 181 460 .none (.ref 461) (.ref 462) (.ref 463) 807 808
noncomputable def zqt:Obj:=f1 (su 37 5) "lookup" "Tables.lookup" .none "methodrows.tables" 695 464
noncomputable def zq6:Obj:=tu #[(.str "self" 813),(.str "name" 814),(.str "kind" 815),(.str "world" 816)]
noncomputable def zoF:Obj:=f0 (su 37 6) "all_fitting" "Tables.all_fitting"
noncomputable def zrb:Obj:=co "all_fitting" 810 "Tables.all_fitting" 811 812 400 4 3 466 true 181 467 .none (.ref 468) (.ref 469) (.ref 470) 817 818
noncomputable def zpd:Obj:=f1 (su 37 6) "all_fitting" "Tables.all_fitting" .none "methodrows.tables" 695 471
noncomputable def zqZ:Obj:=tu #[(.str "self" 823),(.str "method" 824),(.str "kind" 825),(.str "others" 826)]
noncomputable def zou:Obj:=f0 (su 37 7) "is_hidden" "Tables.is_hidden"
noncomputable def zqy:Obj:=co "is_hidden" 820 "Tables.is_hidden" 821 822 403 4 3 473 true 181 474 .none (.ref 475) (.ref 476) (.ref 477) 827 828
noncomputable def zoq:Obj:=f1 (su 37 7) "is_hidden" "Tables.is_hidden" .none "methodrows.tables" 695 478
noncomputable def zoz:Obj:=tu #[(.str "self" 833),(.str "name" 834),(.str "kind" 835),(.str "world" 836)]
noncomputable def zqI:Obj:=f0 (su 37 8) "may_be_called" "Tables.may_be_called"
noncomputable def zq0:Obj:=co "may_be_called" 830 "Tables.may_be_called" 831 832 406 4 3 480 true 181 481 .none (.ref 482) (.ref 483) (.ref 484) 837 838
noncomputable def zo5:Obj:=f1 (su 37 8) "may_be_called" "Tables.may_be_called" .none "methodrows.tables" 695 485
noncomputable def zoP:Obj:=tu #[(.str "self" 843),(.str "name" 844),(.str "kind" 845),(.str "world" 846)]
noncomputable def zqx:Obj:=f0 (su 37 9) "answer" "Tables.answer"
noncomputable def zqF:Obj:=co "answer" 840 "Tables.answer" 841 842 409 4 3 487 true 181 488 .none (.ref 489) (.ref 490) (.ref 491) 847 848
noncomputable def zoA:Obj:=f1 (su 37 9) "answer" "Tables.answer" .none "methodrows.tables" 695 492
noncomputable def zqg:Obj:=tu #[(.str "all" 850),(.str "kinds" 851),(.str "tables" 852),(.str "world" 853)]
noncomputable def zqO (P:Params):Obj:=⟨(.type "dict"),none,(.dict #[en P "__module__" 752 (.str "methodrows.tables" 695),en P "__firstlineno__" 756 (.int 371 755),en P "__init__" 764 (.ref 430),en P "table" 772 (.ref 437),en P "add" 780 (.ref 444),en P "live" 789 (.ref 451),en P "fitting" 799 (.ref 458),en P "lookup" 809 (.ref 465),en P "all_fitting" 819 (.ref 472),en P "is_hidden" 829 (.ref 479),en P "may_be_called" 839 (.ref 486),en P "answer" 849 (.ref 493),en P "__static_attributes__" 854 (.ref 494),en P "__dict__" 856 (.ref 497),en P "__weakref__" 858 (.ref 498),en P "__doc__" 859 .none] 4),#[]⟩
noncomputable def zpn:Obj:=⟨(.type "type"),none,(.cls ⟨"Tables",[(.type "object")],[(.ref 496),(.type "object")],495,"Tables",true,[],[],false,none,false⟩),#[none,none,some (.str "Tables" 745),some (.str "Tables" 753),some (.builtin "object.__new__"),some (.bool true)]⟩
noncomputable def zqN:Obj:=⟨(.type "getset_descriptor"),none,(.fields #[(.str "__dict__" 855),(.ref 496),(.builtin "function.__dict__"),(.builtin "function.__dict__#set")]),#[]⟩
noncomputable def zqm:Obj:=⟨(.type "getset_descriptor"),none,(.fields #[(.str "__weakref__" 857),(.ref 496),(.builtin "ExceptionGroup.__weakref__"),.none]),#[]⟩
noncomputable def zpY:Obj:=⟨(.type "super"),none,(.fields #[(.ref 496),(.ref 496),(.ref 496)]),#[]⟩
noncomputable def zoj:Obj:=⟨(.type "builtin_function_or_method"),none,(.fields #[(.builtin "object.__init_subclass__"),(.ref 496)]),#[]⟩
noncomputable def zo1:Obj:=tu #[(.type "Exception")]
noncomputable def zpk:Obj:=⟨(.type "builtin_function_or_method"),none,(.fields #[(.builtin "type.__prepare__"),(.type "type")]),#[]⟩
noncomputable def zof (P:Params):Obj:=⟨(.type "dict"),none,(.dict #[en P "__module__" 871 (.str "methodrows.errors" 862),en P "__qualname__" 873 (.str "RowsError" 872),en P "__firstlineno__" 875 (.int 412 874),en P "__init__" 884 (.ref 515),en P "__static_attributes__" 887 (.ref 516)] 5),#[]⟩
noncomputable def zqv:Obj:=⟨.none,none,(.fields #[(.int 414 0),(.int 4 0),(.ref 514)]),#[]⟩
noncomputable def zqu:Obj:=co "RowsError" 866 "RowsError" 867 868 412 0 0 504 false 181 505 .none .none .none .none 869 870
noncomputable def zqe:Obj:=⟨(.type "frame"),none,.plain,#[some (.ref 506),some (.ref 3),some (.ref 503),none,some (.str "methodrows.errors" 862),none,some (.ref 0)]⟩
noncomputable def zqq:Obj:=tu #[.none]
noncomputable def zo0:Obj:=tu #[(.str "self" 879),(.str "message" 880),(.str "spot" 881)]
noncomputable def zoH:Obj:=f0 (su 39 0) "__init__" "RowsError.__init__"
noncomputable def zp1:Obj:=co "__init__" 876 "RowsError.__init__" 877 878 414 3 3 509 true 181 510 .none (.ref 511) (.ref 512) (.ref 513) 882 883
noncomputable def zpQ:Obj:=f1 (su 39 0) "__init__" "RowsError.__init__" (.ref 508) "methodrows.errors" 862 514
noncomputable def zoe:Obj:=tu #[(.str "message" 885),(.str "spot" 886)]
noncomputable def zog (P:Params):Obj:=⟨(.type "dict"),none,(.dict #[en P "__module__" 871 (.str "methodrows.errors" 862),en P "__firstlineno__" 875 (.int 412 874),en P "__init__" 884 (.ref 515),en P "__static_attributes__" 887 (.ref 516),en P "__weakref__" 889 (.ref 519),en P "__doc__" 890 .none] 3),#[]⟩
noncomputable def zrc:Obj:=⟨(.type "type"),none,(.cls ⟨"RowsError",[(.type "Exception")],[(.ref 518),(.type "Exception"),(.type "BaseException"),(.type "object")],517,"RowsError",true,[],[(.ref 531)],false,none,false⟩),#[some (.ref 501),none,some (.str "RowsError" 864),some (.str "RowsError" 872),some (.builtin "Exception.__new__"),some (.bool true)]⟩
noncomputable def zo2:Obj:=⟨(.type "getset_descriptor"),none,(.fields #[(.str "__weakref__" 888),(.ref 518),(.builtin "ExceptionGroup.__weakref__"),.none]),#[]⟩
noncomputable def zo7:Obj:=⟨(.type "super"),none,(.fields #[(.ref 518),(.ref 518),(.ref 518)]),#[]⟩
noncomputable def zp7:Obj:=⟨(.type "builtin_function_or_method"),none,(.fields #[(.builtin "object.__init_subclass__"),(.ref 518)]),#[]⟩
noncomputable def zpt:Obj:=tu #[(.ref 518)]
noncomputable def zoK:Obj:=⟨(.type "builtin_function_or_method"),none,(.fields #[(.builtin "type.__prepare__"),(.type "type")]),#[]⟩
noncomputable def zpR (P:Params):Obj:=⟨(.type "dict"),none,(.dict #[en P "__module__" 902 (.str "methodrows.errors" 862),en P "__qualname__" 904 (.str "KindFault" 903),en P "__firstlineno__" 906 (.int 418 905),en P "__static_attributes__" 907 (.ref 529)] 4),#[]⟩
noncomputable def zoM:Obj:=co "KindFault" 897 "KindFault" 898 899 418 0 0 525 false 181 526 .none .none .none .none 900 901
noncomputable def zo4:Obj:=⟨(.type "frame"),none,.plain,#[some (.ref 527),some (.ref 3),some (.ref 524),none,some (.str "methodrows.errors" 862),none,some (.ref 0)]⟩
noncomputable def zoE (P:Params):Obj:=⟨(.type "dict"),none,(.dict #[en P "__module__" 902 (.str "methodrows.errors" 862),en P "__firstlineno__" 906 (.int 418 905),en P "__static_attributes__" 907 (.ref 529),en P "__doc__" 908 .none] 2),#[]⟩
noncomputable def zqU:Obj:=⟨(.type "type"),none,(.cls ⟨"KindFault",[(.ref 518)],[(.ref 531),(.ref 518),(.type "Exception"),(.type "BaseException"),(.type "object")],530,"KindFault",true,[],[],false,none,false⟩),#[some (.ref 522),none,some (.str "KindFault" 895),some (.str "KindFault" 903),some (.builtin "Exception.__new__"),some (.bool true)]⟩
noncomputable def zqp:Obj:=⟨(.type "super"),none,(.fields #[(.ref 531),(.ref 531),(.ref 531)]),#[]⟩
noncomputable def zqi:Obj:=⟨(.type "builtin_function_or_method"),none,(.fields #[(.builtin "object.__init_subclass__"),(.ref 531)]),#[]⟩
noncomputable def zoy:Obj:=tu #[(.str "Int8" 913),(.str "Int16" 914),(.str "Int32" 915),(.str "Int64" 916),(.str "BigInt" 917)]
noncomputable def zph:Obj:=tu #[(.str "UInt8" 919),(.str "UInt16" 920),(.str "UInt32" 921),(.str "UInt64" 922)]
noncomputable def zos:Obj:=tu #[(.str "DivideError" 924),(.str "InexactError" 925),(.str "TypeError" 926),(.str "StackOverflowError" 927)]
noncomputable def zqE:Obj:=tu #[(.str "ArgumentError" 929),(.str "OverflowError" 930),(.str "DimensionMismatch" 931),(.str "ErrorException" 932)]
noncomputable def zuh (P:Params):Obj:=⟨(.type "dict"),none,(.dict #[en P "__name__" 165 (.str "law_pq0725_02" 1228),en P "__doc__" 166 .none,en P "__package__" 167 .none,en P "__loader__" 168 (.builtin "__main__.__loader__#opaque"),en P "__spec__" 169 .none,en P "__annotations__" 170 (.ref 6),en P "__builtins__" 171 (.ref 4),en P "__file__" 173 (.str "/claim/cut.py" 172),en P "__cached__" 174 .none,en P "_wall" 193 (.ref 21),en P "ANY" 198 (.ref 23),en P "BOTTOM" 200 (.ref 24),en P "named" 208 (.ref 33),en P "tuple_of" 216 (.ref 41),en P "union_of" 226 (.ref 48),en P "parts_of_kind" 234 (.ref 55),en P "rebuilt_kind" 244 (.ref 62),en P "substituted" 250 (.ref 67),en P "free_vars" 256 (.ref 72),en P "binder_text" 264 (.ref 79),en P "kind_text" 270 (.ref 84),en P "MOST_CASES" 274 (.int 64 273),en P "Side" 341 (.ref 129),en P "Sides" 443 (.ref 200),en P "occurrences" 449 (.ref 209),en P "bound_occurrences" 459 (.ref 216),en P "is_diagonal" 469 (.ref 223),en P "left_cases" 475 (.ref 228),en P "tuple_cases" 481 (.ref 233),en P "is_empty" 487 (.ref 238),en P "tail_of" 494 (.ref 245),en P "TYPE" 499 (.ref 247),en P "FUNCTION" 502 (.ref 249),en P "Search" 637 (.ref 338),en P "narrowed" 648 (.ref 349),en P "widened" 658 (.ref 356),en P "has_within" 666 (.ref 363),en P "tuple_ways" 672 (.ref 368),en P "is_subtype" 685 (.ref 376),en P "same_kind" 694 (.ref 383),en P "FIRST_WORLD" 698 (.int 1 697),en P "Table" 744 (.ref 412),en P "Tables" 861 (.ref 496),en P "RowsError" 894 (.ref 518),en P "KindFault" 910 (.ref 531),en P "SIGNED" 918 (.ref 534),en P "UNSIGNED" 923 (.ref 535),en P "PLAIN_ERRORS" 928 (.ref 536),en P "TEXT_ERRORS" 933 (.ref 537),en P "CALL_ERRORS" 936 (.ref 538),en P "Decl" 995 (.ref 574),en P "Kinds" 1114 (.ref 661),en P "nominal" 1124 (.ref 673),en P "start_kinds" 1133 (.ref 680),en P "start_errors" 1142 (.ref 687),en P "start_rows" 1156 (.ref 694),en P "Method" 1227 (.ref 733),en P "_law_drum" 1239 (.ref 744),en P "_law_beat" 1248 (.ref 751),en P "_law_part" 1257 (.ref 758),en P "_law_signature" 1263 (.ref 763),en P "_law_seen" 1269 (.ref 768),en P "law" 1275 (.ref 773)] 63),#[]⟩
noncomputable def znP:Obj:=⟨.none,none,(.fields #[(.int 1 0),(.int 0 0),(.ref 20),(.int 7 0),(.int 0 0),(.ref 32),(.int 9 0),(.int 0 0),(.ref 40),(.int 11 0),(.int 0 0),(.ref 47),(.int 24 0),(.int 0 0),(.ref 54),(.int 35 0),(.int 0 0),(.ref 61),(.int 47 0),(.int 0 0),(.ref 66),(.int 57 0),(.int 0 0),(.ref 71),(.int 70 0),(.int 0 0),(.ref 78),(.int 73 0),(.int 0 0),(.ref 83),(.int 94 0),(.int 0 0),(.ref 90),(.int 114 0),(.int 0 0),(.ref 139),(.int 151 0),(.int 0 0),(.ref 208),(.int 166 0),(.int 0 0),(.ref 215),(.int 169 0),(.int 0 0),(.ref 222),(.int 172 0),(.int 0 0),(.ref 227),(.int 183 0),(.int 0 0),(.ref 232),(.int 191 0),(.int 0 0),(.ref 237),(.int 197 0),(.int 0 0),(.ref 244),(.int 202 0),(.int 0 0),(.ref 255),(.int 323 0),(.int 0 0),(.ref 348),(.int 329 0),(.int 0 0),(.ref 355),(.int 336 0),(.int 0 0),(.ref 362),(.int 338 0),(.int 0 0),(.ref 367),(.int 345 0),(.int 0 0),(.ref 375),(.int 353 0),(.int 0 0),(.ref 382),(.int 357 0),(.int 0 0),(.ref 389),(.int 371 0),(.int 0 0),(.ref 422),(.int 412 0),(.int 0 0),(.ref 506),(.int 418 0),(.int 0 0),(.ref 527),(.int 426 0),(.int 0 0),(.ref 544),(.int 444 0),(.int 0 0),(.ref 584),(.int 521 0),(.int 0 0),(.ref 672),(.int 523 0),(.int 0 0),(.ref 679),(.int 543 0),(.int 0 0),(.ref 686),(.int 553 0),(.int 0 0),(.ref 693),(.int 568 0),(.int 0 0),(.ref 700),(.int 592 0),(.int 0 0),(.ref 743),(.int 598 0),(.int 0 0),(.ref 750),(.int 604 0),(.int 0 0),(.ref 757),(.int 609 0),(.int 0 0),(.ref 762),(.int 615 0),(.int 0 0),(.ref 767),(.int 617 0),(.int 0 0),(.ref 772)]),#[]⟩
noncomputable def zs8:Obj:=tu #[(.str "MethodError" 934),(.str "AmbiguousError" 935)]
noncomputable def ztj:Obj:=⟨(.type "builtin_function_or_method"),none,(.fields #[(.builtin "type.__prepare__"),(.type "type")]),#[]⟩
noncomputable def zug (P:Params):Obj:=⟨(.type "dict"),none,(.dict #[en P "__module__" 944 (.str "methodrows.kinds" 911),en P "__qualname__" 946 (.str "Decl" 945),en P "__firstlineno__" 948 (.int 426 947),en P "__init__" 961 (.ref 554),en P "table_for" 967 (.ref 559),en P "whole" 973 (.ref 564),en P "field_kinds" 981 (.ref 571),en P "__static_attributes__" 988 (.ref 572)] 8),#[]⟩
noncomputable def ztJ:Obj:=⟨.none,none,(.fields #[(.int 428 0),(.int 4 0),(.ref 553),(.int 436 0),(.int 4 0),(.ref 558),(.int 439 0),(.int 4 0),(.ref 563),(.int 442 0),(.int 4 0),(.ref 570)]),#[]⟩
noncomputable def zrX:Obj:=co "Decl" 939 "Decl" 940 941 426 0 0 542 false 181 543 .none .none .none .none 942 943
noncomputable def zsq:Obj:=⟨(.type "frame"),none,.plain,#[some (.ref 544),some (.ref 3),some (.ref 541),none,some (.str "methodrows.kinds" 911),none,some (.ref 0)]⟩
noncomputable def zjo:Obj:=tu #[(.bool false),(.ref 546)]
noncomputable def zsJ:Obj:=tu #[(.str "self" 952),(.str "name" 953),(.str "params" 954),(.str "above" 955),(.str "is_abstract" 956),(.str "is_mutable" 957),(.str "fields" 958)]
noncomputable def zrP:Obj:=f0 (su 47 0) "__init__" "Decl.__init__"
noncomputable def zqB:Obj:=co "__init__" 949 "Decl.__init__" 950 951 428 7 3 548 true 181 549 .none (.ref 550) (.ref 551) (.ref 552) 959 960
noncomputable def zmF:Obj:=f1 (su 47 0) "__init__" "Decl.__init__" (.ref 547) "methodrows.kinds" 911 553
noncomputable def zr3:Obj:=f0 (su 47 1) "table_for" "Decl.table_for"
noncomputable def zqX:Obj:=co "table_for" 962 "Decl.table_for" 963 964 436 2 3 555 true 181 556 .none .none .none (.ref 557) 965 966
noncomputable def zmJ:Obj:=f1 (su 47 1) "table_for" "Decl.table_for" .none "methodrows.kinds" 911 558
noncomputable def zrO:Obj:=f0 (su 47 2) "whole" "Decl.whole"
noncomputable def zrR:Obj:=co "whole" 968 "Decl.whole" 969 970 439 1 3 560 true 181 561 .none .none .none (.ref 562) 971 972
noncomputable def zr1:Obj:=f1 (su 47 2) "whole" "Decl.whole" .none "methodrows.kinds" 911 563
noncomputable def zsB:Obj:=tu #[(.str "self" 977),(.str "params" 978)]
noncomputable def ztP:Obj:=f0 (su 47 3) "field_kinds" "Decl.field_kinds"
noncomputable def ztz:Obj:=co "field_kinds" 974 "Decl.field_kinds" 975 976 442 2 3 565 true 181 566 .none (.ref 567) (.ref 568) (.ref 569) 979 980
noncomputable def zs3:Obj:=f1 (su 47 3) "field_kinds" "Decl.field_kinds" .none "methodrows.kinds" 911 570
noncomputable def zup:Obj:=tu #[(.str "fields" 982),(.str "is_abstract" 983),(.str "is_mutable" 984),(.str "name" 985),(.str "params" 986),(.str "super" 987)]
noncomputable def zsY (P:Params):Obj:=⟨(.type "dict"),none,(.dict #[en P "__module__" 944 (.str "methodrows.kinds" 911),en P "__firstlineno__" 948 (.int 426 947),en P "__init__" 961 (.ref 554),en P "table_for" 967 (.ref 559),en P "whole" 973 (.ref 564),en P "field_kinds" 981 (.ref 571),en P "__static_attributes__" 988 (.ref 572),en P "__dict__" 990 (.ref 575),en P "__weakref__" 992 (.ref 576),en P "__doc__" 993 .none] 4),#[]⟩
noncomputable def zuj:Obj:=⟨(.type "type"),none,(.cls ⟨"Decl",[(.type "object")],[(.ref 574),(.type "object")],573,"Decl",true,[],[],false,none,false⟩),#[none,none,some (.str "Decl" 937),some (.str "Decl" 945),some (.builtin "object.__new__"),some (.bool true)]⟩
noncomputable def zuk:Obj:=⟨(.type "getset_descriptor"),none,(.fields #[(.str "__dict__" 989),(.ref 574),(.builtin "function.__dict__"),(.builtin "function.__dict__#set")]),#[]⟩
noncomputable def zsb:Obj:=⟨(.type "getset_descriptor"),none,(.fields #[(.str "__weakref__" 991),(.ref 574),(.builtin "ExceptionGroup.__weakref__"),.none]),#[]⟩
noncomputable def zsc:Obj:=⟨(.type "super"),none,(.fields #[(.ref 574),(.ref 574),(.ref 574)]),#[]⟩
noncomputable def zur:Obj:=⟨(.type "builtin_function_or_method"),none,(.fields #[(.builtin "object.__init_subclass__"),(.ref 574)]),#[]⟩
noncomputable def zrN:Obj:=⟨(.type "builtin_function_or_method"),none,(.fields #[(.builtin "type.__prepare__"),(.type "type")]),#[]⟩
noncomputable def zrE (P:Params):Obj:=⟨(.type "dict"),none,(.dict #[en P "__module__" 1003 (.str "methodrows.kinds" 911),en P "__qualname__" 1005 (.str "Kinds" 1004),en P "__firstlineno__" 1007 (.int 444 1006),en P "__init__" 1014 (.ref 592),en P "declare" 1020 (.ref 597),en P "is_declared" 1028 (.ref 604),en P "decl" 1036 (.ref 611),en P "super_of" 1045 (.ref 618),en P "supers" 1054 (.ref 625),en P "under" 1067 (.ref 632),en P "applied" 1076 (.ref 639),en P "is_within" 1086 (.ref 646),en P "whole" 1099 (.ref 653),en P "is_concrete" 1105 (.ref 658),en P "__static_attributes__" 1107 (.ref 659)] 15),#[]⟩
noncomputable def zrZ:Obj:=⟨.none,none,(.fields #[(.int 446 0),(.int 4 0),(.ref 591),(.int 449 0),(.int 4 0),(.ref 596),(.int 465 0),(.int 4 0),(.ref 603),(.int 468 0),(.int 4 0),(.ref 610),(.int 473 0),(.int 4 0),(.ref 617),(.int 483 0),(.int 4 0),(.ref 624),(.int 489 0),(.int 4 0),(.ref 631),(.int 500 0),(.int 4 0),(.ref 638),(.int 503 0),(.int 4 0),(.ref 645),(.int 508 0),(.int 4 0),(.ref 652),(.int 515 0),(.int 4 0),(.ref 657)]),#[]⟩
noncomputable def zt8:Obj:=co "Kinds" 998 "Kinds" 999 1000 444 0 0 582 false 181 583 .none .none .none .none 1001 1002
noncomputable def zsr:Obj:=⟨(.type "frame"),none,.plain,#[some (.ref 584),some (.ref 3),some (.ref 581),none,some (.str "methodrows.kinds" 911),none,some (.ref 0)]⟩
noncomputable def zrv:Obj:=tu #[(.str "self" 1011)]
noncomputable def zrr:Obj:=f0 (su 48 0) "__init__" "Kinds.__init__"
noncomputable def zoS:Obj:=co "__init__" 1008 "Kinds.__init__" 1009 1010 446 1 3 586 true 181 587 .none (.ref 588) (.ref 589) (.ref 590) 1012 1013
noncomputable def zmY:Obj:=f1 (su 48 0) "__init__" "Kinds.__init__" .none "methodrows.kinds" 911 591
noncomputable def zr9:Obj:=f0 (su 48 1) "declare" "Kinds.declare"
noncomputable def zop:Obj:=co "declare" 1015 "Kinds.declare" 1016 1017 449 2 3 593 true 181 594 .none .none .none (.ref 595) 1018 1019
noncomputable def zlO:Obj:=f1 (su 48 1) "declare" "Kinds.declare" .none "methodrows.kinds" 911 596
noncomputable def ztu:Obj:=tu #[(.str "self" 1024),(.str "name" 1025)]
noncomputable def zr5:Obj:=f0 (su 48 2) "is_declared" "Kinds.is_declared"
noncomputable def zrx:Obj:=co "is_declared" 1021 "Kinds.is_declared" 1022 1023 465 2 3 598 true 181 599 .none (.ref 600) (.ref 601) (.ref 602) 1026 1027
noncomputable def ztn:Obj:=f1 (su 48 2) "is_declared" "Kinds.is_declared" .none "methodrows.kinds" 911 603
noncomputable def ztW:Obj:=tu #[(.str "self" 1032),(.str "name" 1033)]
noncomputable def ztk:Obj:=f0 (su 48 3) "decl" "Kinds.decl"
noncomputable def zpH:Obj:=co "decl" 1029 "Kinds.decl" 1030 1031 468 2 3 605 true 181 606 .none (.ref 607) (.ref 608) (.ref 609) 1034 1035
noncomputable def zmD:Obj:=f1 (su 48 3) "decl" "Kinds.decl" .none "methodrows.kinds" 911 610
noncomputable def zsl:Obj:=tu #[(.str "self" 1040),(.str "kind" 1041),(.str "decl" 1042)]
noncomputable def zsj:Obj:=f0 (su 48 4) "super_of" "Kinds.super_of"
noncomputable def zpU:Obj:=co "super_of" 1037 "Kinds.super_of" 1038 1039 473 2 3 612 true 181 613 .none (.ref 614) (.ref 615) (.ref 616) 1043 1044
noncomputable def zmA:Obj:=f1 (su 48 4) "super_of" "Kinds.super_of" .none "methodrows.kinds" 911 617
noncomputable def zui:Obj:=tu #[(.str "self" 1049),(.str "kind" 1050),(.str "found" 1051)]
noncomputable def zsD:Obj:=f0 (su 48 5) "supers" "Kinds.supers"
noncomputable def zoW:Obj:=co "supers" 1046 "Kinds.supers" 1047 1048 483 2 3 619 true 181 620 .none (.ref 621) (.ref 622) (.ref 623) 1052 1053
noncomputable def zmh:Obj:=f1 (su 48 5) "supers" "Kinds.supers" .none "methodrows.kinds" 911 624
noncomputable def zta:Obj:=tu #[(.str "self" 1058),(.str "name" 1059),(.str "found" 1060),(.str "left" 1061),(.str "here" 1062),(.str "other" 1063),(.str "above" 1064)]
noncomputable def zuv:Obj:=f0 (su 48 6) "under" "Kinds.under"
noncomputable def zul:Obj:=co "under" 1055 "Kinds.under" 1056 1057 489 2 3 626 true 181 627 .none (.ref 628) (.ref 629) (.ref 630) 1065 1066
noncomputable def ztC:Obj:=f1 (su 48 6) "under" "Kinds.under" .none "methodrows.kinds" 911 631
noncomputable def ztT:Obj:=tu #[(.str "self" 1071),(.str "name" 1072),(.str "params" 1073)]
noncomputable def zsh:Obj:=f0 (su 48 7) "applied" "Kinds.applied"
noncomputable def zt5:Obj:=co "applied" 1068 "Kinds.applied" 1069 1070 500 3 3 633 true 181 634 .none (.ref 635) (.ref 636) (.ref 637) 1074 1075
noncomputable def zsX:Obj:=f1 (su 48 7) "applied" "Kinds.applied" .none "methodrows.kinds" 911 638
noncomputable def zse:Obj:=tu #[(.str "self" 1080),(.str "param" 1081),(.str "lower" 1082),(.str "upper" 1083)]
noncomputable def zs1:Obj:=f0 (su 48 8) "is_within" "Kinds.is_within"
noncomputable def zs4:Obj:=co "is_within" 1077 "Kinds.is_within" 1078 1079 503 4 3 640 true 181 641 .none (.ref 642) (.ref 643) (.ref 644) 1084 1085
noncomputable def zun:Obj:=f1 (su 48 8) "is_within" "Kinds.is_within" .none "methodrows.kinds" 911 645
noncomputable def zro:Obj:=tu #[(.str "self" 1090),(.str "name" 1091),(.str "decl" 1092),(.str "kind" 1093),(.str "variable" 1094),(.str "lower" 1095),(.str "upper" 1096)]
noncomputable def zub:Obj:=f0 (su 48 9) "whole" "Kinds.whole"
noncomputable def ztH:Obj:=co "whole" 1087 "Kinds.whole" 1088 1089 508 2 3 647 true 181 648 .none (.ref 649) (.ref 650) (.ref 651) 1097 1098
noncomputable def zrs:Obj:=f1 (su 48 9) "whole" "Kinds.whole" .none "methodrows.kinds" 911 652
noncomputable def zr6:Obj:=f0 (su 48 10) "is_concrete" "Kinds.is_concrete"
noncomputable def zs7:Obj:=co "is_concrete" 1100 "Kinds.is_concrete" 1101 1102 515 2 3 654 true 181 655 .none .none .none (.ref 656) 1103 1104
noncomputable def zr2:Obj:=f1 (su 48 10) "is_concrete" "Kinds.is_concrete" .none "methodrows.kinds" 911 657
noncomputable def zum:Obj:=tu #[(.str "decls" 1106)]
noncomputable def zsG (P:Params):Obj:=⟨(.type "dict"),none,(.dict #[en P "__module__" 1003 (.str "methodrows.kinds" 911),en P "__firstlineno__" 1007 (.int 444 1006),en P "__init__" 1014 (.ref 592),en P "declare" 1020 (.ref 597),en P "is_declared" 1028 (.ref 604),en P "decl" 1036 (.ref 611),en P "super_of" 1045 (.ref 618),en P "supers" 1054 (.ref 625),en P "under" 1067 (.ref 632),en P "applied" 1076 (.ref 639),en P "is_within" 1086 (.ref 646),en P "whole" 1099 (.ref 653),en P "is_concrete" 1105 (.ref 658),en P "__static_attributes__" 1107 (.ref 659),en P "__dict__" 1109 (.ref 662),en P "__weakref__" 1111 (.ref 663),en P "__doc__" 1112 .none] 4),#[]⟩
noncomputable def ztv:Obj:=⟨(.type "type"),none,(.cls ⟨"Kinds",[(.type "object")],[(.ref 661),(.type "object")],660,"Kinds",true,[],[],false,none,false⟩),#[none,none,some (.str "Kinds" 996),some (.str "Kinds" 1004),some (.builtin "object.__new__"),some (.bool true)]⟩
noncomputable def zts:Obj:=⟨(.type "getset_descriptor"),none,(.fields #[(.str "__dict__" 1108),(.ref 661),(.builtin "function.__dict__"),(.builtin "function.__dict__#set")]),#[]⟩
noncomputable def ztr:Obj:=⟨(.type "getset_descriptor"),none,(.fields #[(.str "__weakref__" 1110),(.ref 661),(.builtin "ExceptionGroup.__weakref__"),.none]),#[]⟩
noncomputable def zth:Obj:=⟨(.type "super"),none,(.fields #[(.ref 661),(.ref 661),(.ref 661)]),#[]⟩
noncomputable def zsN:Obj:=⟨(.type "builtin_function_or_method"),none,(.fields #[(.builtin "object.__init_subclass__"),(.ref 661)]),#[]⟩
noncomputable def zmf:Obj:=tu #[(.bool false)]
noncomputable def ztE:Obj:=tu #[(.str "kinds" 1118),(.str "name" 1119),(.str "above" 1120),(.str "is_abstract" 1121)]
noncomputable def zrk:Obj:=f0 (st 49) "nominal" "nominal"
noncomputable def zoo:Obj:=co "nominal" 1115 "nominal" 1116 1117 521 4 3 667 true 181 668 .none (.ref 669) (.ref 670) (.ref 671) 1122 1123
noncomputable def znd:Obj:=f1 (st 49) "nominal" "nominal" (.ref 666) "methodrows.kinds" 911 672
noncomputable def zrT:Obj:=tu #[(.str "kinds" 1128),(.str "name" 1129),(.str "above" 1130)]
noncomputable def zt6:Obj:=f0 (st 50) "start_kinds" "start_kinds"
noncomputable def zps:Obj:=co "start_kinds" 1125 "start_kinds" 1126 1127 523 0 3 674 true 181 675 .none (.ref 676) (.ref 677) (.ref 678) 1131 1132
noncomputable def zms:Obj:=f1 (st 50) "start_kinds" "start_kinds" .none "methodrows.kinds" 911 679
noncomputable def zru:Obj:=tu #[(.str "kinds" 1137),(.str "above" 1138),(.str "name" 1139)]
noncomputable def ztw:Obj:=f0 (st 51) "start_errors" "start_errors"
noncomputable def zox:Obj:=co "start_errors" 1134 "start_errors" 1135 1136 543 1 3 681 true 181 682 .none (.ref 683) (.ref 684) (.ref 685) 1140 1141
noncomputable def zlH:Obj:=f1 (st 51) "start_errors" "start_errors" .none "methodrows.kinds" 911 686
noncomputable def ztB:Obj:=tu #[(.str "kinds" 1146),(.str "anything" 1147),(.str "item" 1148),(.str "rank" 1149),(.str "name" 1150),(.str "one" 1151),(.str "above" 1152),(.str "whole" 1153)]
noncomputable def zry:Obj:=f0 (st 52) "start_rows" "start_rows"
noncomputable def zpG:Obj:=co "start_rows" 1143 "start_rows" 1144 1145 553 1 3 688 true 181 689 .none (.ref 690) (.ref 691) (.ref 692) 1154 1155
noncomputable def zmi:Obj:=f1 (st 52) "start_rows" "start_rows" .none "methodrows.kinds" 911 693
noncomputable def zrp:Obj:=⟨(.type "builtin_function_or_method"),none,(.fields #[(.builtin "type.__prepare__"),(.type "type")]),#[]⟩
noncomputable def zt7 (P:Params):Obj:=⟨(.type "dict"),none,(.dict #[en P "__module__" 1166 (.str "methodrows.methods" 1157),en P "__qualname__" 1168 (.str "Method" 1167),en P "__firstlineno__" 1170 (.int 568 1169),en P "__init__" 1187 (.ref 709),en P "is_live" 1195 (.ref 716),en P "end" 1203 (.ref 723),en P "told" 1210 (.ref 730),en P "__static_attributes__" 1220 (.ref 731)] 8),#[]⟩
noncomputable def zsC:Obj:=⟨.none,none,(.fields #[(.int 570 0),(.int 4 0),(.ref 708),(.int 581 0),(.int 4 0),(.ref 715),(.int 586 0),(.int 4 0),(.ref 722),(.int 589 0),(.int 4 0),(.ref 729)]),#[]⟩
noncomputable def zrm:Obj:=co "Method" 1161 "Method" 1162 1163 568 0 0 698 false 181 699 .none .none .none .none 1164 1165
noncomputable def zt1:Obj:=⟨(.type "frame"),none,.plain,#[some (.ref 700),some (.ref 3),some (.ref 697),none,some (.str "methodrows.methods" 1157),none,some (.ref 0)]⟩
noncomputable def ziQ:Obj:=tu #[(.int 0 1171),.none]
noncomputable def zsV:Obj:=tu #[(.str "self" 1175),(.str "number" 1176),(.str "table" 1177),(.str "sig" 1178),(.str "names" 1179),(.str "has_rest" 1180),(.str "code" 1181),(.str "tree" 1182),(.str "world_from" 1183),(.str "world_to" 1184)]
noncomputable def zuo:Obj:=f0 (su 54 0) "__init__" "Method.__init__"
noncomputable def zpi:Obj:=co "__init__" 1172 "Method.__init__" 1173 1174 570 10 3 703 true 181 704 .none (.ref 705) (.ref 706) (.ref 707) 1185 1186
noncomputable def zne:Obj:=f1 (su 54 0) "__init__" "Method.__init__" (.ref 702) "methodrows.methods" 1157 708
noncomputable def ztA:Obj:=tu #[(.str "self" 1191),(.str "world" 1192)]
noncomputable def zrU:Obj:=f0 (su 54 1) "is_live" "Method.is_live"
noncomputable def zpB:Obj:=co "is_live" 1188 "Method.is_live" 1189 1190 581 2 3 710 true 181 711 .none (.ref 712) (.ref 713) (.ref 714) 1193 1194
noncomputable def zlq:Obj:=f1 (su 54 1) "is_live" "Method.is_live" .none "methodrows.methods" 1157 715
noncomputable def zrM:Obj:=tu #[(.str "self" 1199),(.str "world" 1200)]
noncomputable def zrY:Obj:=f0 (su 54 2) "end" "Method.end"
noncomputable def zow:Obj:=co "end" 1196 "Method.end" 1197 1198 586 2 3 717 true 181 718 .none (.ref 719) (.ref 720) (.ref 721) 1201 1202
noncomputable def znj:Obj:=f1 (su 54 2) "end" "Method.end" .none "methodrows.methods" 1157 722
noncomputable def ztV:Obj:=tu #[(.str "self" 1207)]
noncomputable def zrB:Obj:=f0 (su 54 3) "told" "Method.told"
noncomputable def zqC:Obj:=co "told" 1204 "Method.told" 1205 1206 589 1 3 724 true 181 725 .none (.ref 726) (.ref 727) (.ref 728) 1208 1209
noncomputable def zlY:Obj:=f1 (su 54 3) "told" "Method.told" .none "methodrows.methods" 1157 729
noncomputable def zue:Obj:=tu #[(.str "code" 1211),(.str "has_rest" 1212),(.str "names" 1213),(.str "number" 1214),(.str "sig" 1215),(.str "table" 1216),(.str "tree" 1217),(.str "world_from" 1218),(.str "world_to" 1219)]
noncomputable def zut (P:Params):Obj:=⟨(.type "dict"),none,(.dict #[en P "__module__" 1166 (.str "methodrows.methods" 1157),en P "__firstlineno__" 1170 (.int 568 1169),en P "__init__" 1187 (.ref 709),en P "is_live" 1195 (.ref 716),en P "end" 1203 (.ref 723),en P "told" 1210 (.ref 730),en P "__static_attributes__" 1220 (.ref 731),en P "__dict__" 1222 (.ref 734),en P "__weakref__" 1224 (.ref 735),en P "__doc__" 1225 .none] 4),#[]⟩
noncomputable def ztQ:Obj:=⟨(.type "type"),none,(.cls ⟨"Method",[(.type "object")],[(.ref 733),(.type "object")],732,"Method",true,[],[],false,none,false⟩),#[none,none,some (.str "Method" 1159),some (.str "Method" 1167),some (.builtin "object.__new__"),some (.bool true)]⟩
noncomputable def zrG:Obj:=⟨(.type "getset_descriptor"),none,(.fields #[(.str "__dict__" 1221),(.ref 733),(.builtin "function.__dict__"),(.builtin "function.__dict__#set")]),#[]⟩
noncomputable def ztl:Obj:=⟨(.type "getset_descriptor"),none,(.fields #[(.str "__weakref__" 1223),(.ref 733),(.builtin "ExceptionGroup.__weakref__"),.none]),#[]⟩
noncomputable def ztc:Obj:=⟨(.type "super"),none,(.fields #[(.ref 733),(.ref 733),(.ref 733)]),#[]⟩
noncomputable def ztN:Obj:=⟨(.type "builtin_function_or_method"),none,(.fields #[(.builtin "object.__init_subclass__"),(.ref 733)]),#[]⟩
noncomputable def zuf:Obj:=tu #[(.str "script" 1233),(.str "spun" 1234),(.str "cell" 1235),(.str "first" 1236)]
noncomputable def ztX:Obj:=f0 (st 56) "_law_drum" "_law_drum"
noncomputable def zra:Obj:=co "_law_drum" 1230 "_law_drum" 1231 1232 592 1 3 738 true 181 739 .none (.ref 740) (.ref 741) (.ref 742) 1237 1238
noncomputable def zlW:Obj:=f1 (st 56) "_law_drum" "_law_drum" .none "law_pq0725_02" 1228 743
noncomputable def zsk:Obj:=tu #[(.str "drum" 1243),(.str "many" 1244),(.str "found" 1245)]
noncomputable def zss:Obj:=f0 (st 57) "_law_beat" "_law_beat"
noncomputable def zpL:Obj:=co "_law_beat" 1240 "_law_beat" 1241 1242 598 2 3 745 true 181 746 .none (.ref 747) (.ref 748) (.ref 749) 1246 1247
noncomputable def zll:Obj:=f1 (st 57) "_law_beat" "_law_beat" .none "law_pq0725_02" 1228 750
noncomputable def zsz:Obj:=tu #[(.str "word" 1252),(.str "is_turned" 1253),(.str "some" 1254)]
noncomputable def zsE:Obj:=f0 (st 58) "_law_part" "_law_part"
noncomputable def zqb:Obj:=co "_law_part" 1249 "_law_part" 1250 1251 604 2 3 752 true 181 753 .none (.ref 754) (.ref 755) (.ref 756) 1255 1256
noncomputable def zlZ:Obj:=f1 (st 58) "_law_part" "_law_part" .none "law_pq0725_02" 1228 757
noncomputable def zrj:Obj:=f0 (st 59) "_law_signature" "_law_signature"
noncomputable def zpX:Obj:=co "_law_signature" 1258 "_law_signature" 1259 1260 609 3 3 759 true 181 760 .none .none .none (.ref 761) 1261 1262
noncomputable def zlz:Obj:=f1 (st 59) "_law_signature" "_law_signature" .none "law_pq0725_02" 1228 762
noncomputable def ztb:Obj:=f0 (st 60) "_law_seen" "_law_seen"
noncomputable def zoD:Obj:=co "_law_seen" 1264 "_law_seen" 1265 1266 615 3 3 764 true 181 765 .none .none .none (.ref 766) 1267 1268
noncomputable def zml:Obj:=f1 (st 60) "_law_seen" "_law_seen" .none "law_pq0725_02" 1228 767
noncomputable def ztq:Obj:=f0 (st 61) "law" "law"
noncomputable def zq9:Obj:=co "law" 1270 "law" 1271 1272 617 1 3 769 true 181 770 .none .none .none (.ref 771) 1273 1274
noncomputable def zme:Obj:=f1 (st 61) "law" "law" .none "law_pq0725_02" 1228 772
noncomputable def zrL (P:Params):BT:=(nd (o0 P) (nd (o1 P) (nd (o3 P) (lf te) (lf te)) (nd o5 (lf o9) (lf o13))) (nd o2 (nd o4 (lf nf) (lf nf)) (nd o6 (lf o10) (lf o14))))
noncomputable def zrJ:Nat:=15
noncomputable def zr4:Nat:=187
noncomputable def ziW:Pos:=⟨0,0,0,0⟩
noncomputable def zr7 (P:Params):BT:=(nd (o0 P) (nd (o1 P) (nd (zuL P) (nd te (nd te (nd o31 (nd te (lf zkp) (lf te)) (nd te (lf te) nl)) (nd o47 (nd o79 (lf nf) nl) (nd zk7 (lf ziq) nl))) (nd o23 (nd o39 (nd o71 (lf ziu) (lf (zkl P))) (nd zlc (lf zkI) nl)) (nd o55 (nd (o87 P) (lf zkG) nl) (nd zjC (lf zgw) nl)))) (nd te (nd o19 (nd te (nd o67 (lf zju) (lf zkO)) (nd te (lf te) nl)) (nd o51 (nd o83 (lf zhv) nl) (nd ziP (lf zi4) nl))) (nd te (nd nf (nd o75 (lf zis) (lf ziF)) (nd nf (lf nf) nl)) (nd te (nd o91 (lf zf1) nl) (nd te (lf te) nl))))) (nd o5 (nd o9 (nd o17 (nd o33 (nd o65 (lf zkj) (lf ziz)) (nd o97 (lf zhz) nl)) (nd te (nd nf (lf te) nl) (nd te (lf te) nl))) (nd te (nd o41 (nd te (lf te) (lf zji)) (nd zgl (lf zfU) nl)) (nd nf (nd o89 (lf ziA) nl) (nd nf (lf nf) nl)))) (nd o13 (nd o21 (nd o37 (nd nf (lf zld) (lf zga)) (nd zjj (lf zjw) nl)) (nd o53 (nd te (lf te) nl) (nd zkr (lf ziK) nl))) (nd o29 (nd te (nd o77 (lf zfc) nl) (nd te (lf te) nl)) (nd o61 (nd nf (lf nf) nl) (nd zhD (lf zkA) nl)))))) (nd o2 (nd o4 (nd nf (nd nf (nd o32 (nd nf (lf (zjg P)) (lf nf)) (nd o96 (lf zi5) nl)) (nd o48 (nd te (lf zk9) nl) (nd zjl (lf zfM) nl))) (nd o24 (nd o40 (nd o72 (lf (zkR P)) (lf zk4)) (nd zim (lf zhR) nl)) (nd te (nd te (lf te) nl) (nd te (lf te) nl)))) (nd ztm (nd o20 (nd nf (nd te (lf zkf) (lf zia)) (nd nf (lf nf) nl)) (nd te (nd o84 (lf zgA) nl) (nd te (lf te) nl))) (nd nf (nd o44 (nd te (lf zkF) (lf zjK)) (nd zjL (lf zku) nl)) (nd o60 (nd te (lf te) nl) (nd zlb (lf zi8) nl))))) (nd o6 (nd o10 (nd te (nd o34 (nd o66 (lf ziG) (lf te)) (nd o98 (lf zf9) nl)) (nd nf (nd o82 (lf zjr) nl) (nd nf (lf nf) nl))) (nd o26 (nd te (nd nf (lf zi7) (lf ziB)) (nd te (lf te) nl)) (nd o58 (nd o90 (lf zhY) nl) (nd zjh (lf zjU) nl)))) (nd o14 (nd te (nd te (nd o70 (lf te) (lf zkq)) (nd te (lf te) nl)) (nd o54 (nd o86 (lf nf) nl) (nd ziV (lf zh9) nl))) (nd te (nd o46 (nd o78 (lf te) nl) (nd zjI (lf zjJ) nl)) (nd o62 (nd o94 (lf zka) nl) (nd zf3 (lf zkS) nl)))))))
noncomputable def ztx:Nat:=205
noncomputable def zrH:Nat:=444
noncomputable def zsx:Pos:=⟨114,0,150,20⟩
noncomputable def zsK (P:Params):BT:=(nd (o0 P) (nd (o1 P) (nd (zuB P) (nd te (nd te (nd o31 (nd te (nd zkp (lf zmH) nl) (nd te (lf te) nl)) (nd te (nd te (lf zmu) nl) (nd zin (lf nf) nl))) (nd o47 (nd o79 (nd nf (lf te) nl) (nd zlx (lf zl8) nl)) (nd zk7 (nd ziq (lf nf) nl) (lf te)))) (nd o23 (nd o39 (nd o71 (nd ziu (lf zhA) nl) (nd (zkl P) (lf te) nl)) (nd zlc (nd zkI (lf zlt) nl) (lf zl6))) (nd o55 (nd (o87 P) (nd zkG (lf nf) nl) (nd zns (lf te) nl)) (nd zjC (nd zgw (lf zhU) nl) (lf zlU))))) (nd te (nd o19 (nd te (nd o67 (nd zju (lf zls) nl) (nd zkO (lf zhE) nl)) (nd te (nd te (lf zmZ) nl) (nd zjc (lf zkN) nl))) (nd o51 (nd o83 (nd zhv (lf zlS) nl) (nd nf (lf zmK) nl)) (nd ziP (nd zi4 (lf te) nl) (lf zm4)))) (nd te (nd nf (nd o75 (nd zis (lf te) nl) (nd ziF (lf te) nl)) (nd nf (nd nf (lf zlN) nl) (lf nf))) (nd te (nd o91 (nd zf1 (lf zk2) nl) (nd znp (lf zlE) nl)) (nd te (nd te (lf te) nl) (lf zmP)))))) (nd o5 (nd o9 (nd o17 (nd o33 (nd o65 (nd zkj (lf te) nl) (nd ziz (lf znh) nl)) (nd o97 (nd zhz (lf zlD) nl) (nd nf (lf te) nl))) (nd te (nd nf (nd te (lf znw) nl) (nd zh0 (lf (zlA P)) nl)) (nd te (nd te (lf zjB) nl) (lf zl3)))) (nd te (nd o41 (nd te (nd te (lf nf) nl) (nd zji (lf zjq) nl)) (nd zgl (nd zfU (lf te) nl) (lf zh7))) (nd nf (nd o89 (nd ziA (lf te) nl) (nd te (lf zlp) nl)) (nd nf (nd nf (lf nf) nl) (lf zmx))))) (nd o13 (nd o21 (nd o37 (nd nf (nd zld (lf zmq) nl) (nd zga (lf nf) nl)) (nd zjj (nd zjw (lf nf) nl) (lf te))) (nd o53 (nd te (nd te (lf zig) nl) (nd te (lf znc) nl)) (nd zkr (nd ziK (lf zlC) nl) (lf zh1)))) (nd o29 (nd te (nd o77 (nd zfc (lf zkK) nl) (nd te (lf zlT) nl)) (nd te (nd te (lf zhC) nl) (lf zjv))) (nd o61 (nd nf (nd nf (lf te) nl) (nd znr (lf zl2) nl)) (nd zhD (nd zkA (lf zkx) nl) (lf te))))))) (nd o2 (nd o4 (nd nf (nd nf (nd o32 (nd nf (nd (zjg P) (lf zmI) nl) (nd nf (lf nf) nl)) (nd o96 (nd zi5 (lf te) nl) (nd te (lf zlB) nl))) (nd o48 (nd te (nd zk9 (lf nf) nl) (nd ziD (lf zm1) nl)) (nd zjl (nd zfM (lf zlm) nl) (lf nf)))) (nd o24 (nd o40 (nd o72 (nd (zkR P) (lf te) nl) (nd zk4 (lf zmt) nl)) (nd zim (nd zhR (lf zmR) nl) (lf zj1))) (nd te (nd te (nd te (lf zlV) nl) (nd zlh (lf nf) nl)) (nd te (nd te (lf te) nl) (lf te))))) (nd zri (nd o20 (nd nf (nd te (nd zkf (lf te) nl) (nd zia (lf te) nl)) (nd nf (nd nf (lf te) nl) (nd zhx (lf zhy) nl))) (nd te (nd o84 (nd zgA (lf zkP) nl) (nd zmG (lf zlQ) nl)) (nd te (nd te (lf nf) nl) (lf zjy)))) (nd nf (nd o44 (nd te (nd zkF (lf zmj) nl) (nd zjK (lf nf) nl)) (nd zjL (nd zku (lf zkW) nl) (lf zmE))) (nd o60 (nd te (nd te (lf zhG) nl) (nd te (lf zmC) nl)) (nd zlb (nd zi8 (lf zma) nl) (lf (zl7 P))))))) (nd o6 (nd o10 (nd te (nd o34 (nd o66 (nd ziG (lf nf) nl) (nd te (lf zkM) nl)) (nd o98 (nd zf9 (lf zmV) nl) (nd zlP (lf zly) nl))) (nd nf (nd o82 (nd zjr (lf te) nl) (nd te (lf zlu) nl)) (nd nf (nd nf (lf zhB) nl) (lf te)))) (nd o26 (nd te (nd nf (nd zi7 (lf zmp) nl) (nd ziB (lf zhO) nl)) (nd te (nd te (lf nf) nl) (lf te))) (nd o58 (nd o90 (nd zhY (lf zlw) nl) (nd nf (lf te) nl)) (nd zjh (nd zjU (lf zng) nl) (lf te))))) (nd o14 (nd te (nd te (nd o70 (nd te (lf zjn) nl) (nd zkq (lf znf) nl)) (nd te (nd te (lf zmX) nl) (lf nf))) (nd o54 (nd o86 (nd nf (lf te) nl) (nd zlo (lf zlF) nl)) (nd ziV (nd zh9 (lf zk8) nl) (lf te)))) (nd te (nd o46 (nd o78 (nd te (lf zh2) nl) (nd nf (lf zlv) nl)) (nd zjI (nd zjJ (lf te) nl) (lf zh6))) (nd o62 (nd o94 (nd zka (lf nf) nl) (nd zjP (lf te) nl)) (nd zf3 (nd zkS (lf zhw) nl) (lf zmQ))))))))
noncomputable def zt9:Nat:=357
noncomputable def ztK:Nat:=659
noncomputable def ztD:Pos:=⟨329,0,335,60⟩
noncomputable def zsR (P:Params):BT:=(nd (o0 P) (nd (o1 P) (nd (zuI P) (nd te (nd te (nd o31 (nd te (nd zkp (nd zmH (lf zo0) nl) (lf ziC)) (nd te (lf te) (lf zre))) (nd te (nd te (lf zmu) (lf zpA)) (nd zin (lf nf) (lf zoq)))) (nd o47 (nd o79 (nd nf (nd te (lf zoM) nl) (lf nf)) (nd zlx (lf zl8) (lf zo6))) (nd zk7 (nd ziq (lf nf) (lf te)) (nd te (lf zmn) (lf (zqO P)))))) (nd o23 (nd o39 (nd o71 (nd ziu (nd zhA (lf zo2) nl) (lf te)) (nd (zkl P) (lf te) (lf te))) (nd zlc (nd zkI (lf zlt) (lf zqs)) (nd zl6 (lf zpV) (lf te)))) (nd o55 (nd (o87 P) (nd zkG (nd nf (lf zph) nl) (lf zpx)) (nd zns (lf te) (lf zrb))) (nd zjC (nd zgw (lf zhU) (lf nf)) (nd zlU (lf zlj) (lf (zof P))))))) (nd te (nd o19 (nd te (nd o67 (nd zju (nd zls (lf zpQ) nl) (lf te)) (nd zkO (lf zhE) (lf zi9))) (nd te (nd te (lf zmZ) (lf (zol P))) (nd zjc (lf zkN) (lf te)))) (nd o51 (nd o83 (nd zhv (nd zlS (lf zqU) nl) (lf zlr)) (nd nf (lf zmK) (lf nf))) (nd ziP (nd zi4 (lf te) (lf zoT)) (nd zm4 (lf nf) (lf zpY))))) (nd te (nd nf (nd o75 (nd zis (nd te (lf zoK) nl) (lf zrf)) (nd ziF (lf te) (lf te))) (nd nf (nd nf (lf zlN) (lf te)) (nd nf (lf zj5) (lf zqx)))) (nd te (nd o91 (nd zf1 (lf zk2) (lf (zpr P))) (nd znp (lf zlE) (lf zqZ))) (nd te (nd te (lf te) (lf zm9)) (nd zmP (lf zoL) (lf zqe))))))) (nd o5 (nd o9 (nd o17 (nd o33 (nd o65 (nd zkj (nd te (lf zoH) nl) (lf zqM)) (nd ziz (lf znh) (lf zq8))) (nd o97 (nd zhz (lf zlD) (lf te)) (nd nf (lf te) (lf nf)))) (nd te (nd nf (nd te (nd znw (lf te) nl) (lf te)) (nd zh0 (lf (zlA P)) (lf zqt))) (nd te (nd te (lf zjB) (lf zpK)) (nd zl3 (lf ziN) (lf zqN))))) (nd te (nd o41 (nd te (nd te (nd nf (lf zp7) nl) (lf zpw)) (nd zji (lf zjq) (lf zpf))) (nd zgl (nd zfU (lf te) (lf nf)) (nd zh7 (lf zo3) (lf zoP)))) (nd nf (nd o89 (nd ziA (nd te (lf zqE) nl) (lf zkg)) (nd te (lf zlp) (lf te))) (nd nf (nd nf (lf nf) (lf te)) (nd zmx (lf te) (lf zqv)))))) (nd o13 (nd o21 (nd o37 (nd nf (nd zld (nd zmq (lf (zog P)) nl) (lf zok)) (nd zga (lf nf) (lf nf))) (nd zjj (nd zjw (lf nf) (lf zqA)) (nd te (lf te) (lf zq0)))) (nd o53 (nd te (nd te (nd zig (lf zqi) nl) (lf te)) (nd te (lf znc) (lf te))) (nd zkr (nd ziK (lf zlC) (lf zkL)) (nd zh1 (lf te) (lf zo1))))) (nd o29 (nd te (nd o77 (nd zfc (nd zkK (lf te) nl) (lf zkB)) (nd te (lf zlT) (lf zqS))) (nd te (nd te (lf zhC) (lf zmw)) (nd zjv (lf nf) (lf zoA)))) (nd o61 (nd nf (nd nf (lf te) (lf zpb)) (nd znr (lf zl2) (lf zou))) (nd zhD (nd zkA (lf zkx) (lf te)) (nd te (lf zp9) (lf te)))))))) (nd (zp2 P) (nd o4 (nd nf (nd nf (nd o32 (nd nf (nd (zjg P) (nd zmI (lf te) nl) (lf te)) (nd nf (lf nf) (lf te))) (nd o96 (nd zi5 (lf te) (lf zpT)) (nd te (lf zlB) (lf te)))) (nd o48 (nd te (nd zk9 (nd nf (lf zo4) nl) (lf zqR)) (nd ziD (lf zm1) (lf zpc))) (nd zjl (nd zfM (lf zlm) (lf nf)) (nd nf (lf zj9) (lf zpn))))) (nd o24 (nd o40 (nd o72 (nd (zkR P) (nd te (lf zo7) nl) (lf nf)) (nd zk4 (lf zmt) (lf zpF))) (nd zim (nd zhR (lf zmR) (lf te)) (nd zj1 (lf te) (lf nf)))) (nd te (nd te (nd te (nd zlV (lf zos) nl) (lf zlI)) (nd zlh (lf nf) (lf zpd))) (nd te (nd te (lf te) (lf zq1)) (nd te (lf zjz) (lf te)))))) (nd zuu (nd o20 (nd nf (nd te (nd zkf (nd te (lf zoe) nl) (lf zpy)) (nd zia (lf te) (lf te))) (nd nf (nd nf (lf te) (lf te)) (nd zhx (lf zhy) (lf zqI)))) (nd te (nd o84 (nd zgA (nd zkP (lf zqp) nl) (lf zje)) (nd zmG (lf zlQ) (lf zq6))) (nd te (nd te (lf nf) (lf zni)) (nd zjy (lf zqK) (lf zoj))))) (nd nf (nd o44 (nd te (nd zkF (nd zmj (lf (zpR P)) nl) (lf znt)) (nd zjK (lf nf) (lf nf))) (nd zjL (nd zku (lf zkW) (lf zpP)) (nd zmE (lf te) (lf zqF)))) (nd o60 (nd te (nd te (lf zhG) (lf zqr)) (nd te (lf zmC) (lf te))) (nd zlb (nd zi8 (lf zma) (lf ziR)) (nd (zl7 P) (lf te) (lf zqq))))))) (nd o6 (nd o10 (nd te (nd o34 (nd o66 (nd ziG (nd nf (lf zp1) nl) (lf (zpm P))) (nd te (lf zkM) (lf zmr))) (nd o98 (nd zf9 (lf zmV) (lf zpj)) (nd zlP (lf zly) (lf zoz)))) (nd nf (nd o82 (nd zjr (nd te (lf (zoE P)) nl) (lf zom)) (nd te (lf zlu) (lf te))) (nd nf (nd nf (lf zhB) (lf te)) (nd te (lf te) (lf zqm))))) (nd o26 (nd te (nd nf (nd zi7 (nd zmp (lf zpt) nl) (lf te)) (nd ziB (lf zhO) (lf zqL))) (nd te (nd te (lf nf) (lf zpv)) (nd te (lf zlL) (lf te)))) (nd o58 (nd o90 (nd zhY (lf zlw) (lf zp3)) (nd nf (lf te) (lf nf))) (nd zjh (nd zjU (lf zng) (lf zqc)) (nd te (lf nf) (lf zqu)))))) (nd o14 (nd te (nd te (nd o70 (nd te (nd zjn (lf zrc) nl) (lf zo9)) (nd zkq (lf znf) (lf zpq))) (nd te (nd te (lf zmX) (lf zoB)) (nd nf (lf nf) (lf zo5)))) (nd o54 (nd o86 (nd nf (nd te (lf zoy) nl) (lf nf)) (nd zlo (lf zlF) (lf zoF))) (nd ziV (nd zh9 (lf zk8) (lf te)) (nd te (lf zpD) (lf zpk))))) (nd te (nd o46 (nd o78 (nd te (nd zh2 (lf nf) nl) (lf te)) (nd nf (lf zlv) (lf te))) (nd zjI (nd zjJ (lf te) (lf zjE)) (nd zh6 (lf zpu) (lf zqg)))) (nd o62 (nd o94 (nd zka (lf nf) (lf zoO)) (nd zjP (lf te) (lf zqy))) (nd zf3 (nd zkS (lf zhw) (lf nf)) (nd zmQ (lf zmS) (lf nf)))))))))
noncomputable def zuq:Nat:=538
noncomputable def zsO:Nat:=934
noncomputable def zsi:Pos:=⟨424,0,424,11⟩
noncomputable def Rp (P:Params):BT:=(nd (o0 P) (nd (o1 P) (nd (zuh P) (nd te (nd te (nd o31 (nd te (nd zkp (nd zmH (lf zo0) (lf zoD)) (nd ziC (lf zsX) nl)) (nd te (nd te (lf zuk) nl) (nd zre (lf te) nl))) (nd te (nd te (nd zmu (lf ztJ) nl) (nd zpA (lf zrk) nl)) (nd zin (nd nf (lf ztW) nl) (nd zoq (lf ztl) nl)))) (nd o47 (nd o79 (nd nf (nd te (lf zoM) nl) (nd nf (lf nf) nl)) (nd zlx (nd zl8 (lf zoS) nl) (nd zo6 (lf zrM) nl))) (nd zk7 (nd ziq (nd nf (lf zmJ) nl) (nd te (lf zlH) nl)) (nd te (nd zmn (lf zsD) nl) (nd (zqO P) (lf zll) nl))))) (nd o23 (nd o39 (nd o71 (nd ziu (nd zhA (lf zo2) nl) (nd te (lf te) nl)) (nd (zkl P) (nd te (lf zrZ) nl) (nd te (lf nf) nl))) (nd zlc (nd zkI (nd zlt (lf te) nl) (nd zqs (lf zps) nl)) (nd zl6 (nd zpV (lf te) nl) (nd te (lf zra) nl)))) (nd o55 (nd (o87 P) (nd zkG (nd nf (lf zph) nl) (nd zpx (lf ztr) nl)) (nd zns (nd te (lf nf) nl) (nd zrb (lf te) nl))) (nd zjC (nd zgw (nd zhU (lf zsB) nl) (nd nf (lf te) nl)) (nd zlU (nd zlj (lf zul) nl) (nd (zof P) (lf te) nl)))))) (nd te (nd o19 (nd te (nd o67 (nd zju (nd zls (lf zpQ) (lf ztq)) (nd te (lf te) nl)) (nd zkO (nd zhE (lf te) nl) (nd zi9 (lf zuo) nl))) (nd te (nd te (nd zmZ (lf zjo) nl) (nd (zol P) (lf nf) nl)) (nd zjc (nd zkN (lf zmD) nl) (nd te (lf nf) nl)))) (nd o51 (nd o83 (nd zhv (nd zlS (lf zqU) nl) (nd zlr (lf zum) nl)) (nd nf (nd zmK (lf zr9) nl) (nd nf (lf znj) nl))) (nd ziP (nd zi4 (nd te (lf zrR) nl) (nd zoT (lf te) nl)) (nd zm4 (nd nf (lf nf) nl) (nd zpY (lf te) nl))))) (nd te (nd nf (nd o75 (nd zis (nd te (lf zoK) nl) (nd zrf (lf zub) nl)) (nd ziF (nd te (lf nf) nl) (nd te (lf zpB) nl))) (nd nf (nd nf (nd zlN (lf te) nl) (nd te (lf zru) nl)) (nd nf (nd zj5 (lf te) nl) (nd zqx (lf zsk) nl)))) (nd te (nd o91 (nd zf1 (nd zk2 (lf te) nl) (nd (zpr P) (lf te) nl)) (nd znp (nd zlE (lf zrx) nl) (nd zqZ (lf zue) nl))) (nd te (nd te (nd te (lf zs3) nl) (nd zm9 (lf zsC) nl)) (nd zmP (nd zoL (lf ztT) nl) (nd zqe (lf zlz) nl))))))) (nd o5 (nd o9 (nd o17 (nd o33 (nd o65 (nd zkj (nd te (lf zoH) (lf te)) (nd zqM (lf nf) nl)) (nd ziz (nd znh (lf zsc) nl) (nd zq8 (lf zsV) nl))) (nd o97 (nd zhz (nd zlD (lf zsq) nl) (nd te (lf znd) nl)) (nd nf (nd te (lf ztk) nl) (nd nf (lf ztN) nl)))) (nd te (nd nf (nd te (nd znw (lf te) nl) (nd te (lf zs7) nl)) (nd zh0 (nd (zlA P) (lf te) nl) (nd zqt (lf zrY) nl))) (nd te (nd te (nd zjB (lf nf) nl) (nd zpK (lf nf) nl)) (nd zl3 (nd ziN (lf zmh) nl) (nd zqN (lf nf) nl))))) (nd te (nd o41 (nd te (nd te (nd nf (lf zp7) nl) (nd zpw (lf zro) nl)) (nd zji (nd zjq (lf zsr) nl) (nd zpf (lf te) nl))) (nd zgl (nd zfU (nd te (lf zqB) nl) (nd nf (lf te) nl)) (nd zh7 (nd zo3 (lf zpU) nl) (nd zoP (lf te) nl)))) (nd nf (nd o89 (nd ziA (nd te (lf zqE) nl) (nd zkg (lf zsN) nl)) (nd te (nd zlp (lf te) nl) (nd te (lf zqC) nl))) (nd nf (nd nf (nd nf (lf ztP) nl) (nd te (lf (zt7 P)) nl)) (nd zmx (nd te (lf te) nl) (nd zqv (lf zrj) nl)))))) (nd o13 (nd o21 (nd o37 (nd nf (nd zld (nd zmq (lf (zog P)) (lf zme)) (nd zok (lf zs4) nl)) (nd zga (nd nf (lf (zrE P)) nl) (nd nf (lf zne) nl))) (nd zjj (nd zjw (nd nf (lf nf) nl) (nd zqA (lf te) nl)) (nd te (nd te (lf nf) nl) (nd zq0 (lf te) nl)))) (nd o53 (nd te (nd te (nd zig (lf zqi) nl) (nd te (lf ztv) nl)) (nd te (nd znc (lf zlO) nl) (nd te (lf nf) nl))) (nd zkr (nd ziK (nd zlC (lf te) nl) (nd zkL (lf zpG) nl)) (nd zh1 (nd te (lf te) nl) (nd zo1 (lf zqb) nl))))) (nd o29 (nd te (nd o77 (nd zfc (nd zkK (lf te) nl) (nd zkB (lf zrs) nl)) (nd te (nd zlT (lf te) nl) (nd zqS (lf te) nl))) (nd te (nd te (nd zhC (lf zr3) nl) (nd zmw (lf ztw) nl)) (nd zjv (nd nf (lf zui) nl) (nd zoA (lf zss) nl)))) (nd o61 (nd nf (nd nf (nd te (lf (zug P)) nl) (nd zpb (lf ztE) nl)) (nd znr (nd zl2 (lf te) nl) (nd zou (lf ztQ) nl))) (nd zhD (nd zkA (nd zkx (lf (zsY P)) nl) (nd te (lf zt1) nl)) (nd te (nd zp9 (lf zsh) nl) (nd te (lf nf) nl)))))))) (nd (zp2 P) (nd o4 (nd nf (nd nf (nd o32 (nd nf (nd (zjg P) (nd zmI (lf te) (lf zml)) (nd te (lf te) nl)) (nd nf (nd nf (lf zsb) nl) (nd te (lf nf) nl))) (nd o96 (nd zi5 (nd te (lf zrX) nl) (nd zpT (lf zoo) nl)) (nd te (nd zlB (lf te) nl) (nd te (lf ztc) nl)))) (nd o48 (nd te (nd zk9 (nd nf (lf zo4) nl) (nd zqR (lf zr6) nl)) (nd ziD (nd zm1 (lf zmY) nl) (nd zpc (lf te) nl))) (nd zjl (nd zfM (nd zlm (lf te) nl) (nd nf (lf te) nl)) (nd nf (nd zj9 (lf zoW) nl) (nd zpn (lf te) nl))))) (nd o24 (nd o40 (nd o72 (nd (zkR P) (nd te (lf zo7) nl) (nd nf (lf nf) nl)) (nd zk4 (nd zmt (lf zt8) nl) (nd zpF (lf ztA) nl))) (nd zim (nd zhR (nd zmR (lf zrP) nl) (nd te (lf zms) nl)) (nd zj1 (nd te (lf zsj) nl) (nd nf (lf zlW) nl)))) (nd te (nd te (nd te (nd zlV (lf zos) nl) (nd zlI (lf zth) nl)) (nd zlh (nd nf (lf ztu) nl) (nd zpd (lf zrB) nl))) (nd te (nd te (nd te (lf te) nl) (nd zq1 (lf zrp) nl)) (nd te (nd zjz (lf ztC) nl) (nd te (lf nf) nl)))))) (nd znP (nd o20 (nd nf (nd te (nd zkf (nd te (lf zoe) (lf zq9)) (nd zpy (lf zs1) nl)) (nd zia (nd te (lf zrN) nl) (nd te (lf zpi) nl))) (nd nf (nd nf (nd te (lf te) nl) (nd te (lf zrT) nl)) (nd zhx (nd zhy (lf te) nl) (nd zqI (lf zuf) nl)))) (nd te (nd o84 (nd zgA (nd zkP (lf zqp) nl) (nd zje (lf (zsG P)) nl)) (nd zmG (nd zlQ (lf zop) nl) (nd zq6 (lf te) nl))) (nd te (nd te (nd nf (lf zr1) nl) (nd zni (lf zry) nl)) (nd zjy (nd zqK (lf zta) nl) (nd zoj (lf zsE) nl))))) (nd nf (nd o44 (nd te (nd zkF (nd zmj (lf (zpR P)) nl) (nd znt (lf ztH) nl)) (nd zjK (nd nf (lf zrv) nl) (nd nf (lf zlq) nl))) (nd zjL (nd zku (nd zkW (lf nf) nl) (nd zpP (lf te) nl)) (nd zmE (nd te (lf nf) nl) (nd zqF (lf te) nl)))) (nd o60 (nd te (nd te (nd zhG (lf ztj) nl) (nd zqr (lf nf) nl)) (nd te (nd zmC (lf ztn) nl) (nd te (lf (zut P)) nl))) (nd zlb (nd zi8 (nd zma (lf zup) nl) (nd ziR (lf zrm) nl)) (nd (zl7 P) (nd te (lf te) nl) (nd zqq (lf te) nl))))))) (nd o6 (nd o10 (nd te (nd o34 (nd o66 (nd ziG (nd nf (lf zp1) (lf nf)) (nd (zpm P) (lf zse) nl)) (nd te (nd zkM (lf zur) nl) (nd zmr (lf te) nl))) (nd o98 (nd zf9 (nd zmV (lf te) nl) (nd zpj (lf te) nl)) (nd zlP (nd zly (lf zpH) nl) (nd zoz (lf te) nl)))) (nd nf (nd o82 (nd zjr (nd te (lf (zoE P)) nl) (nd zom (lf zr2) nl)) (nd te (nd zlu (lf nf) nl) (nd te (lf zow) nl))) (nd nf (nd nf (nd zhB (lf zrO) nl) (nd te (lf ztB) nl)) (nd te (nd te (lf te) nl) (nd zqm (lf zsz) nl))))) (nd o26 (nd te (nd nf (nd zi7 (nd zmp (lf zpt) nl) (nd te (lf te) nl)) (nd ziB (nd zhO (lf te) nl) (nd zqL (lf zrU) nl))) (nd te (nd te (nd nf (lf zmF) nl) (nd zpv (lf nf) nl)) (nd te (nd zlL (lf zmA) nl) (nd te (lf nf) nl)))) (nd o58 (nd o90 (nd zhY (nd zlw (lf zs8) nl) (nd zp3 (lf zmf) nl)) (nd nf (nd te (lf zr5) nl) (nd nf (lf zlY) nl))) (nd zjh (nd zjU (nd zng (lf ztz) nl) (nd zqc (lf te) nl)) (nd te (nd nf (lf nf) nl) (nd zqu (lf zpX) nl)))))) (nd o14 (nd te (nd te (nd o70 (nd te (nd zjn (lf zrc) nl) (nd zo9 (lf zun) nl)) (nd zkq (nd znf (lf te) nl) (nd zpq (lf te) nl))) (nd te (nd te (nd zmX (lf zsJ) nl) (nd zoB (lf zt6) nl)) (nd nf (nd nf (lf zsl) nl) (nd zo5 (lf ztX) nl)))) (nd o54 (nd o86 (nd nf (nd te (lf zoy) nl) (nd nf (lf zts) nl)) (nd zlo (nd zlF (lf te) nl) (nd zoF (lf ztV) nl))) (nd ziV (nd zh9 (nd zk8 (lf nf) nl) (nd te (lf zmi) nl)) (nd te (nd zpD (lf zuv) nl) (nd zpk (lf zlZ) nl))))) (nd te (nd o46 (nd o78 (nd te (nd zh2 (lf nf) nl) (nd te (lf te) nl)) (nd nf (nd zlv (lf zrr) nl) (nd te (lf nf) nl))) (nd zjI (nd zjJ (nd te (lf zqX) nl) (nd zjE (lf zox) nl)) (nd zh6 (nd zpu (lf te) nl) (nd zqg (lf zpL) nl)))) (nd o62 (nd o94 (nd zka (nd nf (lf te) nl) (nd zoO (lf te) nl)) (nd zjP (nd te (lf nf) nl) (nd zqy (lf zrG) nl))) (nd zf3 (nd zkS (nd zhw (lf zuj) nl) (nd nf (lf ziQ) nl)) (nd zmQ (nd zmS (lf zt5) nl) (nd nf (lf ztb) nl)))))))))
noncomputable def Zt:Nat:=774
noncomputable def znO:Nat:=1276
noncomputable def zsZ:Pos:=⟨617,0,645,110⟩
noncomputable def zrh:Value:=(.ref 13)
noncomputable def zpl:Addr:=14
noncomputable def zqf:Pos:=⟨0,0,0,0⟩
noncomputable def zat:Option Value:=some (.ref 6)
noncomputable def bd:List Stmt:=behindTheImports pw
noncomputable def zfx:Env:={ scope:=pw.main.scope,locals:=mainNs,globals:=mainNs,cells:=[],code:=zrh,frame:=some zpl }
noncomputable def cT:Code:=.body bd zfx
noncomputable def BB:List Frame:=[topFrame zqf]
noncomputable def S0 (w:World) (os:OsState):SharedT:=⟨zrL w.params,zrJ,{},#[],{},zr4,os⟩
noncomputable def S1 (w:World) (os:OsState):SharedT:=⟨zr7 w.params,ztx,{},#[],{},zrH,os⟩
noncomputable def S2 (w:World) (os:OsState):SharedT:=⟨zsK w.params,zt9,{},#[],{},ztK,os⟩
noncomputable def S3 (w:World) (os:OsState):SharedT:=⟨zsR w.params,zuq,{},#[],{},zsO,os⟩
noncomputable def S4 (w:World) (os:OsState):SharedT:=⟨Rp w.params,Zt,{},#[],{},znO,os⟩
theorem zjA (w:World) (n:Nat) (s:SharedT) (t:Thread) {r:Option (Flow × SharedT × Code × Pos)}
    (h:PySem.W.Fast.tw10110043849684766642 PySem.W.Fast.tw14364793385576792824 pw w 11 zat 1 n s t = r):segRunT treeTable pw w 11 zat 1 n s t = r:=by
  rw [PySem.W.Fast.te10110043849684766642,PySem.W.Fast.te14364793385576792824]; exact h
theorem zuA (w:World) (os:OsState):topGo treeTable pw w 11 zat 12 ⟨boot_heap w.params,Array.mk [],boot_drawn,boot_toks,os⟩ (topStub pw) = some ((S0 w os).abs,⟨denote treeTable cT,cT,ziW,BB⟩):=by
  rw [PySem.W.Fast.te15667345088766844465,PySem.W.Fast.te11892475500146522536,PySem.W.Fast.te14364793385576792824]
  kernel_rfl
theorem zpe (w:World) (os:OsState):segRunT treeTable pw w 11 zat 1 1 (S0 w os) (blockOf bd zfx cT ziW BB) = some (.next,S0 w os,cT,ziW):=zjA _ _ _ _ (by kernel_rfl)
theorem p1 (w:World) (os:OsState):segRunT treeTable pw w 11 zat 1 1168 (S0 w os) (piecesOf (bd.take 17) zfx cT ziW BB) = some (.next,S1 w os,cT,zsx):=zjA _ _ _ _ (by kernel_rfl)
theorem p2 (w:World) (os:OsState):segRunT treeTable pw w 11 zat 1 904 (S1 w os) (piecesOf ((bd.drop 17).take 13) zfx cT zsx BB) = some (.next,S2 w os,cT,ztD):=zjA _ _ _ _ (by kernel_rfl)
theorem p3 (w:World) (os:OsState):segRunT treeTable pw w 11 zat 1 1472 (S2 w os) (piecesOf ((bd.drop 30).take 16) zfx cT ztD BB) = some (.next,S3 w os,cT,zsi):=zjA _ _ _ _ (by kernel_rfl)
theorem p4 (w:World) (os:OsState):segRunT treeTable pw w 11 zat 1 1540 (S3 w os) (piecesOf (bd.drop 46) zfx cT zsi BB) = some (.next,S4 w os,cT,zsZ):=zjA _ _ _ _ (by kernel_rfl)
theorem zoN (w:World) (os:OsState):topRun treeTable pw w 11 zat 2 (S4 w os).abs ⟨doneF .next,cT,zsZ,BB⟩ = some (S4 w os).abs:=by
  rw [PySem.W.Fast.te14082659384304107361]
  kernel_rfl
noncomputable def KK (P:Params):Frag:=[(2,zp2 P),(3,zuh P),(4,o4),(5,o5),(6,o6),(7,te),(8,nf),(9,o9),(10,o10),(11,te),(12,znP),(13,o13),(14,o14),(15,te),(16,nf),(17,o17),(18,te),(19,o19),(20,o20),(21,o21),(22,te),(23,o23),(24,o24),(25,te),(26,o26),(27,te),(28,nf),(29,o29),(30,te),(31,o31),(32,o32),(33,o33),(34,o34),(35,te),(36,nf),(37,o37),(38,te),(39,o39),(40,o40),(41,o41),(42,te),(43,nf),(44,o44),(45,te),(46,o46),(47,o47),(48,o48),(49,te),(50,nf),(51,o51),(52,te),(53,o53),(54,o54),(55,o55),(56,te),(57,nf),(58,o58),(59,te),(60,o60),(61,o61),(62,o62),(63,te),(64,nf),(65,o65),(66,o66),(67,o67),(68,te),(69,nf),(70,o70),(71,o71),(72,o72),(73,te),(74,nf),(75,o75),(76,te),(77,o77),(78,o78),(79,o79),(80,te),(81,nf),(82,o82),(83,o83),(84,o84),(85,te),(86,o86),(87,o87 P),(88,te),(89,o89),(90,o90),(91,o91),(92,te),(93,nf),(94,o94),(95,te),(96,o96),(97,o97),(98,o98),(99,te),(100,nf),(101,zjj),(102,te),(103,zlc),(104,zim),(105,zgl),(106,te),(107,nf),(108,zjL),(109,te),(110,zjI),(111,zk7),(112,zjl),(113,te),(114,nf),(115,ziP),(116,te),(117,zkr),(118,ziV),(119,zjC),(120,te),(121,nf),(122,zjh),(123,te),(124,zlb),(125,zhD),(126,zf3),(127,zkp),(128,zjg P),(129,zkj),(130,ziG),(131,zju),(132,zkf),(133,zld),(134,te),(135,ziu),(136,zkR P),(137,te),(138,zi7),(139,zis),(140,zkF),(141,zfc),(142,te),(143,nf),(144,zk9),(145,te),(146,zjr),(147,zhv),(148,zgA),(149,te),(150,nf),(151,zkG),(152,te),(153,ziA),(154,zhY),(155,zf1),(156,te),(157,nf),(158,zka),(159,te),(160,zi5),(161,zhz),(162,zf9),(163,te),(164,nf),(165,zjw),(166,te),(167,zkI),(168,zhR),(169,zfU),(170,te),(171,nf),(172,zku),(173,te),(174,zjJ),(175,ziq),(176,zfM),(177,te),(178,nf),(179,zi4),(180,te),(181,ziK),(182,zh9),(183,zgw),(184,te),(185,nf),(186,zjU),(187,te),(188,zi8),(189,zkA),(190,zkS),(191,te),(192,nf),(193,ziz),(194,te),(195,zkO),(196,zia),(197,zga),(198,zkq),(199,zkl P),(200,zk4),(201,zji),(202,ziB),(203,ziF),(204,zjK),(205,te),(206,nf),(207,zlx),(208,ziD),(209,zh0),(210,te),(211,nf),(212,zmG),(213,te),(214,zlo),(215,zns),(216,zlh),(217,te),(218,nf),(219,znp),(220,te),(221,znr),(222,zjP),(223,zin),(224,te),(225,nf),(226,zlP),(227,zjc),(228,zhx),(229,te),(230,nf),(231,zl6),(232,zj1),(233,zh7),(234,te),(235,nf),(236,zmE),(237,zjv),(238,zh6),(239,te),(240,nf),(241,zl3),(242,te),(243,zm4),(244,zjy),(245,zh1),(246,te),(247,zlU),(248,te),(249,zmx),(250,te),(251,zmP),(252,zl7 P),(253,te),(254,zmQ),(255,zmH),(256,zmI),(257,te),(258,nf),(259,zls),(260,te),(261,zmq),(262,zjn),(263,zhA),(264,te),(265,nf),(266,zmp),(267,te),(268,zmj),(269,zkK),(270,zh2),(271,te),(272,nf),(273,znw),(274,te),(275,zlS),(276,zkP),(277,zig),(278,te),(279,nf),(280,zlV),(281,te),(282,zlw),(283,zk2),(284,zhG),(285,te),(286,nf),(287,zmu),(288,te),(289,zlD),(290,zmV),(291,zmZ),(292,te),(293,nf),(294,zmX),(295,zlt),(296,zmR),(297,te),(298,nf),(299,zlN),(300,zkW),(301,zhC),(302,te),(303,nf),(304,zlm),(305,zjB),(306,zhB),(307,te),(308,nf),(309,zlC),(310,zk8),(311,zhU),(312,te),(313,nf),(314,zng),(315,te),(316,zma),(317,zkx),(318,zhw),(319,te),(320,nf),(321,znh),(322,zkM),(323,zhE),(324,te),(325,nf),(326,znf),(327,te),(328,zmt),(329,zjq),(330,zhO),(331,te),(332,nf),(333,zlT),(334,zlv),(335,zl8),(336,zm1),(337,zlA P),(338,zlu),(339,zmK),(340,zlQ),(341,znc),(342,zlF),(343,te),(344,nf),(345,zlp),(346,te),(347,zlE),(348,zmC),(349,zl2),(350,te),(351,nf),(352,zlB),(353,te),(354,zly),(355,zkN),(356,zhy),(357,te),(358,nf),(359,zpV),(360,te),(361,zo3),(362,zlL),(363,zj5),(364,te),(365,nf),(366,zpu),(367,zmn),(368,zj9),(369,ziN),(370,te),(371,nf),(372,zqK),(373,te),(374,zpD),(375,zlj),(376,zjz),(377,te),(378,nf),(379,zoL),(380,te),(381,zp9),(382,zmS),(383,ziC),(384,te),(385,zqM),(386,zpm P),(387,te),(388,zpy),(389,zok),(390,zo9),(391,te),(392,nf),(393,zpw),(394,te),(395,zrf),(396,znt),(397,zkB),(398,te),(399,nf),(400,zqR),(401,te),(402,zom),(403,zlr),(404,zje),(405,te),(406,nf),(407,zpx),(408,zlI),(409,zkg),(410,zp3),(411,zpr P),(412,zqr),(413,zpb),(414,zoO),(415,zpA),(416,zpT),(417,te),(418,zpj),(419,zol P),(420,te),(421,zqA),(422,zoB),(423,zqs),(424,te),(425,nf),(426,zpv),(427,te),(428,zpP),(429,zmw),(430,zjE),(431,te),(432,nf),(433,zpK),(434,te),(435,zoT),(436,zni),(437,zkL),(438,te),(439,nf),(440,zq1),(441,te),(442,zqc),(443,zm9),(444,ziR),(445,te),(446,nf),(447,zre),(448,te),(449,zq8),(450,zmr),(451,zi9),(452,te),(453,nf),(454,zpq),(455,te),(456,zpF),(457,zpf),(458,zqL),(459,te),(460,nf),(461,zqS),(462,te),(463,zo6),(464,zpc),(465,zqt),(466,te),(467,nf),(468,zq6),(469,te),(470,zoF),(471,zrb),(472,zpd),(473,te),(474,nf),(475,zqZ),(476,te),(477,zou),(478,zqy),(479,zoq),(480,te),(481,nf),(482,zoz),(483,te),(484,zqI),(485,zq0),(486,zo5),(487,te),(488,nf),(489,zoP),(490,te),(491,zqx),(492,zqF),(493,zoA),(494,zqg),(495,zqO P),(496,zpn),(497,zqN),(498,zqm),(499,zpY),(500,zoj),(501,zo1),(502,zpk),(503,zof P),(504,te),(505,zqv),(506,zqu),(507,zqe),(508,zqq),(509,te),(510,nf),(511,zo0),(512,te),(513,zoH),(514,zp1),(515,zpQ),(516,zoe),(517,zog P),(518,zrc),(519,zo2),(520,zo7),(521,zp7),(522,zpt),(523,zoK),(524,zpR P),(525,te),(526,nf),(527,zoM),(528,zo4),(529,te),(530,zoE P),(531,zqU),(532,zqp),(533,zqi),(534,zoy),(535,zph),(536,zos),(537,zqE),(538,zs8),(539,te),(540,ztj),(541,zug P),(542,te),(543,ztJ),(544,zrX),(545,zsq),(546,te),(547,zjo),(548,te),(549,nf),(550,zsJ),(551,te),(552,zrP),(553,zqB),(554,zmF),(555,te),(556,nf),(557,zr3),(558,zqX),(559,zmJ),(560,te),(561,nf),(562,zrO),(563,zrR),(564,zr1),(565,te),(566,nf),(567,zsB),(568,te),(569,ztP),(570,ztz),(571,zs3),(572,zup),(573,zsY P),(574,zuj),(575,zuk),(576,zsb),(577,zsc),(578,zur),(579,te),(580,zrN),(581,zrE P),(582,te),(583,zrZ),(584,zt8),(585,zsr),(586,te),(587,nf),(588,zrv),(589,te),(590,zrr),(591,zoS),(592,zmY),(593,te),(594,nf),(595,zr9),(596,zop),(597,zlO),(598,te),(599,nf),(600,ztu),(601,te),(602,zr5),(603,zrx),(604,ztn),(605,te),(606,nf),(607,ztW),(608,te),(609,ztk),(610,zpH),(611,zmD),(612,te),(613,nf),(614,zsl),(615,te),(616,zsj),(617,zpU),(618,zmA),(619,te),(620,nf),(621,zui),(622,te),(623,zsD),(624,zoW),(625,zmh),(626,te),(627,nf),(628,zta),(629,te),(630,zuv),(631,zul),(632,ztC),(633,te),(634,nf),(635,ztT),(636,te),(637,zsh),(638,zt5),(639,zsX),(640,te),(641,nf),(642,zse),(643,te),(644,zs1),(645,zs4),(646,zun),(647,te),(648,nf),(649,zro),(650,te),(651,zub),(652,ztH),(653,zrs),(654,te),(655,nf),(656,zr6),(657,zs7),(658,zr2),(659,zum),(660,zsG P),(661,ztv),(662,zts),(663,ztr),(664,zth),(665,zsN),(666,zmf),(667,te),(668,nf),(669,ztE),(670,te),(671,zrk),(672,zoo),(673,znd),(674,te),(675,nf),(676,zrT),(677,te),(678,zt6),(679,zps),(680,zms),(681,te),(682,nf),(683,zru),(684,te),(685,ztw),(686,zox),(687,zlH),(688,te),(689,nf),(690,ztB),(691,te),(692,zry),(693,zpG),(694,zmi),(695,te),(696,zrp),(697,zt7 P),(698,te),(699,zsC),(700,zrm),(701,zt1),(702,ziQ),(703,te),(704,nf),(705,zsV),(706,te),(707,zuo),(708,zpi),(709,zne),(710,te),(711,nf),(712,ztA),(713,te),(714,zrU),(715,zpB),(716,zlq),(717,te),(718,nf),(719,zrM),(720,te),(721,zrY),(722,zow),(723,znj),(724,te),(725,nf),(726,ztV),(727,te),(728,zrB),(729,zqC),(730,zlY),(731,zue),(732,zut P),(733,ztQ),(734,zrG),(735,ztl),(736,ztc),(737,ztN),(738,te),(739,nf),(740,zuf),(741,te),(742,ztX),(743,zra),(744,zlW),(745,te),(746,nf),(747,zsk),(748,te),(749,zss),(750,zpL),(751,zll),(752,te),(753,nf),(754,zsz),(755,te),(756,zsE),(757,zqb),(758,zlZ),(759,te),(760,nf),(761,zrj),(762,zpX),(763,zlz),(764,te),(765,nf),(766,ztb),(767,zoD),(768,zml),(769,te),(770,nf),(771,ztq),(772,zq9),(773,zme)]
noncomputable def Hx:List Str:=[.ofString "_wall",.ofString "ANY",.ofString "BOTTOM",.ofString "named",.ofString "tuple_of",.ofString "union_of",.ofString "parts_of_kind",.ofString "rebuilt_kind",.ofString "substituted",.ofString "free_vars",.ofString "binder_text",.ofString "kind_text",.ofString "MOST_CASES",.ofString "Side",.ofString "Sides",.ofString "occurrences",.ofString "bound_occurrences",.ofString "is_diagonal",.ofString "left_cases",.ofString "tuple_cases",.ofString "is_empty",.ofString "tail_of",.ofString "TYPE",.ofString "FUNCTION",.ofString "Search",.ofString "narrowed",.ofString "widened",.ofString "has_within",.ofString "tuple_ways",.ofString "is_subtype",.ofString "same_kind",.ofString "FIRST_WORLD",.ofString "Table",.ofString "Tables",.ofString "RowsError",.ofString "KindFault",.ofString "SIGNED",.ofString "UNSIGNED",.ofString "PLAIN_ERRORS",.ofString "TEXT_ERRORS",.ofString "CALL_ERRORS",.ofString "Decl",.ofString "Kinds",.ofString "nominal",.ofString "start_kinds",.ofString "start_errors",.ofString "start_rows",.ofString "Method",.ofString "_law_drum",.ofString "_law_beat",.ofString "_law_part",.ofString "_law_signature",.ofString "_law_seen"]
noncomputable def qv:Program:={ pw with main:={ pw.main with body:=[st 61] } }
noncomputable def HT (P:Params):Heap:=absHeap (Rp P) Zt {}
def YP (w:World) (h:Heap):Prop:=∀ b o,(HT w.params).get? b = some o→h.get? b = some o
noncomputable def dl:DefRec:=match st 61 with
  | .FunctionDef (name:=n) (args:=a) (body:=b) (scope:=sc) (pos:=p) ..=>⟨n,a,b,sc,p⟩
  | _=>⟨"",⟨[],[],none,[],[],none,[]⟩,[],⟨.function,[],false,false,[]⟩,⟨0,0,0,0⟩⟩
theorem zmc (w:World) (os:OsState):topRun treeTable pw w 11 zat (12 + (1 + (1168 + (904 + (1472 + (1540 + 2)))))) ⟨boot_heap w.params,Array.mk [],boot_drawn,boot_toks,os⟩ (topStub pw) = some (S4 w os).abs:=by
  refine go_top (zuA w os) ?_
  refine piece_block (env:=zfx) (q:=zqf) (segRun_of (zpe w os)) ?_
  have e1:bd = bd.take 17 ++ ((bd.drop 17).take 13 ++ ((bd.drop 30).take 16 ++ (bd.drop 46 ++ []))):=by
    have h3:(bd.drop 30).take 16 ++ bd.drop 46 = bd.drop 30:=by
      have:=List.take_append_drop 16 (bd.drop 30); rwa [List.drop_drop] at this
    have h2:(bd.drop 17).take 13 ++ bd.drop 30 = bd.drop 17:=by
      have:=List.take_append_drop 13 (bd.drop 17); rwa [List.drop_drop] at this
    rw [List.append_nil,h3,h2,List.take_append_drop]
  have run:topRun treeTable pw w 11 zat (1168 + (904 + (1472 + (1540 + 2)))) (S0 w os).abs (restOf (bd.take 17 ++ ((bd.drop 17).take 13 ++ ((bd.drop 30).take 16 ++ (bd.drop 46 ++ [])))) zfx cT ziW [topFrame zqf]) = some (S4 w os).abs:=
    piece_app (segRun_of (p1 w os)) (piece_app (segRun_of (p2 w os)) (piece_app (segRun_of (p3 w os)) (piece_app (segRun_of (p4 w os)) (piece_nil (zoN w os)))))
  rw [← e1] at run
  exact run
theorem znv (w:World) (os:OsState):openSeen qv Hx (importedModules pw.main.body) (fun _=>true) true (S4 w os).abs = openGood qv Hx:=by
  have b1:seen ((recsOf qv).map (·.name)) (ownsOf qv) [] { (S4 w os).abs with gens:=#[] } = expectedOf qv:=by
    unfold expectedOf
    rw [PySem.W.Fast.te5160383126252970620,PySem.W.Fast.te3399658132070893891]
    kernel_rfl
  have b2:(S4 w os).abs.heap.bltView = bltViewBooted:=by kernel_rfl
  have b3:(S4 w os).abs.heap.keysOk (looseW qv Hx) ((recsOf qv).map (·.name)) ((litsOf qv).map (·.1)) ((clssOf qv (looseW qv Hx)).map (·.name)) = true:=by
    rw [PySem.W.Fast.te10880121769531294198,PySem.W.Fast.te3399658132070893891,PySem.W.Fast.te7409074990110511671,PySem.W.Fast.te13664370479719496447,PySem.W.Fast.te821141287760084731]
    kernel_rfl
  have b4:(S4 w os).abs.heap.accountedOkI (importedModules pw.main.body) = true:=by
    rw [PySem.W.Fast.te14722251495701143533,PySem.W.Fast.te5923862056798008813]
    kernel_rfl
  have b5:(S4 w os).abs.heap.isNs mainGlobals = true:=by kernel_rfl
  have b5':(S4 w os).abs.heap.isNs builtinsNs = true:=by kernel_rfl
  have b6:tablesOk qv (S4 w os).abs.heap = true:=by
    rw [PySem.W.Fast.te10994771534591457954]
    kernel_rfl
  have b7:tabsOk qv (S4 w os).abs = true:=by
    rw [PySem.W.Fast.te479339242167458305]
    kernel_rfl
  have b8:pinSeenD qv (drecsOf qv) (S4 w os).abs = pinGoodD (drecsOf qv):=by
    rw [PySem.W.Fast.te16090120013241838585,PySem.W.Fast.te3247288618530077131]
    kernel_rfl
  have b9:plainSeenE qv (looseW qv Hx) (S4 w os).abs = plainGoodE qv (looseW qv Hx):=by kernel_rfl
  have b10:plainSeenD qv Hx (S4 w os).abs = plainGoodD qv Hx:=by kernel_rfl
  have b11:wideSeen qv (S4 w os).abs = wideGood qv:=by kernel_rfl
  have b12:clsSeenW qv Hx (S4 w os).abs = clsGoodW qv Hx:=by kernel_rfl
  have b13:((S4 w os).abs.gens.size == 0) = true:=rfl
  unfold openSeen openGood
  rw [b1,b2,b3,b4,b5,b5',b6,b7,b8,b9,b10,b11,b12,b13]
  rfl
theorem zmL (w:World) (os:OsState):(staticsOk (importedModules pw.main.body) (boot_heap w.params) (S4 w os).abs.heap && namesBound pw (S4 w os).abs.heap && gensDone (S4 w os).abs && laidKept (boot_heap w.params) (S4 w os).abs.heap) = true:=by
  have a1:gensDone (S4 w os).abs = true:=by kernel_rfl
  have a2:laidKept (boot_heap w.params) (S4 w os).abs.heap = true:=by kernel_rfl
  have a3:namesBound pw (S4 w os).abs.heap = true:=by
    unfold namesBound
    rw [PySem.W.Fast.te18344453789297297638,PySem.W.Fast.sDec_eq]
    kernel_rfl
  have a4:staticsOk (importedModules pw.main.body) (boot_heap w.params) (S4 w os).abs.heap = true:=by kernel_rfl
  rw [a1,a2,a3,a4]; rfl
theorem zm8 (w:World):((boot_heap w.params).isNs mainGlobals && (Array.mk []:Array GenState).size == 0,(boot_heap w.params).objs.size,(boot_heap w.params).nsMap mainGlobals "__annotations__") = (true,11,zat):=by kernel_rfl
theorem zmU:∀ w:World,(fencedOpening treeTable pw w 6000).map (fun s=>(s.heap,s.gens,s.drawn,s.toks)) = some (boot_heap w.params,Array.mk [],boot_drawn,boot_toks):=
  boot_open (by kernel_rfl) (by decide) (fun s=>by kernel_rfl)
theorem zm7:LeftO pw qv Hx (fun _=>true) (fun s=>s.heap) (fun w=>HT w.params) 6000:=
  LeftO.of_pieces (Yf:=fun s=>s.heap) (Ya:=fun w=>HT w.params) (H₀:=boot_heap) (H₁:=HT) (gs₀:=Array.mk []) (gs₁:=#[]) (d₀:=boot_drawn) (d₁:={}) (k₀:=boot_toks) (k₁:=znO) (m₀:=11) (ann:=zat)
    (M:=12 + (1 + (1168 + (904 + (1472 + (1540 + 2))))))
    zmU zm8 zmc (by decide)
    (fun w=>funext fun os=>Prod.ext (zmL w os) (Prod.ext (znv w os) rfl))
theorem ws:PySem.Challenge.rw_pq0725_02.wellSaid = true:=by
  rw [PySem.W.Fast.te9446332074065402090]
  kernel_rfl
theorem zuU (walk:WalkO qv Hx (fun _ _=>True) YP PySem.Challenge.rw_pq0725_02.row.toRowW dl [] fun f vs=>PySem.call f vs):PySem.Challenge.rw_pq0725_02.Holds:=by
  refine holds_law ws fun said=>?_
  refine holds_open (q:=qv) (loose:=Hx) (Xt:=fun _=>true) (XP:=fun _ _=>True) (Yf:=fun s=>s.heap) (Ya:=fun w=>HT w.params) (YP:=YP) (N:=6000) (d:=dl) (kwd:=[]) zm7 ?_ ?_ (fun _ _=>trivial) (fun _ _ _ _ _=>trivial) (by kernel_rfl) (by kernel_rfl) (by kernel_rfl) ?_ (by kernel_rfl) said (by kernel_rfl) ?_ ?_ walk
  · intro w s e b o hb; rw [← e] at hb; exact hb
  · intro w h h' x k b o hb; exact k _ _ (x b o hb)
  · intro s _
    exact recFacts_of (by rfl)
  · exact ⟨rfl,rfl,rfl,rfl,rfl,by decide +kernel⟩
  · w_witness2
def sN (k:Lean.Name) (a:Array Lean.Syntax):Lean.Syntax:=.node .none k a
def syA (s:String):Lean.Syntax:=.atom .none s
def sQ (a:Array Lean.Syntax):Lean.Syntax:=sN `Lean.Parser.Tactic.tacticSeq #[sN `Lean.Parser.Tactic.tacticSeq1Indented #[sN `null a]]
def sD:Lean.Syntax:=sN `Lean.Parser.Tactic.decide #[syA "decide",sN `Lean.Parser.Tactic.optConfig #[sN `null #[]]]
def sI:Lean.Syntax:=sN `Lean.Parser.Tactic.intros #[syA "intros",sN `null #[]]
def sE (f:Lean.Name) (a:Array Lean.Syntax):Lean.Syntax:=sN `Lean.Parser.Tactic.exact #[syA "exact",sN `Lean.Parser.Term.app #[.ident .none "".toRawSubstring f [],sN `null a]]
def sH:Lean.Syntax:=sN `Lean.Parser.Term.hole #[syA "_"]
def sJ:Lean.Syntax:=sN `Lean.Parser.Tactic.tacticRfl #[syA "rfl"]
def syB (t:Lean.Syntax):Lean.Syntax:=sN `Lean.Parser.Term.byTactic #[syA "by",sQ #[t]]
def tR:Lean.Syntax:=sQ #[sI,syA ";",sJ]
def tKr:Lean.Syntax:=sQ #[sN `tacticKernel_rfl #[syA "kernel_rfl"]]
def tDe:Lean.Syntax:=sQ #[sD]
def tC:Lean.Syntax:=sQ #[sN `Lean.Parser.Tactic.constructor #[syA "constructor"],syA ";",sN `Lean.Parser.Tactic.allGoals #[syA "all_goals",tR]]
def tE:Lean.Syntax:=sQ #[sI,syA ";",sE `Exists.intro #[sH,syB sJ]]
inductive D where
  | none
  | bool (b:Bool)
  | int (i:Int)
  | str (s:List Nat)
  | tup (xs:List D)
  | ref (n:Nat)
  | obj (C n:Nat)
  | sym
inductive Bb where
  | list (xs:List D)
  | dict (es:List (List Nat × D))
  | ns (es:List (Nat × D))
  | cell (v:Option D)
inductive T (α:Type) where
  | nil
  | node (v:Option α) (l r:T α)
namespace T
noncomputable def un {α β:Type} (t:T α) (k:Option α→T α→T α→β):β:=T.rec (motive:=fun _=>β) (k none .nil .nil) (fun v l r _ _=>k v l r) t
noncomputable def get {α:Type} (t:T α) (i:Nat):Option α:=
  T.rec (motive:=fun _=>Nat→Option α) (fun _=>none) (fun v _ _ hl hr i=>Nat.rec (motive:=fun _=>Option α) v (fun j _=>Nat.rec (motive:=fun _=>Option α) (hl (Nat.div j 2)) (fun _ _=>hr (Nat.div j 2)) (Nat.mod j 2)) i) t i
noncomputable def put {α:Type} (o:α) (f:Nat) (t:T α) (i:Nat):T α:=
  Nat.rec (motive:=fun _=>T α→Nat→T α) (fun t _=>t) (fun _ ih t i=>t.un fun v l r=>Nat.rec (motive:=fun _=>T α) (.node (some o) l r) (fun j _=>Nat.rec (motive:=fun _=>T α) (.node v (ih l (Nat.div j 2)) r) (fun _ _=>.node v l (ih r (Nat.div j 2))) (Nat.mod j 2)) i) f t i
noncomputable def top {α:Type} (t:T α):Option α:=t.un fun v _ _=>v
noncomputable def left {α:Type} (t:T α):T α:=t.un fun _ l _=>l
noncomputable def right {α:Type} (t:T α):T α:=t.un fun _ _ r=>r
theorem zfh {α:Type} (t:T α):t.get 0 = t.top:=by cases t <;> rfl
theorem get_succ {α:Type} (t:T α) (j:Nat):t.get (j + 1) = if j % 2 = 0 then t.left.get (j / 2) else t.right.get (j / 2):=by
  cases t with
  | nil=>simp only [left,right,un]; split <;> rfl
  | node v l r=>
    show Nat.rec (motive:=fun _=>Option α) (l.get (j / 2)) (fun _ _=>r.get (j / 2)) (j % 2) = _
    rcases Nat.mod_two_eq_zero_or_one j with q | q <;> rw [q] <;> rfl
theorem put_zero {α:Type} (o:α) (f:Nat) (t:T α):put o (f + 1) t 0 = .node (some o) t.left t.right:=by cases t <;> rfl
theorem put_succ {α:Type} (o:α) (f:Nat) (t:T α) (j:Nat):put o (f + 1) t (j + 1) = if j % 2 = 0 then .node t.top (put o f t.left (j / 2)) t.right else .node t.top t.left (put o f t.right (j / 2)):=by
  cases t with
  | nil=>
    show Nat.rec (motive:=fun _=>T α) (.node none (put o f .nil (j / 2)) .nil) (fun _ _=>.node none .nil (put o f .nil (j / 2))) (j % 2) = _
    rcases Nat.mod_two_eq_zero_or_one j with q | q <;> rw [q] <;> rfl
  | node v l r=>
    show Nat.rec (motive:=fun _=>T α) (.node v (put o f l (j / 2)) r) (fun _ _=>.node v l (put o f r (j / 2))) (j % 2) = _
    rcases Nat.mod_two_eq_zero_or_one j with q | q <;> rw [q] <;> rfl
theorem get_put {α:Type} (o:α):∀ (f:Nat) (t:T α) (i j:Nat),i + 1 < 2 ^ f→(put o f t i).get j = if j = i then some o else t.get j:=by
  intro f
  induction f with
  | zero=>intro t i j h; simp at h
  | succ f ih=>
    intro t i j h
    have hp:2 ^ (f + 1) = 2 * 2 ^ f:=by rw [Nat.pow_succ,Nat.mul_comm]
    have lr:∀ (v:Option α) (l r:T α),(T.node v l r).left = l ∧ (T.node v l r).right = r ∧ (T.node v l r).top = v:=fun _ _ _=>⟨rfl,rfl,rfl⟩
    cases i with
    | zero=>
      rw [put_zero]
      cases j with
      | zero=>rfl
      | succ j=>
        have e:¬ (j + 1 = 0):=by lia
        simp only [get_succ,(lr _ _ _).1,(lr _ _ _).2.1,if_neg e]
    | succ i=>
      rw [put_succ]
      have b:i / 2 + 1 < 2 ^ f:=by lia
      by_cases pi:i % 2 = 0
      · rw [if_pos pi]
        cases j with
        | zero=>simp only [zfh,(lr _ _ _).2.2]; simp
        | succ j=>
          simp only [get_succ,(lr _ _ _).1,(lr _ _ _).2.1]
          by_cases pj:j % 2 = 0
          · simp only [if_pos pj,ih _ _ _ b]
            by_cases e:j = i
            · subst e; simp
            · have e1:¬ (j / 2 = i / 2):=by lia
              have e2:¬ (j + 1 = i + 1):=by lia
              simp only [if_neg e1,if_neg e2]
          · have e2:¬ (j + 1 = i + 1):=by lia
            simp only [if_neg pj,if_neg e2]
      · rw [if_neg pi]
        cases j with
        | zero=>simp only [zfh,(lr _ _ _).2.2]; simp
        | succ j=>
          simp only [get_succ,(lr _ _ _).1,(lr _ _ _).2.1]
          by_cases pj:j % 2 = 0
          · have e2:¬ (j + 1 = i + 1):=by lia
            simp only [if_pos pj,if_neg e2]
          · simp only [if_neg pj,ih _ _ _ b]
            by_cases e:j = i
            · subst e; simp
            · have e1:¬ (j / 2 = i / 2):=by lia
              have e2:¬ (j + 1 = i + 1):=by lia
              simp only [if_neg e1,if_neg e2]
end T
structure St where
  base:Nat
  N:Nat
  H:T Bb
noncomputable def St.get (st:St) (n:Nat):Option Bb:=st.H.get n
noncomputable def Ee:Nat:=20
noncomputable def St.put (st:St) (n:Nat) (o:Bb):St:=⟨st.base,st.N,T.put o Ee st.H n⟩
noncomputable def St.new (st:St) (o:Bb):St:=⟨st.base,st.N + 1,T.put o Ee st.H st.N⟩
noncomputable def AT:List Str:=[.ofString "__init__",.ofString "above",.ofString "add",.ofString "add_lower",.ofString "add_upper",.ofString "all",.ofString "all_fitting",.ofString "answer",.ofString "append",.ofString "applied",.ofString "are_concrete",.ofString "below",.ofString "by_form",.ofString "chosen",.ofString "code",.ofString "copied",.ofString "decl",.ofString "declare",.ofString "decls",.ofString "end",.ofString "extend",.ofString "field_kinds",.ofString "fields",.ofString "fitting",.ofString "fuel",.ofString "get",.ofString "has_rest",.ofString "is_abstract",.ofString "is_asked",.ofString "is_concrete",.ofString "is_declared",.ofString "is_diagonal",.ofString "is_hidden",.ofString "is_live",.ofString "is_mutable",.ofString "is_one",.ofString "is_within",.ofString "join",.ofString "kinds",.ofString "later_ones",.ofString "live",.ofString "lookup",.ofString "lower",.ofString "lowers",.ofString "many",.ofString "may_be_called",.ofString "message",.ofString "methods",.ofString "name",.ofString "names",.ofString "nominal",.ofString "number",.ofString "numbers",.ofString "opened",.ofString "order",.ofString "params",.ofString "plain",.ofString "pop",.ofString "rows",.ofString "run",.ofString "settled",.ofString "side",.ofString "sig",.ofString "split",.ofString "spot",.ofString "step",.ofString "super",.ofString "super_of",.ofString "supers",.ofString "table",.ofString "table_for",.ofString "tables",.ofString "told",.ofString "tree",.ofString "under",.ofString "upper",.ofString "uppers",.ofString "whole",.ofString "with_lower",.ofString "with_upper",.ofString "world",.ofString "world_from",.ofString "world_to"]
noncomputable def ob {α β:Type} (x:Option α) (f:α→Option β):Option β:=Option.rec (motive:=fun _=>Option β) none f x
noncomputable def Bk {β:Type} (b:Bool) (x:Option β):Option β:=Bool.rec (motive:=fun _=>Option β) none x b
noncomputable def ifB {β:Type} (b:Bool) (x y:β):β:=Bool.rec (motive:=fun _=>β) y x b
inductive E2 {α:Type} (A B:α→Prop):Prop
  | mk (x:α) (a:A x) (b:B x):E2 A B
inductive E3 {α β:Type} (A B:α→β→Prop):Prop
  | mk (x:α) (y:β) (a:A x y) (b:B x y):E3 A B
inductive E4 {α β:Type} (A B C:α→β→Prop):Prop
  | mk (x:α) (y:β) (a:A x y) (b:B x y) (c:C x y):E4 A B C
theorem Bf {α β:Type} {x:Option α} {f:α→Option β} {b:β}:ob x f = some b ↔ E2 (fun a=>x = some a) (fun a=>f a = some b):=⟨fun h=>(by cases x with | none=>cases h | some a=>exact ⟨a,rfl,h⟩),fun ⟨a,e,h⟩=>(by subst e; exact h)⟩
theorem Ar {β:Type} {b:Bool} {x:Option β} {y:β}:Bk b x = some y ↔ b = true ∧ x = some y:=by cases b <;> simp [Bk]
noncomputable def zdr {β:Type} (d:D) (f:Bool→Option β):Option β:=D.rec (motive_1:=fun _=>Option β) (motive_2:=fun _=>PUnit) none (fun b=>f b) (fun _=>none) (fun _=>none) (fun _ _=>none) (fun _=>none) (fun _ _=>none) none ⟨⟩ (fun _ _ _ _=>⟨⟩) d
theorem Y2 {β:Type} {d:D} {f:Bool→Option β} {b:β}:zdr d f = some b ↔ E2 (fun x=>d = .bool x) (fun x=>f x = some b):=⟨fun h=>(by cases d with | bool x=>exact ⟨x,rfl,h⟩ | _=>cases h),fun ⟨x,e,h⟩=>by subst e; exact h⟩
noncomputable def Eh {β:Type} (d:D) (f:Int→Option β):Option β:=D.rec (motive_1:=fun _=>Option β) (motive_2:=fun _=>PUnit) none (fun _=>none) (fun i=>f i) (fun _=>none) (fun _ _=>none) (fun _=>none) (fun _ _=>none) none ⟨⟩ (fun _ _ _ _=>⟨⟩) d
theorem Bh {β:Type} {d:D} {f:Int→Option β} {b:β}:Eh d f = some b ↔ E2 (fun x=>d = .int x) (fun x=>f x = some b):=⟨fun h=>(by cases d with | int x=>exact ⟨x,rfl,h⟩ | _=>cases h),fun ⟨x,e,h⟩=>by subst e; exact h⟩
noncomputable def Wz {β:Type} (d:D) (f:List Nat→Option β):Option β:=D.rec (motive_1:=fun _=>Option β) (motive_2:=fun _=>PUnit) none (fun _=>none) (fun _=>none) (fun s=>f s) (fun _ _=>none) (fun _=>none) (fun _ _=>none) none ⟨⟩ (fun _ _ _ _=>⟨⟩) d
theorem Dk {β:Type} {d:D} {f:List Nat→Option β} {b:β}:Wz d f = some b ↔ E2 (fun x=>d = .str x) (fun x=>f x = some b):=⟨fun h=>(by cases d with | str x=>exact ⟨x,rfl,h⟩ | _=>cases h),fun ⟨x,e,h⟩=>by subst e; exact h⟩
noncomputable def zev {β:Type} (d:D) (f:List D→Option β):Option β:=D.rec (motive_1:=fun _=>Option β) (motive_2:=fun _=>PUnit) none (fun _=>none) (fun _=>none) (fun _=>none) (fun xs _=>f xs) (fun _=>none) (fun _ _=>none) none ⟨⟩ (fun _ _ _ _=>⟨⟩) d
theorem Vx {β:Type} {d:D} {f:List D→Option β} {b:β}:zev d f = some b ↔ E2 (fun x=>d = .tup x) (fun x=>f x = some b):=⟨fun h=>(by cases d with | tup x=>exact ⟨x,rfl,h⟩ | _=>cases h),fun ⟨x,e,h⟩=>by subst e; exact h⟩
noncomputable def Mb {β:Type} (d:D) (f:Nat→Option β):Option β:=D.rec (motive_1:=fun _=>Option β) (motive_2:=fun _=>PUnit) none (fun _=>none) (fun _=>none) (fun _=>none) (fun _ _=>none) (fun n=>f n) (fun _ _=>none) none ⟨⟩ (fun _ _ _ _=>⟨⟩) d
theorem Bt {β:Type} {d:D} {f:Nat→Option β} {b:β}:Mb d f = some b ↔ E2 (fun x=>d = .ref x) (fun x=>f x = some b):=⟨fun h=>(by cases d with | ref x=>exact ⟨x,rfl,h⟩ | _=>cases h),fun ⟨x,e,h⟩=>by subst e; exact h⟩
noncomputable def zax {β:Type} (d:D) (f:Nat→Nat→Option β):Option β:=D.rec (motive_1:=fun _=>Option β) (motive_2:=fun _=>PUnit) none (fun _=>none) (fun _=>none) (fun _=>none) (fun _ _=>none) (fun _=>none) (fun C n=>f C n) none ⟨⟩ (fun _ _ _ _=>⟨⟩) d
theorem Re {β:Type} {d:D} {f:Nat→Nat→Option β} {b:β}:zax d f = some b ↔ E3 (fun C n=>d = .obj C n) (fun C n=>f C n = some b):=⟨fun h=>(by cases d with | obj C n=>exact ⟨C,n,rfl,h⟩ | _=>cases h),fun ⟨C,n,e,h⟩=>by subst e; exact h⟩
noncomputable def Xb {β:Type} (d:D) (f:Option β):Option β:=D.rec (motive_1:=fun _=>Option β) (motive_2:=fun _=>PUnit) (f) (fun _=>none) (fun _=>none) (fun _=>none) (fun _ _=>none) (fun _=>none) (fun _ _=>none) none ⟨⟩ (fun _ _ _ _=>⟨⟩) d
theorem T0 {β:Type} {d:D} {f:Option β} {b:β}:Xb d f = some b ↔ d = .none ∧ f = some b:=⟨fun h=>(by cases d with | none=>exact ⟨rfl,h⟩ | _=>cases h),fun ⟨e,h⟩=>by subst e; exact h⟩
noncomputable def znX {β:Type} (o:Bb) (f:List D→Option β):Option β:=Bb.rec (motive:=fun _=>Option β) f (fun _=>none) (fun _=>none) (fun _=>none) o
theorem zcq {β:Type} {o:Bb} {f:List D→Option β} {b:β}:znX o f = some b ↔ E2 (fun x=>o = .list x) (fun x=>f x = some b):=⟨fun h=>(by cases o with | list x=>exact ⟨x,rfl,h⟩ | _=>cases h),fun ⟨x,e,h⟩=>by subst e; exact h⟩
noncomputable def Au {β:Type} (st:St) (n:Nat) (f:List D→Option β):Option β:=ob (T.get st.H n) fun o=>znX o f
theorem B0 {β:Type} {st:St} {n:Nat} {f:List D→Option β} {b:β}:Au st n f = some b ↔ E2 (fun x=>st.get n = some (.list x)) (fun x=>f x = some b):=
  ⟨fun h=>(by obtain ⟨o,a,h⟩:=Bf.mp h; obtain ⟨x,rfl,h⟩:=zcq.mp h; exact ⟨x,a,h⟩),fun ⟨x,a,h⟩=>Bf.mpr ⟨_,a,zcq.mpr ⟨x,rfl,h⟩⟩⟩
noncomputable def znL {β:Type} (o:Bb) (f:List (List Nat × D)→Option β):Option β:=Bb.rec (motive:=fun _=>Option β) (fun _=>none) f (fun _=>none) (fun _=>none) o
theorem zcH {β:Type} {o:Bb} {f:List (List Nat × D)→Option β} {b:β}:znL o f = some b ↔ E2 (fun x=>o = .dict x) (fun x=>f x = some b):=⟨fun h=>(by cases o with | dict x=>exact ⟨x,rfl,h⟩ | _=>cases h),fun ⟨x,e,h⟩=>by subst e; exact h⟩
noncomputable def Np {β:Type} (st:St) (n:Nat) (f:List (List Nat × D)→Option β):Option β:=ob (T.get st.H n) fun o=>znL o f
theorem Nr {β:Type} {st:St} {n:Nat} {f:List (List Nat × D)→Option β} {b:β}:Np st n f = some b ↔ E2 (fun x=>st.get n = some (.dict x)) (fun x=>f x = some b):=
  ⟨fun h=>(by obtain ⟨o,a,h⟩:=Bf.mp h; obtain ⟨x,rfl,h⟩:=zcH.mp h; exact ⟨x,a,h⟩),fun ⟨x,a,h⟩=>Bf.mpr ⟨_,a,zcH.mpr ⟨x,rfl,h⟩⟩⟩
noncomputable def oNs {β:Type} (o:Bb) (f:List (Nat × D)→Option β):Option β:=Bb.rec (motive:=fun _=>Option β) (fun _=>none) (fun _=>none) f (fun _=>none) o
theorem zfB {β:Type} {o:Bb} {f:List (Nat × D)→Option β} {b:β}:oNs o f = some b ↔ E2 (fun x=>o = .ns x) (fun x=>f x = some b):=⟨fun h=>(by cases o with | ns x=>exact ⟨x,rfl,h⟩ | _=>cases h),fun ⟨x,e,h⟩=>by subst e; exact h⟩
noncomputable def C9 {β:Type} (st:St) (n:Nat) (f:List (Nat × D)→Option β):Option β:=ob (T.get st.H n) fun o=>oNs o f
theorem O1 {β:Type} {st:St} {n:Nat} {f:List (Nat × D)→Option β} {b:β}:C9 st n f = some b ↔ E2 (fun x=>st.get n = some (.ns x)) (fun x=>f x = some b):=
  ⟨fun h=>(by obtain ⟨o,a,h⟩:=Bf.mp h; obtain ⟨x,rfl,h⟩:=zfB.mp h; exact ⟨x,a,h⟩),fun ⟨x,a,h⟩=>Bf.mpr ⟨_,a,zfB.mpr ⟨x,rfl,h⟩⟩⟩
noncomputable def zn5 {β:Type} (o:Bb) (f:Option D→Option β):Option β:=Bb.rec (motive:=fun _=>Option β) (fun _=>none) (fun _=>none) (fun _=>none) f o
theorem zcR {β:Type} {o:Bb} {f:Option D→Option β} {b:β}:zn5 o f = some b ↔ E2 (fun x=>o = .cell x) (fun x=>f x = some b):=⟨fun h=>(by cases o with | cell x=>exact ⟨x,rfl,h⟩ | _=>cases h),fun ⟨x,e,h⟩=>by subst e; exact h⟩
noncomputable def C1 {β:Type} (st:St) (n:Nat) (f:Option D→Option β):Option β:=ob (T.get st.H n) fun o=>zn5 o f
theorem Ym {β:Type} {st:St} {n:Nat} {f:Option D→Option β} {b:β}:C1 st n f = some b ↔ E2 (fun x=>st.get n = some (.cell x)) (fun x=>f x = some b):=
  ⟨fun h=>(by obtain ⟨o,a,h⟩:=Bf.mp h; obtain ⟨x,rfl,h⟩:=zcR.mp h; exact ⟨x,a,h⟩),fun ⟨x,a,h⟩=>Bf.mpr ⟨_,a,zcR.mpr ⟨x,rfl,h⟩⟩⟩
noncomputable def D0 {α:Type} (l:List α) (i:Nat):Option α:=List.rec (motive:=fun _=>Nat→Option α) (fun _=>none) (fun a _ ih i=>Nat.rec (motive:=fun _=>Option α) (some a) (fun j _=>ih j) i) l i
noncomputable def Bi {α:Type} (l:List (Option α)) (i:Nat):Option α:=List.rec (motive:=fun _=>Nat→Option α) (fun _=>none) (fun a _ ih i=>Nat.rec (motive:=fun _=>Option α) a (fun j _=>ih j) i) l i
noncomputable def L9 {α:Type} (v:α) (l:List α) (i:Nat):List α:=List.rec (motive:=fun _=>Nat→List α) (fun _=>[]) (fun a r ih i=>Nat.rec (motive:=fun _=>List α) (v :: r) (fun j _=>a :: ih j) i) l i
noncomputable def len {α:Type} (l:List α):Nat:=List.rec (motive:=fun _=>Nat) 0 (fun _ _ ih=>Nat.succ ih) l
noncomputable def app {α:Type} (x y:List α):List α:=List.rec (motive:=fun _=>List α) y (fun a _ ih=>a :: ih) x
noncomputable def zab {α:Type} (x y:List α):List α:=List.rec (motive:=fun _=>List α→List α) (fun y=>y) (fun a _ ih y=>ih (a :: y)) x y
noncomputable def zha {α:Type} (n:Nat) (l:List α):List α:=List.rec (motive:=fun _=>Nat→List α) (fun _=>[]) (fun a _ ih n=>Nat.rec (motive:=fun _=>List α) [] (fun m _=>a :: ih m) n) l n
noncomputable def zdg {α:Type} (n:Nat) (l:List α):List α:=List.rec (motive:=fun _=>Nat→List α) (fun _=>[]) (fun a r ih n=>Nat.rec (motive:=fun _=>List α) (a :: r) (fun m _=>ih m) n) l n
noncomputable def ziw {α β:Type} (f:α→β) (l:List α):List β:=List.rec (motive:=fun _=>List β) [] (fun a _ ih=>f a :: ih) l
noncomputable def allB {α:Type} (f:α→Bool) (l:List α):Bool:=List.rec (motive:=fun _=>Bool) true (fun a _ ih=>ifB (f a) ih false) l
noncomputable def znY {α β:Type} (l:List α) (f:List α→α→Option β):Option β:=
  List.rec (motive:=fun _=>(List α→α→Option β)→Option β) (fun _=>none) (fun a r ih f=>List.rec (motive:=fun _=>Option β) (f [] a) (fun _ _ _=>ih fun xs x=>f (a :: xs) x) r) l f
noncomputable def lk {α:Type} (l:List (Nat × α)) (i:Nat):Option α:=List.rec (motive:=fun _=>Option α) none (fun p _ ih=>ifB (Nat.beq p.1 i) (some p.2) ih) l
noncomputable def Gr (i:Nat) (v:D) (l:List (Nat × D)):List (Nat × D):=List.rec (motive:=fun _=>List (Nat × D)) [(i,v)] (fun p r ih=>ifB (Nat.beq p.1 i) ((i,v) :: r) (p :: ih)) l
noncomputable def Eu (x y:List Nat):Bool:=
  List.rec (motive:=fun _=>List Nat→Bool) (fun y=>List.rec (motive:=fun _=>Bool) true (fun _ _ _=>false) y) (fun a _ ih y=>List.rec (motive:=fun _=>Bool) false (fun b r _=>ifB (Nat.beq a b) (ih r) false) y) x y
noncomputable def Yn (x y:List Nat):Bool:=
  List.rec (motive:=fun _=>List Nat→Bool) (fun y=>List.rec (motive:=fun _=>Bool) false (fun _ _ _=>true) y) (fun a _ ih y=>List.rec (motive:=fun _=>Bool) false (fun b r _=>ifB (Nat.beq a b) (ih r) (Nat.blt a b)) y) x y
noncomputable def lkS (l:List (List Nat × D)) (i:List Nat):Option D:=List.rec (motive:=fun _=>Option D) none (fun p _ ih=>ifB (Eu p.1 i) (some p.2) ih) l
noncomputable def zaz (i:List Nat) (v:D) (l:List (List Nat × D)):List (List Nat × D):=List.rec (motive:=fun _=>List (List Nat × D)) [(i,v)] (fun p r ih=>ifB (Eu p.1 i) ((p.1,v) :: r) (p :: ih)) l
noncomputable def X9 (a b:Int):Bool:=Int.rec (motive:=fun _=>Bool) (fun m=>Int.rec (motive:=fun _=>Bool) (fun n=>Nat.beq m n) (fun _=>false) b) (fun m=>Int.rec (motive:=fun _=>Bool) (fun _=>false) (fun n=>Nat.beq m n) b) a
noncomputable def D4 (a b:Int):Bool:=Int.rec (motive:=fun _=>Bool) (fun m=>Int.rec (motive:=fun _=>Bool) (fun n=>Nat.blt m n) (fun _=>false) b) (fun m=>Int.rec (motive:=fun _=>Bool) (fun _=>true) (fun n=>Nat.blt n m) b) a
noncomputable def Di (a b:Bool):Bool:=ifB a b (ifB b false true)
noncomputable def b2i (b:Bool):Int:=ifB b (.ofNat 1) (.ofNat 0)
noncomputable def Rv (b:Bool):Bool:=ifB b false true
noncomputable def zbo {β:Type} (i:Int) (f:Nat→Option β):Option β:=Int.rec (motive:=fun _=>Option β) f (fun _=>none) i
theorem O0 {β:Type} {i:Int} {f:Nat→Option β} {b:β}:zbo i f = some b ↔ E2 (fun n=>i = .ofNat n) (fun n=>f n = some b):=⟨fun h=>(by cases i with | ofNat n=>exact ⟨n,rfl,h⟩ | negSucc n=>cases h),fun ⟨n,e,h⟩=>by subst e; exact h⟩
abbrev Ans:=Option (D × St)
noncomputable def upd {β:Type} (st:St) (n:Nat) (o:Bb) (k:St→Option β):Option β:=St.rec (motive:=fun _=>Option β) (fun b N H=>ifB (Nat.blt n b) none (k ⟨b,N,T.put o Ee H n⟩)) st
noncomputable def Dg {β:Type} (st:St) (o:Bb) (k:Nat→St→Option β):Option β:=St.rec (motive:=fun _=>Option β) (fun b N H=>Bk (Nat.blt N 1000000) (k N ⟨b,N + 1,T.put o Ee H N⟩)) st
theorem ziy {β:Type} (st:St) (n:Nat) (o:Bb) (k:St→Option β):upd st n o k = ifB (Nat.blt n st.base) none (k (st.put n o)):=rfl
theorem zfl {β:Type} (st:St) (o:Bb) (k:Nat→St→Option β):Dg st o k = Bk (Nat.blt st.N 1000000) (k st.N (st.new o)):=rfl
noncomputable def isD (st:St) (n:Nat) (d:D):Bool:=
  Nat.rec (motive:=fun _=>D→Bool) (fun _=>false) (fun _ ih d=>D.rec (motive_1:=fun _=>Bool) (motive_2:=fun _=>PUnit) true (fun _=>true) (fun _=>true) (fun _=>true) (fun xs _=>allB ih xs)
    (fun i=>Option.rec (motive:=fun _=>Bool) false (fun o=>Bb.rec (motive:=fun _=>Bool) (fun xs=>allB ih xs) (fun _=>false) (fun _=>false) (fun _=>false) o) (T.get st.H i)) (fun _ _=>false) true ⟨⟩ (fun _ _ _ _=>⟨⟩) d) n d
noncomputable def R7 (f:D→D→Option Bool) (x y:List D):Option Bool:=
  List.rec (motive:=fun _=>List D→Option Bool) (fun y=>List.rec (motive:=fun _=>Option Bool) (some true) (fun _ _ _=>some false) y) (fun a _ ih y=>List.rec (motive:=fun _=>Option Bool) (some false) (fun b r _=>ob (f a b) fun q=>ifB q (ih r) (some false)) y) x y
noncomputable def eqS (st:St) (n:Nat) (a b:D):Option Bool:=
  Nat.rec (motive:=fun _=>D→D→Option Bool) (fun _ _=>none) (fun _ ih a b=>D.rec (motive_1:=fun _=>Option Bool) (motive_2:=fun _=>PUnit)
    (D.rec (motive_1:=fun _=>Option Bool) (motive_2:=fun _=>PUnit) (some true) (fun _=>some false) (fun _=>some false) (fun _=>some false) (fun _ _=>some false) (fun _=>some false) (fun _ _=>none) (some false) ⟨⟩ (fun _ _ _ _=>⟨⟩) b)
    (fun x=>D.rec (motive_1:=fun _=>Option Bool) (motive_2:=fun _=>PUnit) (some false) (fun y=>some (Di x y)) (fun j=>some (X9 (b2i x) j)) (fun _=>some false) (fun _ _=>some false) (fun _=>some false) (fun _ _=>none) (some false) ⟨⟩ (fun _ _ _ _=>⟨⟩) b)
    (fun i=>D.rec (motive_1:=fun _=>Option Bool) (motive_2:=fun _=>PUnit) (some false) (fun y=>some (X9 i (b2i y))) (fun j=>some (X9 i j)) (fun _=>some false) (fun _ _=>some false) (fun _=>some false) (fun _ _=>none) (some false) ⟨⟩ (fun _ _ _ _=>⟨⟩) b)
    (fun x=>D.rec (motive_1:=fun _=>Option Bool) (motive_2:=fun _=>PUnit) (some false) (fun _=>some false) (fun _=>some false) (fun y=>some (Eu x y)) (fun _ _=>some false) (fun _=>some false) (fun _ _=>none) none ⟨⟩ (fun _ _ _ _=>⟨⟩) b)
    (fun xs _=>D.rec (motive_1:=fun _=>Option Bool) (motive_2:=fun _=>PUnit) (some false) (fun _=>some false) (fun _=>some false) (fun _=>some false) (fun ys _=>R7 ih xs ys) (fun _=>some false) (fun _ _=>none) (some false) ⟨⟩ (fun _ _ _ _=>⟨⟩) b)
    (fun i=>D.rec (motive_1:=fun _=>Option Bool) (motive_2:=fun _=>PUnit) (some false) (fun _=>some false) (fun _=>some false) (fun _=>some false) (fun _ _=>some false) (fun j=>Au st i fun xs=>Au st j fun ys=>R7 ih xs ys) (fun _ _=>none) (some false) ⟨⟩ (fun _ _ _ _=>⟨⟩) b)
    (fun _ _=>none)
    (D.rec (motive_1:=fun _=>Option Bool) (motive_2:=fun _=>PUnit) (some false) (fun _=>some false) (fun _=>some false) (fun _=>none) (fun _ _=>some false) (fun _=>some false) (fun _ _=>none) (some true) ⟨⟩ (fun _ _ _ _=>⟨⟩) b)
    ⟨⟩ (fun _ _ _ _=>⟨⟩) a) n a b
noncomputable def Nq:Nat:=14
noncomputable def Cy (st:St) (a b:D):Option Bool:=Bk (isD st Nq a) (Bk (isD st Nq b) (eqS st Nq a b))
noncomputable def eqD (st:St) (a b:D):Option Bool:=D.rec (motive_1:=fun _=>Option Bool) (motive_2:=fun _=>PUnit) (Cy st a b) (fun _=>Cy st a b) (fun _=>Cy st a b) (fun _=>Cy st a b) (fun _ _=>Cy st a b)
  (fun i=>Mb b fun j=>Au st i fun xs=>Au st j fun ys=>List.rec (motive:=fun _=>Option Bool) (List.rec (motive:=fun _=>Option Bool) (Cy st a b) (fun _ _ _=>some false) xs) (fun _ _ _=>Cy st a b) ys)
  (fun _ _=>none) (Cy st a b) ⟨⟩ (fun _ _ _ _=>⟨⟩) a
noncomputable def zhj (f:D→D→Option Bool) (x:D) (l:List D):Option Bool:=List.rec (motive:=fun _=>Option Bool) (some false) (fun y _ ih=>ob (f y x) fun q=>ifB q (some true) ih) l
noncomputable def Dq {β:Type} (st:St) (d:D) (k:List D→Option β):Option β:=D.rec (motive_1:=fun _=>Option β) (motive_2:=fun _=>PUnit) none (fun _=>none) (fun _=>none) (fun _=>none) (fun xs _=>k xs) (fun i=>Au st i k)
  (fun _ _=>none) none ⟨⟩ (fun _ _ _ _=>⟨⟩) d
noncomputable def zf7 (es:List (List Nat × D)) (x:D):Option Bool:=Wz x fun s=>Option.rec (motive:=fun _=>Option Bool) (some false) (fun _=>some true) (lkS es s)
noncomputable def W2 (st:St) (x c:D) (xs:List D):Option Bool:=Bk (isD st Nq c) (Bk (isD st Nq x) (zhj (eqS st Nq) x xs))
noncomputable def inD (st:St) (x c:D):Option Bool:=D.rec (motive_1:=fun _=>Option Bool) (motive_2:=fun _=>PUnit) none (fun _=>none) (fun _=>none) (fun _=>none) (fun xs _=>W2 st x c xs)
  (fun i=>ob (T.get st.H i) fun o=>Bb.rec (motive:=fun _=>Option Bool) (fun xs=>W2 st x c xs) (fun es=>zf7 es x) (fun _=>none) (fun _=>none) o)
  (fun _ _=>none) none ⟨⟩ (fun _ _ _ _=>⟨⟩) c
noncomputable def cEq (st:St) (a b:D):Option Bool:=eqD st a b
noncomputable def cNe (st:St) (a b:D):Option Bool:=ob (eqD st a b) fun r=>some (Rv r)
noncomputable def cLt (st:St) (a b:D):Option Bool:=Eh a fun i=>Eh b fun j=>some (D4 i j)
noncomputable def cGt (st:St) (a b:D):Option Bool:=Eh a fun i=>Eh b fun j=>some (D4 j i)
noncomputable def cLe (st:St) (a b:D):Option Bool:=Eh a fun i=>Eh b fun j=>some (Rv (D4 j i))
noncomputable def cGe (st:St) (a b:D):Option Bool:=Eh a fun i=>Eh b fun j=>some (Rv (D4 i j))
noncomputable def Pv (d:D):Bool:=D.rec (motive_1:=fun _=>Bool) (motive_2:=fun _=>PUnit) true (fun _=>false) (fun _=>false) (fun _=>false) (fun _ _=>false) (fun _=>false) (fun _ _=>false) false ⟨⟩ (fun _ _ _ _=>⟨⟩) d
noncomputable def cIs (st:St) (a b:D):Option Bool:=Xb b (some (Pv a))
noncomputable def zcL (st:St) (a b:D):Option Bool:=Xb b (some (Rv (Pv a)))
noncomputable def cIn (st:St) (a b:D):Option Bool:=inD st a b
noncomputable def Qd (st:St) (a b:D):Option Bool:=ob (inD st a b) fun r=>some (Rv r)
abbrev Op2:=St→D→D→(D→St→Ans)→Ans
noncomputable def fit {α β:Type} (xs:List α) (x:Option β):Option β:=Bk (Nat.blt (len xs) 100000) x
noncomputable def newList (st:St) (xs:List D) (k:D→St→Ans):Ans:=fit xs (Dg st (.list xs) fun n st=>k (.ref n) st)
noncomputable def Eg:Op2:=fun st a b k=>D.rec (motive_1:=fun _=>Ans) (motive_2:=fun _=>PUnit) none (fun _=>none) (fun i=>Eh b fun j=>k (.int (i + j)) st) (fun x=>Wz b fun y=>fit (app x y) (k (.str (app x y)) st)) (fun x _=>zev b fun y=>fit (app x y) (k (.tup (app x y)) st))
  (fun i=>Mb b fun j=>Au st i fun x=>Au st j fun y=>newList st (app x y) k) (fun _ _=>none) none ⟨⟩ (fun _ _ _ _=>⟨⟩) a
noncomputable def zti:Op2:=fun st a b k=>Eh a fun i=>Eh b fun j=>k (.int (i - j)) st
noncomputable def zer:Op2:=fun st a b k=>Eh a fun i=>Eh b fun j=>Bk (Nat.blt i.natAbs 4294967296) (Bk (Nat.blt j.natAbs 4294967296) (k (.int (i * j)) st))
noncomputable def zds:Op2:=fun st a b k=>Eh a fun i=>Eh b fun j=>Bk (D4 0 j) (Bk (D4 j 1000) (k (.int (Int.fdiv i j)) st))
noncomputable def Zy:Op2:=fun st a b k=>Eh a fun i=>Eh b fun j=>Bk (D4 0 j) (k (.int (Int.fmod i j)) st)
noncomputable def znl:Op2:=fun st a b k=>Eh a fun i=>Eh b fun j=>zbo j fun n=>Bk (Nat.blt n 20) (Bk (Nat.blt i.natAbs 100) (k (.int (i ^ n)) st))
noncomputable def zae (n:Nat) (i:Int):Option Nat:=Bk (Nat.blt n 1000000) <| Int.rec (motive:=fun _=>Option Nat) (fun i=>Bk (Nat.blt i n) (some i)) (fun i=>Bk (Nat.blt i n) (some (n - (i + 1)))) i
noncomputable def zlk (xs:List D) (y:D):Option (List D):=some (zab xs [])
noncomputable def zj3 (xs:List D) (y:D):Option (List D):=Eh y fun i=>zbo i fun n=>some (zha n xs)
noncomputable def zsf (xs:List D) (y:D):Option (List D):=Eh y fun i=>zbo i fun n=>some (zdg n xs)
noncomputable def ztI (xs:List D) (y:D):Option (List D):=some (zab (zdg 1 xs) [])
noncomputable def K4 (c:List D→D→Option (List D)):Op2:=fun st x y k=>D.rec (motive_1:=fun _=>Ans) (motive_2:=fun _=>PUnit) none (fun _=>none) (fun _=>none) (fun _=>none) (fun _ _=>none)
  (fun i=>Au st i fun xs=>fit xs (ob (c xs y) fun r=>newList st r k)) (fun _ _=>none) none ⟨⟩ (fun _ _ _ _=>⟨⟩) x
noncomputable def A6:Op2:=fun st x y k=>D.rec (motive_1:=fun _=>Ans) (motive_2:=fun _=>PUnit) none (fun _=>none) (fun i=>Dq st x fun xs=>ob (zae (len xs) i) fun j=>ob (D0 xs j) fun d=>k d st)
  (fun s=>Mb x fun n=>Np st n fun es=>ob (lkS es s) fun d=>k d st) (fun _ _=>none) (fun _=>none) (fun _ _=>none) none ⟨⟩ (fun _ _ _ _=>⟨⟩) y
abbrev Op1:=St→D→(D→St→Ans)→Ans
noncomputable def zqQ (m:Int) (l:List D):Option Int:=List.rec (motive:=fun _=>Int→Option Int) (fun m=>some m) (fun d _ ih m=>Eh d fun i=>ih (m + i)) l m
noncomputable def zf6 {β:Type} (d:D) (f:D→D→Option β):Option β:=zev d fun xs=>List.rec (motive:=fun _=>Option β) none (fun a r _=>List.rec (motive:=fun _=>Option β) none (fun b r' _=>List.rec (motive:=fun _=>Option β) (f a b) (fun _ _ _=>none) r') r) xs
noncomputable def zcT (l:List D) (acc:List (List Nat × D)):Option (List (List Nat × D)):=List.rec (motive:=fun _=>List (List Nat × D)→Option (List (List Nat × D))) (fun acc=>some acc) (fun d _ ih acc=>zf6 d fun a b=>Wz a fun s=>ih (zaz s b acc)) l acc
noncomputable def No:Op1:=fun st x k=>D.rec (motive_1:=fun _=>Ans) (motive_2:=fun _=>PUnit) none (fun _=>none) (fun _=>none) (fun _=>none) (fun xs _=>fit xs (k (.int (.ofNat (len xs))) st))
  (fun i=>ob (T.get st.H i) fun o=>Bb.rec (motive:=fun _=>Ans) (fun xs=>fit xs (k (.int (.ofNat (len xs))) st)) (fun es=>fit es (k (.int (.ofNat (len es))) st)) (fun _=>none) (fun _=>none) o) (fun _ _=>none) none ⟨⟩ (fun _ _ _ _=>⟨⟩) x
noncomputable def za6:Op1:=fun st x k=>Dq st x fun xs=>newList st xs k
noncomputable def zcb:Op1:=fun st x k=>Dq st x fun xs=>fit xs (k (.tup xs) st)
noncomputable def zg1:Op1:=fun st x k=>Mb x fun n=>ob (T.get st.H n) fun o=>Bb.rec (motive:=fun _=>Ans) (fun xs=>fit xs (ob (zcT xs []) fun es=>Dg st (.dict es) fun m st=>k (.ref m) st)) (fun es=>fit es (Dg st (.dict es) fun m st=>k (.ref m) st)) (fun _=>none) (fun _=>none) o
noncomputable def zgV:Op1:=fun st x k=>Mb x fun n=>Np st n fun es=>List.rec (motive:=fun _=>Ans) (newList st [] k) (fun p r _=>List.rec (motive:=fun _=>Ans) (newList st [.str p.1] k) (fun q r' _=>List.rec (motive:=fun _=>Ans)
  (ifB (Yn q.1 p.1) (newList st [.str q.1,.str p.1] k) (Bk (Yn p.1 q.1) (newList st [.str p.1,.str q.1] k))) (fun _ _ _=>none) r') r) es
noncomputable def zud:Op1:=fun st x k=>Mb x fun n=>Au st n fun xs=>List.rec (motive:=fun _=>Ans) none (fun d r _=>List.rec (motive:=fun _=>Ans) none (fun d' r' _=>List.rec (motive:=fun _=>Ans) (Eh d fun i=>Eh d' fun j=>Bk (Rv (D4 i j)) (k (.int i) st)) (fun _ _ _=>none) r') r) xs
noncomputable def zst:Op1:=fun st x k=>Mb x fun n=>Au st n fun xs=>ob (zqQ 0 xs) fun m=>k (.int m) st
noncomputable def zsy:Op1:=fun st x k=>Eh x fun i=>zbo i fun n=>Bk (Nat.blt n 10) (k (.str [48 + n]) st)
noncomputable def zdL:Op1:=fun st x k=>D.rec (motive_1:=fun _=>Ans) (motive_2:=fun _=>PUnit) none (fun b=>k (.int (b2i b)) st) (fun i=>k (.int i) st) (fun _=>none) (fun _ _=>none) (fun _=>none) (fun _ _=>none) none ⟨⟩ (fun _ _ _ _=>⟨⟩) x
noncomputable def zkD:Op1:=fun st x k=>Eh x fun i=>k (.int (.ofNat i.natAbs)) st
noncomputable def zsM:Op2:=fun st a b k=>Eh a fun i=>Eh b fun j=>k (.int (ifB (D4 j i) j i)) st
noncomputable def Fi:Op2:=fun st x v k=>Mb x fun n=>Au st n fun xs=>fit xs (upd st n (.list (app xs [v])) fun st=>k .none st)
noncomputable def zb2:Op2:=fun st x v k=>Mb x fun n=>Au st n fun xs=>Mb v fun m=>Au st m fun ys=>fit (app xs ys) (upd st n (.list (app xs ys)) fun st=>k .none st)
noncomputable def zhP:Op1:=fun st x k=>Mb x fun n=>Au st n fun xs=>fit xs (znY xs fun r d=>upd st n (.list r) fun st=>k d st)
noncomputable def zkU:Op2:=fun st x v k=>Wz x fun _=>Mb v fun n=>Au st n fun xs=>List.rec (motive:=fun _=>Ans) (k (.str []) st) (fun _ _ _=>none) xs
noncomputable def zfZ:Op2:=fun st x v k=>Wz x fun s=>Wz v fun c=>Bk (Eu s [83,46,49]) (Bk (Eu c [33]) (newList st [.str [83,46,49]] k))
noncomputable def zpO (st:St) (x a v:D) (k:D→St→Ans):Ans:=Mb x fun n=>Np st n fun es=>Wz a fun s=>Option.rec (motive:=fun _=>Ans) (k v st) (fun r=>k r st) (lkS es s)
structure Ax where
  vals:List (Option D)
  cells:List (Nat × Nat)
abbrev Cal:=Nat→List D→St→(D→St→Ans)→Ans
abbrev Sm (α:Type):=Cal→Ax→St→(α→St→Ans)→Ans
inductive It where
  | of (d:D)
  | range (n:Nat)
  | zip
noncomputable def nth (st:St) (it:It) (i:Nat) (k0:Ans) (k:D→Ans):Ans:=It.rec (motive:=fun _=>Ans) (fun d=>Dq st d fun xs=>Option.rec (motive:=fun _=>Ans) k0 k (D0 xs i)) (fun n=>ifB (Nat.blt i n) (k (.int (.ofNat i))) k0)
  k0 it
noncomputable def A3 (d:D):Sm D:=fun c e st k=>k d st
noncomputable def A2 (i:Nat):Sm D:=fun c e st k=>ob (Bi e.vals i) fun d=>k d st
noncomputable def Ab (i:Nat):Sm D:=fun c e st k=>ob (lk e.cells i) fun j=>C1 st j fun v=>ob v fun d=>k d st
noncomputable def A4:Sm (List D):=fun c e st k=>k [] st
noncomputable def A0 (x:Sm D) (xs:Sm (List D)):Sm (List D):=fun c e st k=>x c e st fun d st=>xs c e st fun ds st=>k (d :: ds) st
noncomputable def B6 (xs:Sm (List D)):Sm D:=fun c e st k=>xs c e st fun ds st=>k (.tup ds) st
noncomputable def Al (xs:Sm (List D)):Sm D:=fun c e st k=>xs c e st fun ds st=>Dg st (.list ds) fun n st=>k (.ref n) st
noncomputable def Ah (a:Nat) (x:Sm D):Sm D:=fun c e st k=>x c e st fun d st=>zax d fun _ n=>C9 st n fun es=>ob (lk es a) fun r=>k r st
noncomputable def Mh (C a:Nat) (x:Sm D):Sm D:=fun c e st k=>x c e st fun d st=>zax d fun C' n=>Bk (Nat.beq C' C) (C9 st n fun es=>ob (lk es a) fun r=>k r st)
noncomputable def x1 (f:Op1) (x:Sm D):Sm D:=fun c e st k=>x c e st fun a st=>f st a k
noncomputable def x2 (f:Op2) (x y:Sm D):Sm D:=fun c e st k=>x c e st fun a st=>y c e st fun b st=>f st a b k
noncomputable def Sw (f:St→D→D→Option Bool) (x y:Sm D):Sm D:=fun c e st k=>x c e st fun a st=>y c e st fun b st=>ob (f st a b) fun r=>k (.bool r) st
noncomputable def Ao (f:St→D→D→Option Bool) (x y:Sm D):Sm Bool:=fun c e st k=>x c e st fun a st=>y c e st fun b st=>ob (f st a b) fun r=>k r st
noncomputable def T3 (x:Sm D):Sm Bool:=fun c e st k=>x c e st fun a st=>zdr a fun b=>k b st
noncomputable def zi2 (x:Sm Bool):Sm Bool:=fun c e st k=>x c e st fun b st=>k (Rv b) st
noncomputable def Bp (b:Bool):Sm Bool:=fun c e st k=>k b st
noncomputable def B3 (isAnd:Bool) (x xs:Sm Bool):Sm Bool:=fun c e st k=>x c e st fun b st=>ifB (Di b isAnd) (xs c e st k) (k b st)
noncomputable def zfo (isAnd:Bool) (x xs:Sm D):Sm D:=fun c e st k=>x c e st fun d st=>zdr d fun b=>ifB (Di b isAnd) (xs c e st k) (k (.bool b) st)
noncomputable def zrD (x:Sm D):Sm D:=fun c e st k=>x c e st fun d st=>zdr d fun b=>k (.bool (Rv b)) st
noncomputable def Hh (t:Sm Bool) (a b:Sm D):Sm D:=fun c e st k=>t c e st fun r st=>ifB r (a c e st k) (b c e st k)
noncomputable def Am (f:Nat) (xs:Sm (List D)):Sm D:=fun c e st k=>xs c e st fun ds st=>c f ds st k
noncomputable def Ho (C f:Nat) (xs:Sm (List D)):Sm D:=fun c e st k=>xs c e st fun ds st=>Dg st (.ns []) fun n st=>c f (.obj C n :: ds) st fun r st=>Xb r (k (.obj C n) st)
noncomputable def N6 (st:St) (d:D) (x:Ans):Ans:=Mb d fun n=>Au st n fun _=>x
noncomputable def zhi (st:St) (d:D) (x:Ans):Ans:=Mb d fun n=>Np st n fun _=>x
noncomputable def zle (st:St) (d:D) (x:Ans):Ans:=Wz d fun _=>x
noncomputable def xM2 (g:St→D→Ans→Ans) (f:Op2) (x y:Sm D):Sm D:=fun c e st k=>x c e st fun a st=>g st a (y c e st fun b st=>f st a b k)
noncomputable def xM3 (g:St→D→Ans→Ans) (f:St→D→D→D→(D→St→Ans)→Ans) (x y z:Sm D):Sm D:=fun c e st k=>x c e st fun a st=>g st a (y c e st fun b st=>z c e st fun d st=>f st a b d k)
structure Cl where
  ms:List (Nat × Nat)
noncomputable def Az (CLS:List Cl) (a:Nat) (x:Sm D) (xs:Sm (List D)):Sm D:=fun c e st k=>x c e st fun o st=>zax o fun C n=>C9 st n fun es=>
  Option.rec (motive:=fun _=>Ans) (ob (D0 CLS C) fun cl=>ob (lk cl.ms a) fun f=>xs c e st fun ds st=>c f (o :: ds) st k) (fun _=>none) (lk es a)
noncomputable def zjf (f:Nat) (x:Sm D):Sm D:=fun c e st k=>x c e st fun d st=>Mb d fun n=>Au st n fun xs=>List.rec (motive:=fun _=>Ans) none (fun a r _=>List.rec (motive:=fun _=>Ans) none (fun b r' _=>List.rec (motive:=fun _=>Ans)
  (c f [a] st fun ka st=>Wz ka fun sa=>c f [b] st fun kb st=>Wz kb fun sb=>ifB (Yn sb sa) (newList st [b,a] k) (Bk (Yn sa sb) (newList st [a,b] k))) (fun _ _ _=>none) r') r) xs
noncomputable def zgn:Sm (List (List Nat × D)):=fun c e st k=>k [] st
noncomputable def zkQ (x y:Sm D) (r:Sm (List (List Nat × D))):Sm (List (List Nat × D)):=fun c e st k=>x c e st fun a st=>y c e st fun b st=>Wz a fun s=>r c e st fun l st=>k ((s,b) :: l) st
noncomputable def zc7 (x:Sm (List (List Nat × D))):Sm D:=fun c e st k=>x c e st fun l st=>Dg st (.dict l) fun n st=>k (.ref n) st
noncomputable def iOf (x:Sm D):Sm It:=fun c e st k=>x c e st fun d st=>Dq st d fun _=>k (.of d) st
noncomputable def Pi (x:Sm D):Sm It:=fun c e st k=>x c e st fun d st=>Eh d fun i=>zbo i fun n=>Bk (Nat.blt n 100000) (k (.range n) st)
noncomputable def zua (x y:Sm D):Sm It:=fun c e st k=>x c e st fun a st=>y c e st fun b st=>Mb a fun n=>Au st n fun xs=>List.rec (motive:=fun _=>Ans) (zev b fun _=>k .zip st) (fun _ _ _=>none) xs
abbrev Tg:=Cal→Ax→D→St→(Ax→St→Ans)→Ans
noncomputable def A8 (i:Nat):Tg:=fun c e d st k=>k ⟨L9 (some d) e.vals i,e.cells⟩ st
noncomputable def Ck (i:Nat):Tg:=fun c e d st k=>ob (lk e.cells i) fun j=>C1 st j fun _=>upd st j (.cell (some d)) fun st=>k e st
noncomputable def Bj (a:Nat) (x:Sm D):Tg:=fun c e d st k=>x c e st fun o st=>zax o fun _ n=>C9 st n fun es=>fit es (upd st n (.ns (Gr a d es)) fun st=>k e st)
noncomputable def Si (C a:Nat) (x:Sm D):Tg:=fun c e d st k=>x c e st fun o st=>zax o fun C' n=>Bk (Nat.beq C' C) (C9 st n fun es=>fit es (upd st n (.ns (Gr a d es)) fun st=>k e st))
noncomputable def setItem (st:St) (o i d:D) (k:St→Ans):Ans:=Mb o fun n=>ob (T.get st.H n) fun b=>Bb.rec (motive:=fun _=>Ans)
  (fun xs=>Eh i fun i=>zbo i fun j=>fit xs (Bk (Nat.blt j (len xs)) (upd st n (.list (L9 d xs j)) k))) (fun es=>Wz i fun s=>fit es (upd st n (.dict (zaz s d es)) k)) (fun _=>none) (fun _=>none) b
noncomputable def R0 (x y:Sm D):Tg:=fun c e d st k=>x c e st fun o st=>y c e st fun i st=>setItem st o i d fun st=>k e st
abbrev Tgs:=Cal→Ax→List D→St→(Ax→St→Ans)→Ans
noncomputable def Dz:Tgs:=fun c e ds st k=>List.rec (motive:=fun _=>Ans) (k e st) (fun _ _ _=>none) ds
noncomputable def B5 (t:Tg) (ts:Tgs):Tgs:=fun c e ds st k=>List.rec (motive:=fun _=>Ans) none (fun d r _=>t c e d st fun e st=>ts c e r st k) ds
noncomputable def Nd (ts:Tgs):Tg:=fun c e d st k=>zev d fun ds=>ts c e ds st k
noncomputable def LF:Nat:=100000
abbrev Cb:=Cal→Ax→Nat→St→(Ax→St→Ans)→Ans
noncomputable def Bl (t:Tg) (ifs:Sm Bool) (body:Cb) (it:It):Cb:=fun c e acc st k=>
  Nat.rec (motive:=fun _=>Nat→Ax→St→Ans) (fun _ _ _=>none) (fun _ ih i e st=>nth st it i (k e st) fun d=>t c e d st fun e st=>ifs c e st fun ok st=>ifB ok (body c e acc st fun e st=>ih (Nat.succ i) e st) (ih (Nat.succ i) e st)) LF 0 e st
noncomputable def Bz (x:Sm D):Cb:=fun c e acc st k=>x c e st fun d st=>Au st acc fun xs=>fit xs (upd st acc (.list (app xs [d])) fun st=>k e st)
noncomputable def zdU (i:Sm It) (l:It→Cb):Cb:=fun c e acc st k=>i c e st fun it st=>l it c e acc st k
noncomputable def nones {α:Type} (n:Nat):List (Option α):=Nat.rec (motive:=fun _=>List (Option α)) [] (fun _ ih=>none :: ih) n
noncomputable def Ox (cells:List (Nat × Nat)) (cs:List (Nat × Nat)) (k:List (Nat × Nat)→Ans):Ans:=
  List.rec (motive:=fun _=>(List (Nat × Nat)→Ans)→Ans) (fun k=>k []) (fun p _ ih k=>ob (lk cells p.2) fun j=>ih fun l=>k ((p.1,j) :: l)) cs k
noncomputable def Bw (n:Nat) (cs:List (Nat × Nat)) (i:Sm It) (l:It→Cb):Sm D:=fun c e st k=>i c e st fun it st=>Dg st (.list []) fun acc st=>Ox e.cells cs fun cells=>l it c ⟨nones n,cells⟩ acc st fun _ st=>k (.ref acc) st
abbrev Sx:=Cal→Ax→St→(D→St→Ans)→(Ax→St→Ans)→Ans
noncomputable def A5:Sx:=fun c e st ret next=>next e st
noncomputable def A1 (s r:Sx):Sx:=fun c e st ret next=>s c e st ret fun e st=>r c e st ret next
noncomputable def Ap (t:Tg) (x:Sm D):Sx:=fun c e st ret next=>x c e st fun d st=>t c e d st next
noncomputable def zgL (t:Tgs) (xs:Sm (List D)):Sx:=fun c e st ret next=>xs c e st fun ds st=>t c e (zab ds []) st next
noncomputable def C0 (x:Sm D):Sx:=fun c e st ret next=>x c e st fun d st=>Xb d (next e st)
noncomputable def sIf (t:Sm Bool) (a b:Sx):Sx:=fun c e st ret next=>t c e st fun r st=>ifB r (a c e st ret next) (b c e st ret next)
noncomputable def za2 (t:Sm Bool) (b:Sx):Sx:=fun c e st ret next=>
  Nat.rec (motive:=fun _=>Ax→St→Ans) (fun _ _=>none) (fun _ ih e st=>t c e st fun r st=>ifB r (b c e st ret fun e st=>ih e st) (next e st)) LF e st
noncomputable def zef (t:Tg) (b:Sx) (it:It):Sx:=fun c e st ret next=>
  Nat.rec (motive:=fun _=>Nat→Ax→St→Ans) (fun _ _ _=>none) (fun _ ih i e st=>nth st it i (next e st) fun d=>t c e d st fun e st=>b c e st ret fun e st=>ih (Nat.succ i) e st) LF 0 e st
noncomputable def J3 (t:Tg) (i:Sm It) (b:Sx):Sx:=fun c e st ret next=>i c e st fun it st=>zef t b it c e st ret next
noncomputable def Bg (x:Sm D):Sx:=fun c e st ret next=>x c e st ret
noncomputable def Db:Sx:=fun _ _ _ _ _=>none
structure Fn where
  nn:Nat
  np:Nat
  cl:List Nat
  dfl:List D
  body:Sx
noncomputable def zql (l:List Nat) (i:Nat):Bool:=List.rec (motive:=fun _=>Bool) false (fun j _ ih=>ifB (Nat.beq j i) true ih) l
noncomputable def zmg (cl:List Nat) (vals:List (Option D)):List (Option D):=
  List.rec (motive:=fun _=>Nat→List (Option D)) (fun _=>[]) (fun v _ ih i=>ifB (zql cl i) none v :: ih (Nat.succ i)) vals 0
noncomputable def Qb (vals:List (Option D)) (cl:List Nat) (st:St) (k:List (Nat × Nat)→St→Ans):Ans:=
  List.rec (motive:=fun _=>St→(List (Nat × Nat)→St→Ans)→Ans) (fun st k=>k [] st) (fun i _ ih st k=>Dg st (.cell (Bi vals i)) fun n st=>ih st fun cs st=>k ((i,n) :: cs) st) cl st k
noncomputable def zeJ (f:Fn) (vals:List (Option D)) (st:St) (k:Ax→St→Ans):Ans:=List.rec (motive:=fun _=>Ans) (k ⟨vals,[]⟩ st) (fun _ _ _=>Qb vals f.cl st fun cs st=>k ⟨zmg f.cl vals,cs⟩ st) f.cl
noncomputable def V9 (f:Fn) (ds:List D) (st:St) (k:Ax→St→Ans):Ans:=
  Bk (Nat.ble (len ds) f.np) (Bk (Nat.ble f.np (len ds + len f.dfl)) (zeJ f (app (ziw some (app ds (zdg (len ds + len f.dfl - f.np) f.dfl))) (nones (f.nn - f.np))) st k))
noncomputable def run (FNS:T Fn) (d:Nat):Cal:=
  Nat.rec (motive:=fun _=>Cal) (fun _ _ _ _=>none) (fun _ ih f ds st k=>ob (FNS.get f) fun f=>V9 f ds st fun e st=>f.body ih e st k fun _ st=>k .none st) d
noncomputable def FA:List Addr:=[33,41,48,55,62,67,72,79,84,98,105,112,119,126,148,155,162,169,176,183,190,197,209,216,223,228,233,238,245,263,270,277,284,306,301,311,318,323,330,356,363,368,376,383,397,404,409,430,437,444,451,554,559,592,597,611,618,625,673,680,687,694,709,716,723,730,744,751,758,763,768,773]
noncomputable def CA:List Addr:=[129,200,338,412,496,574,661,733]
noncomputable def CLS:List Cl:=[⟨[(0,9),(78,10),(79,11),(42,12),(75,13)]⟩,⟨[(0,14),(15,15),(53,16),(61,17),(28,18),(3,19),(4,20),(39,21)]⟩,⟨[(0,29),(59,30),(60,31),(65,32),(12,33),(1,34),(13,35),(56,36),(50,37),(10,38)]⟩,⟨[(0,44),(2,45),(40,46)]⟩,⟨[(0,47),(69,48),(2,49),(40,50)]⟩,⟨[(0,51),(70,52)]⟩,⟨[(0,53),(17,54),(16,55),(67,56),(68,57)]⟩,⟨[(0,62),(33,63),(19,64),(72,65)]⟩]
noncomputable def zaw:Sx:=(Bg (B6 (A0 (A3 (.str [110,97,109,101])) (A0 (A2 0) (A0 (x1 zcb (A2 1)) A4)))))
noncomputable def zgH:Fn:=⟨3,2,[],[.tup []],(A1 zaw A5)⟩
noncomputable def Ss:Sx:=(Bg (B6 (A0 (A3 (.str [116,117,112,108,101])) (A0 (x1 zcb (A2 0)) (A0 (A2 1) A4)))))
noncomputable def zch:Fn:=⟨3,2,[],[.none],(A1 Ss A5)⟩
noncomputable def S5:Sx:=(zgL (B5 (A8 2) (B5 (A8 1) Dz)) (A0 (x2 (K4 zlk) (x1 za6 (A2 0)) (A3 .none)) (A0 (Al A4) A4)))
noncomputable def S8:Sx:=(za2 (Ao cNe (A2 1) (Al A4)) (A1 (Ap (A8 3) (x1 zhP (A2 1))) (A1 (sIf (Ao cEq (x2 A6 (A2 3) (A3 (.int (.ofNat 0)))) (A3 (.str [117,110,105,111,110]))) (A1 Db A5) (A1 (sIf (B3 true (Ao cNe (A2 3) (A3 (.tup [.str [98,111,116,116,111,109]]))) (B3 true (Ao Qd (A2 3) (A2 2)) (Bp true))) (A1 (C0 (xM2 N6 Fi (A2 2) (A2 3))) A5) A5) A5)) A5)))
noncomputable def Sn:Sx:=(sIf (Ao cIn (A3 (.tup [.str [110,97,109,101],.str [65,110,121],.tup []])) (A2 2)) (A1 Db A5) A5)
noncomputable def Su:Sx:=(sIf (Ao cEq (A2 2) (Al A4)) (A1 Db A5) A5)
noncomputable def Sa:Sx:=(Bg (Hh (Ao cEq (x1 No (A2 2)) (A3 (.int (.ofNat 1)))) (x2 A6 (A2 2) (A3 (.int (.ofNat 0)))) (B6 (A0 (A3 (.str [117,110,105,111,110])) (A0 (x1 zcb (zjf 8 (A2 2))) A4)))))
noncomputable def zcU:Fn:=⟨11,1,[],[],(A1 S5 (A1 S8 (A1 Sn (A1 Su (A1 Sa A5)))))⟩
noncomputable def Ic:Sx:=(Ap (A8 1) (x2 A6 (A2 0) (A3 (.int (.ofNat 0)))))
noncomputable def J4:Sx:=(sIf (Ao cEq (A2 1) (A3 (.str [110,97,109,101]))) (A1 (Bg (x1 za6 (x2 A6 (A2 0) (A3 (.int (.ofNat 2)))))) A5) A5)
noncomputable def Hv:Sx:=(sIf (Ao cEq (A2 1) (A3 (.str [116,117,112,108,101]))) (A1 (Bg (x2 Eg (x1 za6 (x2 A6 (A2 0) (A3 (.int (.ofNat 1))))) (Hh (Ao cIs (x2 A6 (A2 0) (A3 (.int (.ofNat 2)))) (A3 .none)) (Al A4) (Al (A0 (x2 A6 (A2 0) (A3 (.int (.ofNat 2)))) A4))))) A5) A5)
noncomputable def Ia:Sx:=(sIf (Ao cEq (A2 1) (A3 (.str [117,110,105,111,110]))) (A1 (Bg (x1 za6 (x2 A6 (A2 0) (A3 (.int (.ofNat 1)))))) A5) A5)
noncomputable def Ix:Sx:=(sIf (Ao cEq (A2 1) (A3 (.str [97,108,108]))) (A1 Db A5) A5)
noncomputable def I4:Sx:=(Bg (Hh (Ao cEq (A2 1) (A3 (.str [116,121,112,101,111,102]))) (Al (A0 (x2 A6 (A2 0) (A3 (.int (.ofNat 1)))) A4)) (Al A4)))
noncomputable def Ts:Fn:=⟨3,1,[],[],(A1 Ic (A1 J4 (A1 Hv (A1 Ia (A1 Ix (A1 I4 A5))))))⟩
noncomputable def Kw:Sx:=(Ap (A8 2) (x2 A6 (A2 0) (A3 (.int (.ofNat 0)))))
noncomputable def Jx:Sx:=(sIf (Ao cEq (A2 2) (A3 (.str [110,97,109,101]))) (A1 Db A5) A5)
noncomputable def Jl:Sx:=(sIf (Ao cEq (A2 2) (A3 (.str [116,117,112,108,101]))) (A1 (Ap (A8 3) (x1 No (x2 A6 (A2 0) (A3 (.int (.ofNat 1)))))) (A1 (Bg (B6 (A0 (A3 (.str [116,117,112,108,101])) (A0 (x1 zcb (x2 (K4 zj3) (A2 1) (A2 3))) (A0 (Hh (Ao cIs (x2 A6 (A2 0) (A3 (.int (.ofNat 2)))) (A3 .none)) (A3 .none) (x2 A6 (A2 1) (A2 3))) A4))))) A5)) A5)
noncomputable def Jy:Sx:=(sIf (Ao cEq (A2 2) (A3 (.str [117,110,105,111,110]))) (A1 (Bg (Am 2 (A0 (A2 1) A4))) A5) A5)
noncomputable def Js:Sx:=Db
noncomputable def Ko:Sx:=Db
noncomputable def Ud:Fn:=⟨7,2,[],[],(A1 Kw (A1 Jx (A1 Jl (A1 Jy (A1 Js (A1 Ko A5))))))⟩
noncomputable def Lu:Sx:=(sIf (Ao cEq (x2 A6 (A2 0) (A3 (.int (.ofNat 0)))) (A3 (.str [118,97,114]))) (A1 (Bg (xM3 zhi zpO (Ab 1) (x2 A6 (A2 0) (A3 (.int (.ofNat 1)))) (A2 0))) A5) A5)
noncomputable def M3:Sx:=(sIf (Ao cEq (x2 A6 (A2 0) (A3 (.int (.ofNat 0)))) (A3 (.str [97,108,108]))) (A1 Db (A1 Db (A1 Db (A1 Db A5)))) A5)
noncomputable def Ln:Sx:=(Ap (A8 4) (Am 3 (A0 (A2 0) A4)))
noncomputable def M7:Sx:=(Bg (Hh (Ao cEq (A2 4) (Al A4)) (A2 0) (Am 4 (A0 (A2 0) (A0 (Bw 4 [(3,1)] (iOf (A2 4)) (Bl (A8 1) (Bp true) (Bz (Am 5 (A0 (A2 1) (A0 (Ab 3) A4)))))) A4)))))
noncomputable def X5:Fn:=⟨9,2,[1],[],(A1 Lu (A1 M3 (A1 Ln (A1 M7 A5))))⟩
noncomputable def R6:Sx:=(zgL (B5 (A8 2) (B5 (A8 1) Dz)) (A0 (Al A4) (A0 (Al (A0 (B6 (A0 (A2 0) (A0 (B6 A4) A4))) A4)) A4)))
noncomputable def Qj:Sx:=(za2 (Ao cNe (A2 2) (Al A4)) (A1 (Ap (Nd (B5 (A8 3) (B5 (Ck 4) Dz))) (x1 zhP (A2 2))) (A1 (sIf (Ao cEq (x2 A6 (A2 3) (A3 (.int (.ofNat 0)))) (A3 (.str [118,97,114]))) (A1 (sIf (B3 true (Ao Qd (x2 A6 (A2 3) (A3 (.int (.ofNat 1)))) (Ab 4)) (B3 true (Ao Qd (x2 A6 (A2 3) (A3 (.int (.ofNat 1)))) (A2 1)) (Bp true))) (A1 (C0 (xM2 N6 Fi (A2 1) (x2 A6 (A2 3) (A3 (.int (.ofNat 1)))))) A5) A5) A5) (A1 (sIf (Ao cEq (x2 A6 (A2 3) (A3 (.int (.ofNat 0)))) (A3 (.str [97,108,108]))) (A1 Db (A1 Db A5)) (A1 (C0 (xM2 N6 zb2 (A2 2) (Bw 3 [(2,4)] (iOf (x2 (K4 zlk) (Am 3 (A0 (A2 3) A4)) (A3 .none))) (Bl (A8 1) (Bp true) (Bz (B6 (A0 (A2 1) (A0 (Ab 2) A4)))))))) A5)) A5)) A5)))
noncomputable def Qh:Sx:=(Bg (A2 1))
noncomputable def zbb:Fn:=⟨6,1,[4],[],(A1 R6 (A1 Qj (A1 Qh A5)))⟩
noncomputable def R5:Sx:=(Ap (A8 1) (x2 A6 (A2 0) (A3 (.int (.ofNat 0)))))
noncomputable def Qy:Sx:=(sIf (Ao cEq (A2 1) (A3 (.str [110,97,109,101]))) (A1 (Ap (A8 2) (xM2 zle zkU (A3 (.str [44,32])) (Bw 3 [] (iOf (x2 A6 (A2 0) (A3 (.int (.ofNat 2))))) (Bl (A8 1) (Bp true) (Bz (Am 8 (A0 (A2 1) A4))))))) (A1 (Bg (x2 Eg (x2 A6 (A2 0) (A3 (.int (.ofNat 1)))) (Hh (Ao cNe (x2 A6 (A2 0) (A3 (.int (.ofNat 2)))) (B6 A4)) (x2 Eg (x2 Eg (A3 (.str [123])) (A2 2)) (A3 (.str [125]))) (A3 (.str []))))) A5)) A5)
noncomputable def R1:Sx:=Db
noncomputable def Qr:Sx:=Db
noncomputable def Qf:Sx:=Db
noncomputable def Qv:Sx:=Db
noncomputable def Qt:Sx:=Db
noncomputable def Qp:Sx:=Db
noncomputable def Qg:Sx:=Db
noncomputable def za7:Fn:=⟨7,1,[],[],(A1 R5 (A1 Qy (A1 R1 (A1 Qr (A1 Qf (A1 Qv (A1 Qt (A1 Qp (A1 Qg A5)))))))))⟩
noncomputable def Ii:Sx:=(Ap (Si 0 28 (A2 0)) (A2 1))
noncomputable def J1:Sx:=(Ap (Bj 54 (A2 0)) (A2 2))
noncomputable def Ih:Sx:=(Ap (Bj 43 (A2 0)) (A2 3))
noncomputable def Iy:Sx:=(Ap (Bj 76 (A2 0)) (A2 4))
noncomputable def J0:Sx:=(Ap (Bj 31 (A2 0)) (A2 5))
noncomputable def Tl:Fn:=⟨6,6,[],[],(A1 Ii (A1 J1 (A1 Ih (A1 Iy (A1 J0 A5)))))⟩
noncomputable def Fr:Sx:=(Bg (Ho 0 9 (A0 (Mh 0 28 (A2 0)) (A0 (Ah 54 (A2 0)) (A0 (x2 Eg (Ah 43 (A2 0)) (B6 (A0 (A2 1) A4))) (A0 (Ah 76 (A2 0)) (A0 (Ah 31 (A2 0)) A4)))))))
noncomputable def Pn:Fn:=⟨3,2,[],[],(A1 Fr A5)⟩
noncomputable def Pk:Sx:=(Bg (Hh (Ao cNe (Ah 76 (A2 0)) (B6 A4)) (x2 A6 (Ah 76 (A2 0)) (A3 (.int (.ofNat 0)))) (A3 (.tup [.str [110,97,109,101],.str [65,110,121],.tup []]))))
noncomputable def Zu:Fn:=⟨2,1,[],[],(A1 Pk A5)⟩
noncomputable def H5:Sx:=(Ap (Bj 58 (A2 0)) (Hh (Ao cIs (A2 1) (A3 .none)) (zc7 zgn) (A2 1)))
noncomputable def Gv:Sx:=(Ap (Bj 44 (A2 0)) (A2 2))
noncomputable def Ry:Fn:=⟨3,3,[],[.none,.int (.ofNat 0)],(A1 H5 (A1 Gv A5))⟩
noncomputable def K6:Sx:=(Bg (Ho 1 14 (A0 (x1 zg1 (Ah 58 (A2 0))) (A0 (Ah 44 (A2 0)) A4))))
noncomputable def V6:Fn:=⟨3,1,[],[],(A1 K6 A5)⟩
noncomputable def Kq:Sx:=(Ap (Nd (B5 (A8 3) (B5 (A8 4) (B5 (A8 5) (B5 (A8 6) (B5 (A8 7) Dz)))))) (A2 1))
noncomputable def Jk:Sx:=(Ap (Bj 44 (A2 0)) (x2 Eg (Ah 44 (A2 0)) (A3 (.int (.ofNat 1)))))
noncomputable def Jz:Sx:=(Ap (A8 8) (x2 Eg (x2 Eg (x2 A6 (xM2 zle zfZ (A2 4) (A3 (.str [33]))) (A3 (.int (.ofNat 0)))) (A3 (.str [33]))) (x1 zsy (Ah 44 (A2 0)))))
noncomputable def Ka:Sx:=(Ap (A8 9) (Hh (Ao cEq (A2 5) (A3 (.tup [.str [98,111,116,116,111,109]]))) (B6 A4) (B6 (A0 (A2 5) A4))))
noncomputable def Kt:Sx:=(Ap (A8 10) (Hh (Ao cEq (A2 6) (A3 (.tup [.str [110,97,109,101],.str [65,110,121],.tup []]))) (B6 A4) (B6 (A0 (A2 6) A4))))
noncomputable def K7:Sx:=(Ap (R0 (Ah 58 (A2 0)) (A2 8)) (Ho 0 9 (A0 (A2 2) (A0 (Ah 44 (A2 0)) (A0 (A2 9) (A0 (A2 10) (A0 (Am 24 (A0 (A2 7) (A0 (A2 4) A4))) A4)))))))
noncomputable def Kc:Sx:=(Bg (B6 (A0 (A2 8) (A0 (Am 5 (A0 (A2 7) (A0 (zc7 (zkQ (A2 4) (B6 (A0 (A3 (.str [118,97,114])) (A0 (A2 8) A4))) zgn)) A4))) A4))))
noncomputable def Uz:Fn:=⟨17,3,[],[],(A1 Kq (A1 Jk (A1 Jz (A1 Ka (A1 Kt (A1 K7 (A1 Kc A5)))))))⟩
noncomputable def Ob:Sx:=(Bg (xM3 zhi zpO (Ah 58 (A2 0)) (A2 1) (Ho 0 9 (A0 (A3 (.bool false)) (A0 (A3 (.int (.ofNat 0))) (A0 (B6 A4) (A0 (B6 A4) (A0 (A3 (.bool false)) A4))))))))
noncomputable def Zh:Fn:=⟨3,2,[],[],(A1 Ob A5)⟩
noncomputable def Gx:Sx:=(Bg (zfo true (Sw cEq (x2 A6 (A2 1) (A3 (.int (.ofNat 0)))) (A3 (.str [118,97,114]))) (Mh 0 28 (Az CLS 61 (A2 0) (A0 (x2 A6 (A2 1) (A3 (.int (.ofNat 1)))) A4)))))
noncomputable def Rt:Fn:=⟨2,2,[],[],(A1 Gx A5)⟩
noncomputable def Fz:Sx:=(Ap (R0 (Ah 58 (A2 0)) (A2 1)) (Az CLS 78 (x2 A6 (Ah 58 (A2 0)) (A2 1)) (A0 (A2 2) A4)))
noncomputable def Py:Fn:=⟨3,3,[],[],(A1 Fz A5)⟩
noncomputable def Ev:Sx:=(Ap (A8 3) (Ah 54 (Az CLS 61 (A2 0) (A0 (A2 2) A4))))
noncomputable def F4:Sx:=(Ap (A8 4) (Al A4))
noncomputable def Fd:Sx:=(J3 (A8 5) (iOf (Am 6 (A0 (A2 1) A4))) (A1 (sIf (B3 true (zi2 (T3 (Mh 0 28 (Az CLS 61 (A2 0) (A0 (A2 5) A4))))) (B3 true (Ao cGt (Ah 54 (Az CLS 61 (A2 0) (A0 (A2 5) A4))) (A2 3)) (Bp true))) (A1 Db A5) A5) A5))
noncomputable def Fe:Sx:=(Bg (A2 4))
noncomputable def Oy:Fn:=⟨7,3,[],[],(A1 Ev (A1 F4 (A1 Fd (A1 Fe A5))))⟩
noncomputable def Md:Sx:=(Ap (A8 2) (x2 A6 (A2 0) (A3 (.int (.ofNat 0)))))
noncomputable def M1:Sx:=(sIf (Ao cEq (A2 2) (A3 (.str [118,97,114]))) (A1 (Bg (B6 (A0 (Hh (Ao cEq (x2 A6 (A2 0) (A3 (.int (.ofNat 1)))) (Ab 1)) (A3 (.int (.ofNat 1))) (A3 (.int (.ofNat 0)))) (A0 (A3 (.bool false)) A4)))) A5) A5)
noncomputable def Lp:Sx:=(sIf (Ao cEq (A2 2) (A3 (.str [117,110,105,111,110]))) (A1 (Ap (A8 3) (Bw 4 [(3,1)] (iOf (x2 A6 (A2 0) (A3 (.int (.ofNat 1))))) (Bl (A8 1) (Bp true) (Bz (Am 22 (A0 (A2 1) (A0 (Ab 3) A4))))))) (A1 (Bg (B6 (A0 (x1 zud (Bw 2 [] (iOf (A2 3)) (Bl (A8 1) (Bp true) (Bz (x2 A6 (A2 1) (A3 (.int (.ofNat 0)))))))) (A0 (Sw cIn (A3 (.bool true)) (Bw 2 [] (iOf (A2 3)) (Bl (A8 1) (Bp true) (Bz (x2 A6 (A2 1) (A3 (.int (.ofNat 1)))))))) A4)))) A5)) A5)
noncomputable def Mo:Sx:=(sIf (Ao cEq (A2 2) (A3 (.str [116,117,112,108,101]))) (A1 (Ap (A8 3) (Bw 4 [(3,1)] (iOf (x2 A6 (A2 0) (A3 (.int (.ofNat 1))))) (Bl (A8 1) (Bp true) (Bz (Am 22 (A0 (A2 1) (A0 (Ab 3) A4))))))) (A1 (sIf (Ao zcL (x2 A6 (A2 0) (A3 (.int (.ofNat 2)))) (A3 .none)) (A1 Db A5) A5) (A1 (Bg (B6 (A0 (x2 zsM (A3 (.int (.ofNat 2))) (x1 zst (Bw 2 [] (iOf (A2 3)) (Bl (A8 1) (Bp true) (Bz (x2 A6 (A2 1) (A3 (.int (.ofNat 0))))))))) (A0 (Sw cIn (A3 (.bool true)) (Bw 2 [] (iOf (A2 3)) (Bl (A8 1) (Bp true) (Bz (x2 A6 (A2 1) (A3 (.int (.ofNat 1)))))))) A4)))) A5))) A5)
noncomputable def Lv:Sx:=(sIf (Ao cEq (A2 2) (A3 (.str [97,108,108]))) (A1 Db A5) A5)
noncomputable def Ma:Sx:=(Bg (B6 (A0 (A3 (.int (.ofNat 0))) (A0 (Sw cIn (Ab 1) (Am 6 (A0 (A2 0) A4))) A4))))
noncomputable def Xg:Fn:=⟨10,2,[1],[],(A1 Md (A1 M1 (A1 Lp (A1 Mo (A1 Lv (A1 Ma A5))))))⟩
noncomputable def Mu:Sx:=(Ap (Nd (B5 (A8 2) (B5 (A8 3) Dz))) (Am 22 (A0 (A2 0) (A0 (A2 1) A4))))
noncomputable def Mt:Sx:=(Bg (zfo true (Sw cGt (A2 2) (A3 (.int (.ofNat 1)))) (zrD (A2 3))))
noncomputable def X6:Fn:=⟨5,2,[],[],(A1 Mu (A1 Mt A5))⟩
noncomputable def P3:Sx:=(Ap (A8 1) (x2 A6 (Ab 0) (A3 (.int (.ofNat 0)))))
noncomputable def Oz:Sx:=(sIf (Ao cEq (A2 1) (A3 (.str [117,110,105,111,110]))) (A1 (Ap (A8 2) (Bw 4 [] (iOf (x2 A6 (Ab 0) (A3 (.int (.ofNat 1))))) (Bl (A8 1) (Bp true) (zdU (iOf (Am 25 (A0 (A2 1) A4))) (Bl (A8 2) (Bp true) (Bz (A2 2))))))) A5) (A1 (sIf (B3 true (Ao cEq (A2 1) (A3 (.str [97,108,108]))) (B3 true (zi2 (T3 (Am 24 (A0 (x2 A6 (Ab 0) (A3 (.int (.ofNat 4)))) (A0 (x2 A6 (Ab 0) (A3 (.int (.ofNat 1)))) A4))))) (Bp true))) (A1 (Ap (A8 2) (Bw 3 [(2,0)] (iOf (Am 25 (A0 (x2 A6 (Ab 0) (A3 (.int (.ofNat 4)))) A4))) (Bl (A8 1) (Bp true) (Bz (B6 (A0 (A3 (.str [97,108,108])) (A0 (x2 A6 (Ab 2) (A3 (.int (.ofNat 1)))) (A0 (x2 A6 (Ab 2) (A3 (.int (.ofNat 2)))) (A0 (x2 A6 (Ab 2) (A3 (.int (.ofNat 3)))) (A0 (A2 1) A4)))))))))) A5) (A1 (sIf (Ao cEq (A2 1) (A3 (.str [116,117,112,108,101]))) (A1 (Ap (A8 2) (Am 26 (A0 (Ab 0) A4))) A5) (A1 (Ap (A8 2) (Al (A0 (Ab 0) A4))) A5)) A5)) A5))
noncomputable def P9:Sx:=(Bg (Hh (Ao cLe (x1 No (A2 2)) (A3 (.int (.ofNat 64)))) (A2 2) (Al (A0 (Ab 0) A4))))
noncomputable def Z2:Fn:=⟨8,1,[0],[],(A1 P3 (A1 Oz (A1 P9 A5)))⟩
noncomputable def Mr:Sx:=(Ap (A8 1) (Al (A0 (B6 A4) A4)))
noncomputable def Lm:Sx:=(J3 (A8 2) (iOf (x2 A6 (Ab 0) (A3 (.int (.ofNat 1))))) (A1 (Ap (Ck 3) (Am 25 (A0 (A2 2) A4))) (A1 (sIf (Ao cGt (x2 zer (x1 No (A2 1)) (x1 No (Ab 3))) (A3 (.int (.ofNat 64)))) (A1 Db A5) A5) (A1 (Ap (A8 1) (Bw 4 [(3,3)] (iOf (A2 1)) (Bl (A8 1) (Bp true) (zdU (iOf (Ab 3)) (Bl (A8 2) (Bp true) (Bz (x2 Eg (A2 1) (B6 (A0 (A2 2) A4))))))))) A5))))
noncomputable def Mv:Sx:=(Bg (Bw 4 [(3,0)] (iOf (A2 1)) (Bl (A8 1) (Bp true) (Bz (Am 1 (A0 (A2 1) (A0 (x2 A6 (Ab 3) (A3 (.int (.ofNat 2)))) A4)))))))
noncomputable def X8:Fn:=⟨7,1,[0,3],[],(A1 Mr (A1 Lm (A1 Mv A5)))⟩
noncomputable def T4:Sx:=(sIf (Ao cEq (x2 A6 (A2 0) (A3 (.int (.ofNat 0)))) (A3 (.str [116,117,112,108,101]))) (A1 (Bg (Sw cIn (A3 (.bool true)) (Bw 3 [] (iOf (x2 A6 (A2 0) (A3 (.int (.ofNat 1))))) (Bl (A8 1) (Bp true) (Bz (Am 27 (A0 (A2 1) A4))))))) A5) A5)
noncomputable def Sj:Sx:=(sIf (Ao cEq (x2 A6 (A2 0) (A3 (.int (.ofNat 0)))) (A3 (.str [97,108,108]))) (A1 (Bg (Am 27 (A0 (x2 A6 (A2 0) (A3 (.int (.ofNat 4)))) A4))) A5) A5)
noncomputable def T2:Sx:=(Bg (Sw cEq (A2 0) (A3 (.tup [.str [98,111,116,116,111,109]]))))
noncomputable def zdo:Fn:=⟨3,1,[],[],(A1 T4 (A1 Sj (A1 T2 A5)))⟩
noncomputable def Vb:Sx:=(Bg (Hh (B3 true (Ao zcL (x2 A6 (A2 0) (A3 (.int (.ofNat 2)))) (A3 .none)) (B3 true (T3 (Am 27 (A0 (x2 A6 (A2 0) (A3 (.int (.ofNat 2)))) A4))) (Bp true))) (A3 .none) (x2 A6 (A2 0) (A3 (.int (.ofNat 2))))))
noncomputable def zd8:Fn:=⟨2,1,[],[],(A1 Vb A5)⟩
noncomputable def G1:Sx:=(Ap (Bj 38 (A2 0)) (A2 1))
noncomputable def Fj:Sx:=(Ap (Bj 24 (A2 0)) (A2 2))
noncomputable def Px:Fn:=⟨3,3,[],[],(A1 G1 (A1 Fj A5))⟩
noncomputable def Ov:Sx:=(Ap (A8 3) (Al (A0 (B6 (A0 (x1 za6 (A2 1)) (A0 (A2 2) A4))) A4)))
noncomputable def O3:Sx:=(za2 (B3 true (Ao cNe (A2 3) (Al A4)) (B3 true (Ao cGt (Ah 24 (A2 0)) (A3 (.int (.ofNat 0)))) (Bp true))) (A1 (Ap (Nd (B5 (A8 4) (B5 (A8 5) Dz))) (x1 zhP (A2 3))) (A1 (Ap (A8 6) (Az CLS 60 (A2 0) (A0 (A2 4) (A0 (A2 5) (A0 (A2 3) A4))))) (A1 (sIf (Ao zcL (A2 6) (A3 .none)) (A1 (Bg (A2 6)) A5) A5) A5))))
noncomputable def O7:Sx:=(Bg (A3 .none))
noncomputable def zan:Fn:=⟨8,3,[],[],(A1 Ov (A1 O3 (A1 O7 A5)))⟩
noncomputable def Gu:Sx:=(za2 (Ao cNe (A2 1) (Al A4)) (A1 (Ap (Bj 24 (A2 0)) (x2 zti (Ah 24 (A2 0)) (A3 (.int (.ofNat 1))))) (A1 (Ap (A8 4) (Hh (Ao cGe (Ah 24 (A2 0)) (A3 (.int (.ofNat 0)))) (Az CLS 65 (A2 0) (A0 (x1 zhP (A2 1)) (A0 (A2 2) A4))) (Al A4))) (A1 (sIf (Ao cEq (A2 4) (Al A4)) (A1 (Bg (A3 .none)) A5) A5) (A1 (J3 (A8 5) (iOf (x2 (K4 ztI) (A2 4) (A3 .none))) (A1 (C0 (xM2 N6 Fi (A2 3) (B6 (A0 (x2 Eg (A2 1) (A2 5)) (A0 (Az CLS 15 (A2 2) A4) A4))))) A5)) (A1 (C0 (xM2 N6 zb2 (A2 1) (x2 A6 (A2 4) (A3 (.int (.ofNat 0)))))) A5))))))
noncomputable def Ha:Sx:=(Bg (Hh (T3 (Az CLS 10 (A2 0) (A0 (A2 2) A4))) (A2 2) (A3 .none)))
noncomputable def Ru:Fn:=⟨6,4,[],[],(A1 Gu (A1 Ha A5))⟩
noncomputable def Mf:Sx:=(Ap (Nd (B5 (A8 3) (B5 (A8 4) (B5 (A8 5) Dz)))) (A2 1))
noncomputable def Li:Sx:=(sIf (Ao cEq (A2 4) (A2 5)) (A1 (Bg (Al (A0 (Al A4) A4))) A5) A5)
noncomputable def Lk:Sx:=(sIf (Ao cIn (A3 (.str [110])) (B6 (A0 (x2 A6 (A2 4) (A3 (.int (.ofNat 0)))) (A0 (x2 A6 (A2 5) (A3 (.int (.ofNat 0)))) A4)))) (A1 Db A5) A5)
noncomputable def M8:Sx:=(sIf (Ao cEq (A2 3) (A3 (.str [115,97,109,101]))) (A1 Db A5) A5)
noncomputable def Lw:Sx:=(sIf (B3 false (T3 (Am 27 (A0 (A2 4) A4))) (B3 false (Ao cEq (A2 5) (A3 (.tup [.str [110,97,109,101],.str [65,110,121],.tup []]))) (Bp false))) (A1 (Bg (Al (A0 (Al A4) A4))) A5) A5)
noncomputable def Mj:Sx:=(sIf (T3 (Az CLS 28 (A2 2) (A0 (A2 4) A4))) (A1 Db A5) A5)
noncomputable def Lq:Sx:=(sIf (T3 (Az CLS 28 (A2 2) (A0 (A2 5) A4))) (A1 (Bg (Az CLS 1 (A2 0) (A0 (x2 A6 (A2 5) (A3 (.int (.ofNat 1)))) (A0 (A2 4) (A0 (A2 2) A4))))) A5) A5)
noncomputable def Mq:Sx:=(Bg (Az CLS 12 (A2 0) (A0 (A2 4) (A0 (A2 5) (A0 (A2 2) A4)))))
noncomputable def Xa:Fn:=⟨8,3,[],[],(A1 Mf (A1 Li (A1 Lk (A1 M8 (A1 Lw (A1 Mj (A1 Lq (A1 Mq A5))))))))⟩
noncomputable def Gq:Sx:=(sIf (Ao cEq (x2 A6 (Ab 1) (A3 (.int (.ofNat 0)))) (A3 (.str [117,110,105,111,110]))) (A1 Db A5) A5)
noncomputable def Hg:Sx:=(sIf (Ao cEq (x2 A6 (Ab 1) (A3 (.int (.ofNat 0)))) (A3 (.str [97,108,108]))) (A1 (Bg (Al (A0 (Al (A0 (B6 (A0 (A3 (.str [115,117,98])) (A0 (x2 A6 (Az CLS 53 (A2 3) (A0 (Ab 1) (A0 (A3 (.bool false)) A4))) (A3 (.int (.ofNat 1)))) (A0 (Ab 2) A4)))) A4)) A4))) A5) A5)
noncomputable def H7:Sx:=(sIf (Ao cEq (x2 A6 (Ab 2) (A3 (.int (.ofNat 0)))) (A3 (.str [117,110,105,111,110]))) (A1 (Ap (A8 4) (Bw 3 [(2,1)] (iOf (x2 A6 (Ab 2) (A3 (.int (.ofNat 1))))) (Bl (A8 1) (Bp true) (Bz (Al (A0 (B6 (A0 (A3 (.str [115,117,98])) (A0 (Ab 2) (A0 (A2 1) A4)))) A4)))))) (A1 (Bg (x2 Eg (A2 4) (Hh (Ao cEq (x2 A6 (Ab 1) (A3 (.int (.ofNat 0)))) (A3 (.str [118,97,114]))) (Al (A0 (Al (A0 (B6 (A0 (A3 (.str [115,117,98])) (A0 (Az CLS 75 (Az CLS 61 (A2 3) (A0 (x2 A6 (Ab 1) (A3 (.int (.ofNat 1)))) A4)) A4) (A0 (Ab 2) A4)))) A4)) A4)) (Al A4)))) A5)) A5)
noncomputable def Gh:Sx:=(sIf (Ao cEq (x2 A6 (Ab 2) (A3 (.int (.ofNat 0)))) (A3 (.str [97,108,108]))) (A1 (Bg (Al (A0 (Az CLS 13 (A2 0) (A0 (Ab 1) (A0 (Ab 2) (A0 (A2 3) A4)))) A4))) A5) A5)
noncomputable def Hk:Sx:=(sIf (Ao cEq (x2 A6 (Ab 1) (A3 (.int (.ofNat 0)))) (A3 (.str [118,97,114]))) (A1 (Ap (A8 5) (Az CLS 75 (Az CLS 61 (A2 3) (A0 (x2 A6 (Ab 1) (A3 (.int (.ofNat 1)))) A4)) A4)) (A1 (Ap (A8 4) (Hh (Ao cEq (A2 5) (A3 (.tup [.str [110,97,109,101],.str [65,110,121],.tup []]))) (Al A4) (Al (A0 (Al (A0 (B6 (A0 (A3 (.str [115,117,98])) (A0 (A2 5) (A0 (Ab 2) A4)))) A4)) A4)))) (A1 (Bg (x2 Eg (A2 4) (Hh (Ao cEq (x2 A6 (Ab 2) (A3 (.int (.ofNat 0)))) (A3 (.str [118,97,114]))) (Al (A0 (Al (A0 (B6 (A0 (A3 (.str [115,117,98])) (A0 (Ab 1) (A0 (Az CLS 42 (Az CLS 61 (A2 3) (A0 (x2 A6 (Ab 2) (A3 (.int (.ofNat 1)))) A4)) A4) A4)))) A4)) A4)) (Al A4)))) A5))) A5)
noncomputable def Gs:Sx:=(sIf (Ao cEq (x2 A6 (Ab 2) (A3 (.int (.ofNat 0)))) (A3 (.str [118,97,114]))) (A1 Db (A1 Db A5)) A5)
noncomputable def H8:Sx:=(Bg (Az CLS 56 (A2 0) (A0 (Ab 1) (A0 (Ab 2) A4))))
noncomputable def Ra:Fn:=⟨9,4,[1,2],[],(A1 Gq (A1 Hg (A1 H7 (A1 Gh (A1 Hk (A1 Gs (A1 H8 A5)))))))⟩
noncomputable def K0:Sx:=(Ap (Ck 2) (Am 39 (A0 (A2 1) (A0 (Ab 2) (A0 (A2 3) A4)))))
noncomputable def K5:Sx:=(sIf (B3 false (Ao cIs (Ab 2) (A3 .none)) (B3 false (Ao cIn (Ab 2) (Ah 43 (Az CLS 61 (A2 3) (A0 (A2 1) A4)))) (Bp false))) (A1 (Bg (Hh (Ao cIs (Ab 2) (A3 .none)) (Al A4) (Al (A0 (Al A4) A4)))) A5) A5)
noncomputable def Kf:Sx:=(C0 (Az CLS 3 (A2 3) (A0 (A2 1) (A0 (Ab 2) A4))))
noncomputable def Ku:Sx:=(Bg (Al (A0 (Bw 3 [(2,2)] (iOf (Ah 76 (Az CLS 61 (A2 3) (A0 (A2 1) A4)))) (Bl (A8 1) (Bp true) (Bz (B6 (A0 (A3 (.str [115,117,98])) (A0 (Ab 2) (A0 (A2 1) A4))))))) A4)))
noncomputable def Uv:Fn:=⟨5,4,[2],[],(A1 K0 (A1 K5 (A1 Kf (A1 Ku A5))))⟩
noncomputable def Ie:Sx:=(Ap (Nd (B5 (A8 4) (B5 (A8 5) Dz))) (Az CLS 53 (A2 3) (A0 (A2 2) (A0 (A3 (.bool true)) A4))))
noncomputable def Iu:Sx:=(Ap (Ck 6) (Az CLS 61 (A2 3) (A0 (A2 4) A4)))
noncomputable def Id:Sx:=(Bg (x2 Eg (Bw 4 [(3,6)] (iOf (Ah 43 (Ab 6))) (Bl (A8 1) (Bp true) (zdU (iOf (Ah 76 (Ab 3))) (Bl (A8 2) (Bp true) (Bz (B6 (A0 (A3 (.str [115,117,98])) (A0 (A2 1) (A0 (A2 2) A4))))))))) (Al (A0 (B6 (A0 (A3 (.str [115,117,98])) (A0 (A2 1) (A0 (A2 5) A4)))) A4))))
noncomputable def Tp:Fn:=⟨7,4,[6],[],(A1 Ie (A1 Iu (A1 Id A5)))⟩
noncomputable def Ki:Sx:=(Ap (A8 3) (B6 (A0 (x2 A6 (A2 1) (A3 (.int (.ofNat 0)))) (A0 (x2 A6 (A2 2) (A3 (.int (.ofNat 0)))) A4))))
noncomputable def Jr:Sx:=(sIf (Ao cEq (A2 3) (B6 (A0 (A3 (.str [110,97,109,101])) (A0 (A3 (.str [110,97,109,101])) A4)))) (A1 (Bg (Az CLS 50 (A2 0) (A0 (A2 1) (A0 (A2 2) A4)))) A5) A5)
noncomputable def K3:Sx:=(sIf (Ao cEq (A2 3) (B6 (A0 (A3 (.str [116,117,112,108,101])) (A0 (A3 (.str [116,117,112,108,101])) A4)))) (A1 (Bg (Am 41 (A0 (A2 1) (A0 (A2 2) A4)))) A5) A5)
noncomputable def Km:Sx:=Db
noncomputable def Kh:Sx:=Db
noncomputable def K9:Sx:=Db
noncomputable def Us:Fn:=⟨7,3,[],[],(A1 Ki (A1 Jr (A1 K3 (A1 Km (A1 Kh (A1 K9 A5))))))⟩
noncomputable def Gj:Sx:=(J3 (A8 3) (iOf (Az CLS 68 (Ah 38 (A2 0)) (A0 (A2 1) A4))) (A1 (sIf (Ao cEq (x2 A6 (A2 3) (A3 (.int (.ofNat 1)))) (x2 A6 (A2 2) (A3 (.int (.ofNat 1))))) (A1 Db A5) A5) A5))
noncomputable def Gz:Sx:=(Bg (Al A4))
noncomputable def Rj:Fn:=⟨5,3,[],[],(A1 Gj (A1 Gz A5))⟩
noncomputable def Dx:Sx:=(J3 (A8 2) (iOf (x1 zgV (Ah 58 (A2 1)))) (A1 (Ap (A8 3) (x2 A6 (Ah 58 (A2 1)) (A2 2))) (A1 (sIf (B3 true (T3 (Mh 0 28 (A2 3))) (B3 true (T3 (Ah 31 (A2 3))) (B3 true (zi2 (T3 (Az CLS 35 (A2 0) (A0 (A2 3) (A0 (A2 1) A4))))) (Bp true)))) (A1 Db A5) A5) A5)))
noncomputable def Du:Sx:=(Bg (A3 (.bool true)))
noncomputable def Jh:Fn:=⟨5,2,[],[],(A1 Dx (A1 Du A5))⟩
noncomputable def V4:Sx:=(Ap (A8 3) (Az CLS 39 (A2 2) (A0 (A2 1) (A0 (A2 0) A4))))
noncomputable def Vi:Sx:=(sIf (Ao cEq (A2 3) (Al A4)) (A1 (Bg (Hh (T3 (Am 40 (A0 (A2 0) (A0 (A2 1) A4)))) (A3 .none) (A2 1))) A5) A5)
noncomputable def U1:Sx:=Db
noncomputable def Uf:Sx:=Db
noncomputable def zd0:Fn:=⟨6,3,[],[],(A1 V4 (A1 Vi (A1 U1 (A1 Uf A5))))⟩
noncomputable def Oi:Sx:=(Bg (zfo true (Sw cNe (A2 1) (B6 (A0 (A3 (.str [118,97,114])) (A0 (A2 0) A4)))) (Sw cIn (A2 0) (Am 6 (A0 (A2 1) A4)))))
noncomputable def Z9:Fn:=⟨3,2,[],[],(A1 Oi A5)⟩
noncomputable def Pf:Sx:=(Ap (Nd (B5 (Ck 2) (B5 (A8 3) Dz))) (B6 (A0 (x2 A6 (A2 0) (A3 (.int (.ofNat 1)))) (A0 (Am 28 (A0 (A2 0) A4)) A4))))
noncomputable def Oa:Sx:=(Ap (Nd (B5 (Ck 4) (B5 (Ck 5) Dz))) (B6 (A0 (x2 A6 (A2 1) (A3 (.int (.ofNat 1)))) (A0 (Am 28 (A0 (A2 1) A4)) A4))))
noncomputable def Op:Sx:=(sIf (B3 false (Ao cLt (x1 No (Ab 2)) (x1 No (Ab 4))) (B3 false (B3 true (Ao cIs (Ab 5) (A3 .none)) (B3 true (B3 false (Ao zcL (A2 3) (A3 .none)) (B3 false (Ao cGt (x1 No (Ab 2)) (x1 No (Ab 4))) (Bp false))) (Bp true))) (Bp false))) (A1 (Bg (Al A4)) A5) A5)
noncomputable def Ph:Sx:=(Ap (A8 6) (Bw 6 [(3,5),(4,2),(5,4)] (Pi (x1 No (Ab 2))) (Bl (A8 1) (Bp true) (Bz (B6 (A0 (A3 (.str [115,117,98])) (A0 (x2 A6 (Ab 4) (A2 1)) (A0 (Hh (Ao cLt (A2 1) (x1 No (Ab 5))) (x2 A6 (Ab 5) (A2 1)) (Ab 3)) A4))))))))
noncomputable def P6:Sx:=(Bg (Al (A0 (x2 Eg (A2 6) (Hh (Ao cIs (A2 3) (A3 .none)) (Al A4) (Al (A0 (B6 (A0 (A3 (.str [115,117,98])) (A0 (A2 3) (A0 (Ab 5) A4)))) A4)))) A4)))
noncomputable def Zm:Fn:=⟨10,2,[2,4,5],[],(A1 Pf (A1 Oa (A1 Op (A1 Ph (A1 P6 A5)))))⟩
noncomputable def P0:Sx:=(sIf (Ao cEq (A2 1) (A2 2)) (A1 Db A5) A5)
noncomputable def Pm:Sx:=(J3 (A8 4) (iOf (Am 25 (A0 (A2 1) A4))) (A1 (Ap (A8 5) (Ho 2 29 (A0 (A2 0) (A0 (A2 3) A4)))) (A1 (sIf (Ao cIs (Az CLS 59 (A2 5) (A0 (Al (A0 (B6 (A0 (A3 (.str [115,117,98])) (A0 (A2 4) (A0 (A2 2) A4)))) A4)) (A0 (Ho 1 14 A4) A4))) (A3 .none)) (A1 (Bg (A3 (.bool false))) A5) A5) A5)))
noncomputable def P4:Sx:=(Bg (A3 (.bool true)))
noncomputable def Yp:Fn:=⟨9,4,[],[.int (.ofNat 4000)],(A1 P0 (A1 Pm (A1 P4 A5)))⟩
noncomputable def R2:Sx:=(Bg (zfo false (Sw cEq (A2 1) (A2 2)) (zfo true (Am 42 (A0 (A2 0) (A0 (A2 1) (A0 (A2 2) A4)))) (Am 42 (A0 (A2 0) (A0 (A2 2) (A0 (A2 1) A4)))))))
noncomputable def za3:Fn:=⟨4,3,[],[],(A1 R2 A5)⟩
noncomputable def Dc:Sx:=(Ap (Bj 48 (A2 0)) (A2 1))
noncomputable def Dd:Sx:=(Ap (Bj 47 (A2 0)) (Al A4))
noncomputable def Jn:Fn:=⟨2,2,[],[],(A1 Dc (A1 Dd A5))⟩
noncomputable def G9:Sx:=(J3 (A8 3) (iOf (Ah 47 (A2 0))) (A1 (sIf (B3 true (Ao cIs (Ah 82 (A2 3)) (A3 .none)) (B3 true (T3 (Am 43 (A0 (A2 2) (A0 (Ah 62 (A2 3)) (A0 (Ah 62 (A2 1)) A4))))) (Bp true))) (A1 (C0 (Az CLS 19 (A2 3) (A0 (Ah 81 (A2 1)) A4))) A5) A5) A5))
noncomputable def G6:Sx:=(C0 (xM2 N6 Fi (Ah 47 (A2 0)) (A2 1)))
noncomputable def Uw:Fn:=⟨5,3,[],[],(A1 G9 (A1 G6 A5))⟩
noncomputable def Ez:Sx:=(Bg (Bw 3 [(2,1)] (iOf (Ah 47 (A2 0))) (Bl (A8 1) (B3 true (T3 (Az CLS 33 (A2 1) (A0 (Ab 2) A4))) (Bp true)) (Bz (A2 1)))))
noncomputable def Sb:Fn:=⟨2,2,[1],[],(A1 Ez A5)⟩
noncomputable def Fl:Sx:=(Ap (Bj 38 (A2 0)) (A2 1))
noncomputable def Fp:Sx:=(Ap (Bj 71 (A2 0)) (zc7 zgn))
noncomputable def G3:Sx:=(Ap (Bj 5 (A2 0)) (Al A4))
noncomputable def Fy:Sx:=(Ap (Bj 80 (A2 0)) (A3 (.int (.ofNat 1))))
noncomputable def Q9:Fn:=⟨3,2,[],[],(A1 Fl (A1 Fp (A1 G3 (A1 Fy A5))))⟩
noncomputable def D2:Sx:=(sIf (Ao Qd (A2 1) (Ah 71 (A2 0))) (A1 (Ap (R0 (Ah 71 (A2 0)) (A2 1)) (Ho 3 44 (A0 (A2 1) A4))) A5) A5)
noncomputable def D3:Sx:=(Bg (x2 A6 (Ah 71 (A2 0)) (A2 1)))
noncomputable def O9:Fn:=⟨3,2,[],[],(A1 D2 (A1 D3 A5))⟩
noncomputable def Ex:Sx:=(Ap (Bj 80 (A2 0)) (x2 Eg (Ah 80 (A2 0)) (A3 (.int (.ofNat 1)))))
noncomputable def Ey:Sx:=(Ap (Nd (B5 (Bj 51 (A2 1)) (B5 (Bj 81 (A2 1)) Dz))) (B6 (A0 (x1 No (Ah 5 (A2 0))) (A0 (Ah 80 (A2 0)) A4))))
noncomputable def F7:Sx:=(C0 (xM2 N6 Fi (Ah 5 (A2 0)) (A2 1)))
noncomputable def F3:Sx:=(C0 (Az CLS 2 (Az CLS 69 (A2 0) (A0 (Mh 7 69 (A2 1)) A4)) (A0 (A2 1) (A0 (Ah 38 (A2 0)) A4))))
noncomputable def F9:Sx:=(Bg (A2 1))
noncomputable def S6:Fn:=⟨3,2,[],[],(A1 Ex (A1 Ey (A1 F7 (A1 F3 (A1 F9 A5)))))⟩
noncomputable def Dj:Sx:=(Bg (Hh (Ao cIn (A2 1) (Ah 71 (A2 0))) (Az CLS 40 (x2 A6 (Ah 71 (A2 0)) (A2 1)) (A0 (A2 2) A4)) (Al A4)))
noncomputable def Qx:Fn:=⟨3,3,[],[],(A1 Dj A5)⟩
noncomputable def Ja:Sx:=(Ap (Bj 48 (A2 0)) (A2 1))
noncomputable def J7:Sx:=(Ap (Bj 55 (A2 0)) (x1 za6 (A2 2)))
noncomputable def J2:Sx:=(Ap (Bj 66 (A2 0)) (A2 3))
noncomputable def Ig:Sx:=(Ap (Bj 27 (A2 0)) (A2 4))
noncomputable def Ht:Sx:=(Ap (Bj 34 (A2 0)) (A2 5))
noncomputable def Ip:Sx:=(Ap (Bj 22 (A2 0)) (x1 za6 (A2 6)))
noncomputable def Td:Fn:=⟨8,7,[],[.bool false,.tup []],(A1 Ja (A1 J7 (A1 J2 (A1 Ig (A1 Ht (A1 Ip A5))))))⟩
noncomputable def H0:Sx:=(Bg (x1 zg1 (Bw 3 [] (zua (Ah 55 (A2 0)) (A2 1)) (Bl (Nd (B5 (A8 1) (B5 (A8 2) Dz))) (Bp true) (Bz (B6 (A0 (x2 A6 (A2 1) (A3 (.int (.ofNat 0)))) (A0 (A2 2) A4))))))))
noncomputable def Rs:Fn:=⟨4,2,[],[],(A1 H0 A5)⟩
noncomputable def Gm:Sx:=(Ap (Bj 18 (A2 0)) (zc7 (zkQ (A3 (.str [65,110,121])) (Ho 5 51 (A0 (A3 (.str [65,110,121])) (A0 (Al A4) (A0 (A3 .none) (A0 (A3 (.bool true)) A4))))) zgn)))
noncomputable def Rh:Fn:=⟨2,1,[],[],(A1 Gm A5)⟩
noncomputable def Hs:Sx:=(sIf (Ao cIn (Ah 48 (A2 1)) (Ah 18 (A2 0))) (A1 Db A5) A5)
noncomputable def Io:Sx:=(Ap (A8 2) (Ah 66 (A2 1)))
noncomputable def Iv:Sx:=(sIf (B3 false (Ao cNe (x2 A6 (A2 2) (A3 (.int (.ofNat 0)))) (A3 (.str [110,97,109,101]))) (B3 false (Ao Qd (x2 A6 (A2 2) (A3 (.int (.ofNat 1)))) (Ah 18 (A2 0))) (B3 false (zi2 (T3 (Ah 27 (x2 A6 (Ah 18 (A2 0)) (x2 A6 (A2 2) (A3 (.int (.ofNat 1)))))))) (Bp false)))) (A1 Db A5) A5)
noncomputable def Ik:Sx:=(sIf (B3 false (Ao cEq (A2 2) (A3 (.tup [.str [110,97,109,101],.str [84,121,112,101],.tup []]))) (B3 false (Ao cNe (x1 No (x2 A6 (A2 2) (A3 (.int (.ofNat 2))))) (x1 No (Ah 55 (x2 A6 (Ah 18 (A2 0)) (x2 A6 (A2 2) (A3 (.int (.ofNat 1)))))))) (Bp false))) (A1 Db A5) A5)
noncomputable def Hu:Sx:=(Ap (Ck 3) (Bw 2 [] (iOf (Ah 55 (A2 1))) (Bl (A8 1) (Bp true) (Bz (x2 A6 (A2 1) (A3 (.int (.ofNat 0))))))))
noncomputable def Ij:Sx:=(Ap (A8 5) (Bw 3 [(2,3)] (iOf (Am 6 (A0 (A2 2) A4))) (Bl (A8 1) (B3 true (Ao Qd (A2 1) (Ab 2)) (Bp true)) (Bz (A2 1)))))
noncomputable def Im:Sx:=(J3 (Nd (B5 (A8 4) (B5 (A8 6) Dz))) (iOf (Ah 22 (A2 1))) (A1 (Ap (A8 5) (x2 Eg (A2 5) (Bw 3 [(2,3)] (iOf (Am 6 (A0 (A2 6) A4))) (Bl (A8 1) (B3 true (Ao Qd (A2 1) (Ab 2)) (Bp true)) (Bz (A2 1)))))) A5))
noncomputable def Hy:Sx:=(sIf (B3 false (Ao cNe (A2 5) (Al A4)) (B3 false (Ao cNe (x1 No (x1 zg1 (Ah 22 (A2 1)))) (x1 No (Ah 22 (A2 1)))) (Bp false))) (A1 Db A5) A5)
noncomputable def Hq:Sx:=(Ap (R0 (Ah 18 (A2 0)) (Ah 48 (A2 1))) (A2 1))
noncomputable def Tk:Fn:=⟨13,2,[3],[],(A1 Hs (A1 Io (A1 Iv (A1 Ik (A1 Hu (A1 Ij (A1 Im (A1 Hy (A1 Hq A5)))))))))⟩
noncomputable def O6:Sx:=(sIf (Ao Qd (A2 1) (Ah 18 (A2 0))) (A1 Db A5) A5)
noncomputable def Oq:Sx:=(Bg (x2 A6 (Ah 18 (A2 0)) (A2 1)))
noncomputable def Yz:Fn:=⟨3,2,[],[],(A1 O6 (A1 Oq A5))⟩
noncomputable def Go:Sx:=(sIf (Ao cEq (x2 A6 (A2 1) (A3 (.int (.ofNat 0)))) (A3 (.str [116,121,112,101,111,102]))) (A1 Db A5) A5)
noncomputable def Gp:Sx:=(sIf (Ao cEq (x2 A6 (A2 1) (A3 (.int (.ofNat 0)))) (A3 (.str [102,110]))) (A1 Db A5) A5)
noncomputable def H9:Sx:=(sIf (B3 false (Ao cNe (x2 A6 (A2 1) (A3 (.int (.ofNat 0)))) (A3 (.str [110,97,109,101]))) (B3 false (Ao cEq (A2 1) (A3 (.tup [.str [110,97,109,101],.str [65,110,121],.tup []]))) (Bp false))) (A1 Db A5) A5)
noncomputable def Hc:Sx:=(Ap (A8 2) (Az CLS 16 (A2 0) (A0 (x2 A6 (A2 1) (A3 (.int (.ofNat 1)))) A4)))
noncomputable def Gn:Sx:=(Bg (Am 5 (A0 (Ah 66 (A2 2)) (A0 (Az CLS 70 (A2 2) (A0 (x2 A6 (A2 1) (A3 (.int (.ofNat 2)))) A4)) A4))))
noncomputable def Rw:Fn:=⟨7,2,[],[],(A1 Go (A1 Gp (A1 H9 (A1 Hc (A1 Gn A5)))))⟩
noncomputable def K8:Sx:=(Ap (A8 2) (Al (A0 (A2 1) A4)))
noncomputable def Kg:Sx:=(za2 (Ao cNe (x2 A6 (A2 2) (A3 (.int (.negSucc 0)))) (A3 (.tup [.str [110,97,109,101],.str [65,110,121],.tup []]))) (A1 (C0 (xM2 N6 Fi (A2 2) (Az CLS 67 (A2 0) (A0 (x2 A6 (A2 2) (A3 (.int (.negSucc 0)))) A4)))) A5))
noncomputable def Kn:Sx:=(Bg (A2 2))
noncomputable def Vc:Fn:=⟨4,2,[],[],(A1 K8 (A1 Kg (A1 Kn A5)))⟩
noncomputable def Uq:Sx:=(C0 (Az CLS 17 (A2 0) (A0 (Ho 5 51 (A0 (A2 1) (A0 (Al A4) (A0 (A2 2) (A0 (A2 3) A4))))) A4)))
noncomputable def zdZ:Fn:=⟨5,4,[],[.bool false],(A1 Uq A5)⟩
noncomputable def Mc:Sx:=(Ap (A8 0) (Ho 6 53 A4))
noncomputable def M2:Sx:=(J3 (A8 1) (iOf (B6 (A0 (A3 (.str [84,121,112,101])) (A0 (A3 (.str [70,117,110,99,116,105,111,110])) (A0 (A3 (.str [78,117,109,98,101,114])) (A0 (A3 (.str [65,98,115,116,114,97,99,116,67,104,97,114])) (A0 (A3 (.str [65,98,115,116,114,97,99,116,83,116,114,105,110,103])) (A0 (A3 (.str [69,120,99,101,112,116,105,111,110])) A4)))))))) (A1 (C0 (Am 58 (A0 (A2 0) (A0 (A2 1) (A0 (A3 (.tup [.str [110,97,109,101],.str [65,110,121],.tup []])) (A0 (A3 (.bool true)) A4)))))) A5))
noncomputable def M4:Sx:=(C0 (Am 58 (A0 (A2 0) (A0 (A3 (.str [82,101,97,108])) (A0 (Am 0 (A0 (A3 (.str [78,117,109,98,101,114])) A4)) (A0 (A3 (.bool true)) A4))))))
noncomputable def Ms:Sx:=(C0 (Am 58 (A0 (A2 0) (A0 (A3 (.str [73,110,116,101,103,101,114])) (A0 (Am 0 (A0 (A3 (.str [82,101,97,108])) A4)) (A0 (A3 (.bool true)) A4))))))
noncomputable def Ly:Sx:=(C0 (Am 58 (A0 (A2 0) (A0 (A3 (.str [83,105,103,110,101,100])) (A0 (Am 0 (A0 (A3 (.str [73,110,116,101,103,101,114])) A4)) (A0 (A3 (.bool true)) A4))))))
noncomputable def Ml:Sx:=(C0 (Am 58 (A0 (A2 0) (A0 (A3 (.str [85,110,115,105,103,110,101,100])) (A0 (Am 0 (A0 (A3 (.str [73,110,116,101,103,101,114])) A4)) (A0 (A3 (.bool true)) A4))))))
noncomputable def Lz:Sx:=(J3 (A8 1) (iOf (A3 (.tup [.str [73,110,116,56],.str [73,110,116,49,54],.str [73,110,116,51,50],.str [73,110,116,54,52],.str [66,105,103,73,110,116]]))) (A1 (C0 (Am 58 (A0 (A2 0) (A0 (A2 1) (A0 (Am 0 (A0 (A3 (.str [83,105,103,110,101,100])) A4)) A4))))) A5))
noncomputable def Ll:Sx:=(J3 (A8 1) (iOf (A3 (.tup [.str [85,73,110,116,56],.str [85,73,110,116,49,54],.str [85,73,110,116,51,50],.str [85,73,110,116,54,52]]))) (A1 (C0 (Am 58 (A0 (A2 0) (A0 (A2 1) (A0 (Am 0 (A0 (A3 (.str [85,110,115,105,103,110,101,100])) A4)) A4))))) A5))
noncomputable def Lj:Sx:=(J3 (Nd (B5 (A8 1) (B5 (A8 2) Dz))) (iOf (B6 (A0 (B6 (A0 (A3 (.str [66,111,111,108])) (A0 (A3 (.str [73,110,116,101,103,101,114])) A4))) (A0 (B6 (A0 (A3 (.str [67,104,97,114])) (A0 (A3 (.str [65,98,115,116,114,97,99,116,67,104,97,114])) A4))) (A0 (B6 (A0 (A3 (.str [83,116,114,105,110,103])) (A0 (A3 (.str [65,98,115,116,114,97,99,116,83,116,114,105,110,103])) A4))) A4))))) (A1 (C0 (Am 58 (A0 (A2 0) (A0 (A2 1) (A0 (Am 0 (A0 (A2 2) A4)) A4))))) A5))
noncomputable def Mp:Sx:=(C0 (Am 58 (A0 (A2 0) (A0 (A3 (.str [83,121,109,98,111,108])) (A0 (A3 (.tup [.str [110,97,109,101],.str [65,110,121],.tup []])) A4)))))
noncomputable def Jq:Sx:=(C0 (Am 58 (A0 (A2 0) (A0 (A3 (.str [78,111,116,104,105,110,103])) (A0 (A3 (.tup [.str [110,97,109,101],.str [65,110,121],.tup []])) A4)))))
noncomputable def Kx:Sx:=(C0 (Az CLS 17 (A2 0) (A0 (Ho 5 51 (A0 (A3 (.str [69,120,112,114])) (A0 (Al A4) (A0 (A3 (.tup [.str [110,97,109,101],.str [65,110,121],.tup []])) (A0 (A3 (.bool false)) (A0 (A3 (.bool true)) (A0 (Al (A0 (B6 (A0 (A3 (.str [104,101,97,100])) (A0 (Am 0 (A0 (A3 (.str [83,121,109,98,111,108])) A4)) A4))) (A0 (B6 (A0 (A3 (.str [97,114,103,115])) (A0 (A3 (.tup [.str [110,97,109,101],.str [65,110,121],.tup []])) A4))) A4))) A4))))))) A4)))
noncomputable def Ji:Sx:=(C0 (Am 60 (A0 (A2 0) A4)))
noncomputable def Jj:Sx:=(C0 (Am 61 (A0 (A2 0) A4)))
noncomputable def Ky:Sx:=(Bg (A2 0))
noncomputable def Xi:Fn:=⟨12,0,[],[],(A1 Mc (A1 M2 (A1 M4 (A1 Ms (A1 Ly (A1 Ml (A1 Lz (A1 Ll (A1 Lj (A1 Mp (A1 Jq (A1 Kx (A1 Ji (A1 Jj (A1 Ky A5)))))))))))))))⟩
noncomputable def Kz:Sx:=(Ap (A8 1) (Am 0 (A0 (A3 (.str [69,120,99,101,112,116,105,111,110])) A4)))
noncomputable def Kj:Sx:=(J3 (A8 2) (iOf (A3 (.tup [.str [68,105,118,105,100,101,69,114,114,111,114],.str [73,110,101,120,97,99,116,69,114,114,111,114],.str [84,121,112,101,69,114,114,111,114],.str [83,116,97,99,107,79,118,101,114,102,108,111,119,69,114,114,111,114]]))) (A1 (C0 (Am 58 (A0 (A2 0) (A0 (A2 2) (A0 (A2 1) A4))))) A5))
noncomputable def Kd:Sx:=(J3 (A8 2) (iOf (A3 (.tup [.str [65,114,103,117,109,101,110,116,69,114,114,111,114],.str [79,118,101,114,102,108,111,119,69,114,114,111,114],.str [68,105,109,101,110,115,105,111,110,77,105,115,109,97,116,99,104],.str [69,114,114,111,114,69,120,99,101,112,116,105,111,110]]))) (A1 (C0 (Az CLS 17 (A2 0) (A0 (Ho 5 51 (A0 (A2 2) (A0 (Al A4) (A0 (A2 1) (A0 (A3 (.bool false)) (A0 (A3 (.bool false)) (A0 (Al (A0 (B6 (A0 (A3 (.str [109,115,103])) (A0 (A3 (.tup [.str [110,97,109,101],.str [65,110,121],.tup []])) A4))) A4)) A4))))))) A4))) A5))
noncomputable def Ks:Sx:=(J3 (A8 2) (iOf (A3 (.tup [.str [77,101,116,104,111,100,69,114,114,111,114],.str [65,109,98,105,103,117,111,117,115,69,114,114,111,114]]))) (A1 (C0 (Az CLS 17 (A2 0) (A0 (Ho 5 51 (A0 (A2 2) (A0 (Al A4) (A0 (A2 1) (A0 (A3 (.bool false)) (A0 (A3 (.bool false)) (A0 (Al (A0 (B6 (A0 (A3 (.str [102])) (A0 (A3 (.tup [.str [110,97,109,101],.str [65,110,121],.tup []])) A4))) (A0 (B6 (A0 (A3 (.str [97,114,103,115])) (A0 (A3 (.tup [.str [110,97,109,101],.str [65,110,121],.tup []])) A4))) A4))) A4))))))) A4))) A5))
noncomputable def K1:Sx:=(C0 (Az CLS 17 (A2 0) (A0 (Ho 5 51 (A0 (A3 (.str [85,110,100,101,102,86,97,114,69,114,114,111,114])) (A0 (Al A4) (A0 (A2 1) (A0 (A3 (.bool false)) (A0 (A3 (.bool false)) (A0 (Al (A0 (B6 (A0 (A3 (.str [118,97,114])) (A0 (A3 (.tup [.str [110,97,109,101],.str [65,110,121],.tup []])) A4))) A4)) A4))))))) A4)))
noncomputable def Jm:Sx:=(C0 (Az CLS 17 (A2 0) (A0 (Ho 5 51 (A0 (A3 (.str [66,111,117,110,100,115,69,114,114,111,114])) (A0 (Al A4) (A0 (A2 1) (A0 (A3 (.bool false)) (A0 (A3 (.bool false)) (A0 (Al (A0 (B6 (A0 (A3 (.str [97])) (A0 (A3 (.tup [.str [110,97,109,101],.str [65,110,121],.tup []])) A4))) (A0 (B6 (A0 (A3 (.str [105])) (A0 (A3 (.tup [.str [110,97,109,101],.str [65,110,121],.tup []])) A4))) A4))) A4))))))) A4)))
noncomputable def V2:Fn:=⟨10,1,[],[],(A1 Kz (A1 Kj (A1 Kd (A1 Ks (A1 K1 (A1 Jm A5))))))⟩
noncomputable def O4:Sx:=(Ap (A8 1) (Al (A0 (B6 (A0 (A3 (.str [84,46,48])) (A0 (A3 (.tup [.str [98,111,116,116,111,109]])) (A0 (A3 (.tup [.str [110,97,109,101],.str [65,110,121],.tup []])) A4)))) (A0 (B6 (A0 (A3 (.str [78,46,48])) (A0 (A3 (.tup [.str [98,111,116,116,111,109]])) (A0 (A3 (.tup [.str [110,97,109,101],.str [65,110,121],.tup []])) A4)))) A4))))
noncomputable def Pj:Sx:=(Ap (Nd (B5 (A8 2) (B5 (A8 3) Dz))) (B6 (A0 (B6 (A0 (A3 (.str [118,97,114])) (A0 (A3 (.str [84,46,48])) A4))) (A0 (B6 (A0 (A3 (.str [118,97,114])) (A0 (A3 (.str [78,46,48])) A4))) A4))))
noncomputable def Og:Sx:=(C0 (Az CLS 17 (A2 0) (A0 (Ho 5 51 (A0 (A3 (.str [65,98,115,116,114,97,99,116,65,114,114,97,121])) (A0 (A2 1) (A0 (A3 (.tup [.str [110,97,109,101],.str [65,110,121],.tup []])) (A0 (A3 (.bool true)) A4))))) A4)))
noncomputable def P8:Sx:=(J3 (A8 4) (iOf (B6 (A0 (A3 (.str [65,114,114,97,121])) (A0 (A3 (.str [83,117,98,65,114,114,97,121])) A4)))) (A1 (C0 (Az CLS 17 (A2 0) (A0 (Ho 5 51 (A0 (A2 4) (A0 (A2 1) (A0 (Am 0 (A0 (A3 (.str [65,98,115,116,114,97,99,116,65,114,114,97,121])) (A0 (B6 (A0 (A2 2) (A0 (A2 3) A4))) A4))) (A0 (A3 (.bool false)) (A0 (A3 (.bool true)) A4)))))) A4))) A5))
noncomputable def Os:Sx:=(Ap (A8 5) (Al (A0 (B6 (A0 (A3 (.str [84,46,48])) (A0 (A3 (.tup [.str [98,111,116,116,111,109]])) (A0 (A3 (.tup [.str [110,97,109,101],.str [65,110,121],.tup []])) A4)))) A4)))
noncomputable def Oe:Sx:=(C0 (Az CLS 17 (A2 0) (A0 (Ho 5 51 (A0 (A3 (.str [65,98,115,116,114,97,99,116,82,97,110,103,101])) (A0 (A2 5) (A0 (Am 0 (A0 (A3 (.str [65,98,115,116,114,97,99,116,65,114,114,97,121])) (A0 (B6 (A0 (A2 2) (A0 (B6 (A0 (A3 (.str [110])) (A0 (A3 (.int (.ofNat 1))) A4))) A4))) A4))) (A0 (A3 (.bool true)) A4))))) A4)))
noncomputable def Oh:Sx:=(Ap (A8 6) (Am 0 (A0 (A3 (.str [65,98,115,116,114,97,99,116,82,97,110,103,101])) (A0 (B6 (A0 (A2 2) A4)) A4))))
noncomputable def O8:Sx:=(C0 (Az CLS 17 (A2 0) (A0 (Ho 5 51 (A0 (A3 (.str [85,110,105,116,82,97,110,103,101])) (A0 (A2 5) (A0 (A2 6) (A0 (A3 (.bool false)) (A0 (A3 (.bool false)) (A0 (Al (A0 (B6 (A0 (A3 (.str [115,116,97,114,116])) (A0 (A2 2) A4))) (A0 (B6 (A0 (A3 (.str [115,116,111,112])) (A0 (A2 2) A4))) A4))) A4))))))) A4)))
noncomputable def Ol:Sx:=(C0 (Az CLS 17 (A2 0) (A0 (Ho 5 51 (A0 (A3 (.str [83,116,101,112,82,97,110,103,101])) (A0 (A2 5) (A0 (A2 6) (A0 (A3 (.bool false)) (A0 (A3 (.bool false)) (A0 (Al (A0 (B6 (A0 (A3 (.str [115,116,97,114,116])) (A0 (A2 2) A4))) (A0 (B6 (A0 (A3 (.str [115,116,101,112])) (A0 (A2 2) A4))) (A0 (B6 (A0 (A3 (.str [115,116,111,112])) (A0 (A2 2) A4))) A4)))) A4))))))) A4)))
noncomputable def On:Sx:=(C0 (Az CLS 17 (A2 0) (A0 (Ho 5 51 (A0 (A3 (.str [82,101,102])) (A0 (A2 5) (A0 (A3 (.tup [.str [110,97,109,101],.str [65,110,121],.tup []])) (A0 (A3 (.bool false)) (A0 (A3 (.bool true)) (A0 (Al (A0 (B6 (A0 (A3 (.str [120])) (A0 (A2 2) A4))) A4)) A4))))))) A4)))
noncomputable def Mn:Sx:=(Ap (A8 7) (Al (A0 (B6 (A0 (A3 (.str [84,46,48])) (A0 (A3 (.tup [.str [98,111,116,116,111,109]])) (A0 (Am 0 (A0 (A3 (.str [73,110,116,101,103,101,114])) A4)) A4)))) A4)))
noncomputable def Mm:Sx:=(C0 (Az CLS 17 (A2 0) (A0 (Ho 5 51 (A0 (A3 (.str [82,97,116,105,111,110,97,108])) (A0 (A2 7) (A0 (Am 0 (A0 (A3 (.str [82,101,97,108])) A4)) (A0 (A3 (.bool false)) (A0 (A3 (.bool false)) (A0 (Al (A0 (B6 (A0 (A3 (.str [110,117,109])) (A0 (A2 2) A4))) (A0 (B6 (A0 (A3 (.str [100,101,110])) (A0 (A2 2) A4))) A4))) A4))))))) A4)))
noncomputable def Zp:Fn:=⟨12,1,[],[],(A1 O4 (A1 Pj (A1 Og (A1 P8 (A1 Os (A1 Oe (A1 Oh (A1 O8 (A1 Ol (A1 On (A1 Mn (A1 Mm A5))))))))))))⟩
noncomputable def Cs:Sx:=(Ap (Bj 51 (A2 0)) (A2 1))
noncomputable def Cv:Sx:=(Ap (Si 7 69 (A2 0)) (A2 2))
noncomputable def Co:Sx:=(Ap (Bj 62 (A2 0)) (A2 3))
noncomputable def Cu:Sx:=(Ap (Bj 49 (A2 0)) (A2 4))
noncomputable def Cr:Sx:=(Ap (Bj 26 (A2 0)) (A2 5))
noncomputable def Cw:Sx:=(Ap (Bj 14 (A2 0)) (A2 6))
noncomputable def Cq:Sx:=(Ap (Bj 73 (A2 0)) (A2 7))
noncomputable def Cn:Sx:=(Ap (Bj 81 (A2 0)) (A2 8))
noncomputable def Cp:Sx:=(Ap (Bj 82 (A2 0)) (A2 9))
noncomputable def Iz:Fn:=⟨10,10,[],[.int (.ofNat 0),.none],(A1 Cs (A1 Cv (A1 Co (A1 Cu (A1 Cr (A1 Cw (A1 Cq (A1 Cn (A1 Cp A5)))))))))⟩
noncomputable def D9:Sx:=(sIf (Ao cLt (A2 1) (Ah 81 (A2 0))) (A1 (Bg (A3 (.bool false))) A5) A5)
noncomputable def Da:Sx:=(Bg (zfo false (Sw cIs (Ah 82 (A2 0)) (A3 .none)) (Sw cLt (A2 1) (Ah 82 (A2 0)))))
noncomputable def K2:Fn:=⟨2,2,[],[],(A1 D9 (A1 Da A5))⟩
noncomputable def Fa:Sx:=(Ap (Bj 82 (A2 0)) (A2 1))
noncomputable def S7:Fn:=⟨2,2,[],[],(A1 Fa A5)⟩
noncomputable def Ef:Sx:=(Bg (B6 (A0 (Ah 51 (A2 0)) (A0 (Mh 7 69 (A2 0)) (A0 (Ah 62 (A2 0)) (A0 (Ah 81 (A2 0)) (A0 (Ah 82 (A2 0)) A4)))))))
noncomputable def R3:Fn:=⟨1,1,[],[],(A1 Ef A5)⟩
noncomputable def G5:Sx:=(Ap (A8 1) (A3 (.int (.ofNat 7))))
noncomputable def G7:Sx:=(J3 (A8 2) (iOf (x2 (K4 zj3) (A2 0) (A3 (.int (.ofNat 30))))) (A1 (Ap (A8 1) (x2 Zy (x2 Eg (x2 zer (A2 1) (A3 (.int (.ofNat 131)))) (x2 Zy (x1 zdL (A2 2)) (A3 (.int (.ofNat 1000003))))) (A3 (.int (.ofNat 2147483647))))) A5))
noncomputable def Gb:Sx:=(Ap (A8 3) (Hh (Ao cGt (x1 No (A2 0)) (A3 (.int (.ofNat 0)))) (x1 zkD (x1 zdL (x2 A6 (A2 0) (A3 (.int (.ofNat 0)))))) (A3 (.int (.ofNat 0)))))
noncomputable def Ge:Sx:=(Bg (Al (A0 (Hh (Ao cGe (A2 3) (x2 znl (A3 (.int (.ofNat 10))) (A3 (.int (.ofNat 18))))) (A2 3) (A3 (.int (.ofNat 0)))) (A0 (A2 1) A4))))
noncomputable def Uk:Fn:=⟨7,1,[],[],(A1 G5 (A1 G7 (A1 Gb (A1 Ge A5))))⟩
noncomputable def Do:Sx:=(sIf (Ao cGt (x2 A6 (A2 0) (A3 (.int (.ofNat 0)))) (A3 (.int (.ofNat 0)))) (A1 (Ap (Nd (B5 (R0 (A2 0) (A3 (.int (.ofNat 0)))) (B5 (A8 2) Dz))) (B6 (A0 (x2 zds (x2 A6 (A2 0) (A3 (.int (.ofNat 0)))) (A2 1)) (A0 (x2 Zy (x2 A6 (A2 0) (A3 (.int (.ofNat 0)))) (A2 1)) A4)))) (A1 (Bg (A2 2)) A5)) A5)
noncomputable def Ek:Sx:=(Ap (R0 (A2 0) (A3 (.int (.ofNat 1)))) (x2 Zy (x2 Eg (x2 zer (x2 A6 (A2 0) (A3 (.int (.ofNat 1)))) (A3 (.int (.ofNat 16807)))) (A3 (.int (.ofNat 101)))) (A3 (.int (.ofNat 2147483647)))))
noncomputable def El:Sx:=(Bg (x2 Zy (x2 zds (x2 A6 (A2 0) (A3 (.int (.ofNat 1)))) (A3 (.int (.ofNat 128)))) (A2 1)))
noncomputable def Pr:Fn:=⟨3,2,[],[],(A1 Do (A1 Ek (A1 El A5)))⟩
noncomputable def R4:Sx:=(sIf (Ao cEq (A2 0) (A3 (.str [98,111,116,104]))) (A1 (Ap (A8 2) (Al (A0 (B6 (A0 (A3 (.str [110,97,109,101])) (A0 (A3 (.str [77])) (A0 (B6 A4) A4)))) (A0 (B6 (A0 (A3 (.str [110,97,109,101])) (A0 (A3 (.str [78])) (A0 (B6 A4) A4)))) A4)))) (A1 (Bg (Am 2 (A0 (Hh (T3 (A2 1)) (x2 (K4 zlk) (A2 2) (A3 .none)) (A2 2)) A4))) A5)) A5)
noncomputable def Qe:Sx:=(Bg (Hh (Ao cEq (A2 0) (A3 (.str [65,110,121]))) (A3 (.tup [.str [110,97,109,101],.str [65,110,121],.tup []])) (B6 (A0 (A3 (.str [110,97,109,101])) (A0 (A2 0) (A0 (B6 A4) A4))))))
noncomputable def zba:Fn:=⟨5,2,[],[],(A1 R4 (A1 Qe A5))⟩
noncomputable def Gk:Sx:=(Ap (A8 3) (Bw 4 [(3,2)] (iOf (A2 1)) (Bl (A8 1) (Bp true) (Bz (Am 68 (A0 (A2 1) (A0 (Sw cEq (Ab 3) (A3 (.int (.ofNat 1)))) A4)))))))
noncomputable def Gy:Sx:=(sIf (B3 true (Ao cEq (Ab 2) (A3 (.int (.ofNat 2)))) (B3 true (Ao cIn (x2 A6 (A2 1) (A3 (.int (.ofNat 0)))) (B6 (A0 (A3 (.str [77])) (A0 (A3 (.str [78])) A4)))) (Bp true))) (A1 (Ap (A8 4) (Am 1 (A0 (x2 Eg (Al (A0 (B6 (A0 (A3 (.str [102,110])) (A0 (A2 0) A4))) (A0 (B6 (A0 (A3 (.str [118,97,114])) (A0 (A3 (.str [83,46,49])) A4))) A4))) (x2 (K4 zsf) (A2 3) (A3 (.int (.ofNat 1))))) A4))) (A1 (Bg (B6 (A0 (A3 (.str [97,108,108])) (A0 (A3 (.str [83,46,49])) (A0 (x2 A6 (A2 3) (A3 (.int (.ofNat 0)))) (A0 (x2 A6 (A2 3) (A3 (.int (.ofNat 0)))) (A0 (A2 4) A4))))))) A5)) A5)
noncomputable def Hb:Sx:=(Bg (Am 1 (A0 (x2 Eg (Al (A0 (B6 (A0 (A3 (.str [102,110])) (A0 (A2 0) A4))) A4)) (A2 3)) A4)))
noncomputable def Rf:Fn:=⟨6,3,[2],[],(A1 Gk (A1 Gy (A1 Hb A5)))⟩
noncomputable def G4:Sx:=(Bg (Bw 2 [] (iOf (Az CLS 40 (A2 0) (A0 (A2 1) (A0 (A2 2) A4)))) (Bl (A8 1) (Bp true) (Bz (Ah 51 (A2 1))))))
noncomputable def Uh:Fn:=⟨3,3,[],[],(A1 G4 A5)⟩
noncomputable def Vy:Sx:=(Ap (Ck 1) (Am 66 (A0 (A2 0) A4)))
noncomputable def Ys:Sx:=(Ap (A8 2) (Am 59 A4))
noncomputable def zaj:Sx:=(J3 (Ck 3) (iOf (B6 (A0 (A3 (.str [77])) (A0 (A3 (.str [78])) A4)))) (A1 (C0 (Az CLS 17 (A2 2) (A0 (Ho 5 51 (A0 (Ab 3) (A0 (Al A4) (A0 (A3 (.tup [.str [110,97,109,101],.str [65,110,121],.tup []])) (A0 (A3 (.bool false)) (A0 (A3 (.bool false)) (A0 (Al A4) A4))))))) A4))) A5))
noncomputable def Z7:Sx:=(zgL (B5 (A8 5) (B5 (A8 4) Dz)) (A0 (Ho 4 47 (A0 (A2 2) A4)) (A0 (Al A4) A4)))
noncomputable def Zo:Sx:=(sIf (B3 false (Ao cNe (Ah 80 (A2 4)) (A3 (.int (.ofNat 1)))) (B3 false (Ao cNe (Am 70 (A0 (A2 4) (A0 (A3 (.str [102])) (A0 (A3 (.int (.ofNat 1))) A4)))) (Al A4)) (Bp false))) (A1 (Bg (A3 (.bool false))) A5) A5)
noncomputable def Sk:Sx:=(J3 (A8 6) (Pi (x2 Eg (A3 (.int (.ofNat 2))) (Am 67 (A0 (Ab 1) (A0 (A3 (.int (.ofNat 6))) A4))))) (A1 (Ap (Ck 3) (x2 A6 (Al (A0 (A3 (.str [102])) (A0 (A3 (.str [102])) (A0 (A3 (.str [102])) (A0 (A3 (.str [103])) A4))))) (Am 67 (A0 (Ab 1) (A0 (A3 (.int (.ofNat 4))) A4))))) (A1 (Ap (A8 7) (Bw 4 [(3,1)] (Pi (x2 Eg (A3 (.int (.ofNat 1))) (x1 zdL (Sw cEq (Am 67 (A0 (Ab 1) (A0 (A3 (.int (.ofNat 3))) A4))) (A3 (.int (.ofNat 0))))))) (Bl (A8 1) (Bp true) (Bz (x2 A6 (Al (A0 (A3 (.str [77])) (A0 (A3 (.str [78])) (A0 (A3 (.str [65,110,121])) (A0 (A3 (.str [98,111,116,104])) A4))))) (Am 67 (A0 (Ab 3) (A0 (A3 (.int (.ofNat 4))) A4)))))))) (A1 (Ap (A8 8) (Am 69 (A0 (Ab 3) (A0 (A2 7) (A0 (Am 67 (A0 (Ab 1) (A0 (A3 (.int (.ofNat 3))) A4))) A4))))) (A1 (Ap (A8 9) (Az CLS 2 (A2 4) (A0 (Ho 7 62 (A0 (A3 (.int (.ofNat 99))) (A0 (Ab 3) (A0 (A2 8) (A0 (Al (A0 (A3 (.str [120])) A4)) (A0 (A3 (.bool false)) (A0 (A3 .none) (A0 (A3 .none) A4)))))))) A4))) (A1 (Ap (Ck 10) (x2 Eg (A2 6) (A3 (.int (.ofNat 2))))) (A1 (sIf (Ao cNe (B6 (A0 (Ah 51 (A2 9)) (A0 (Ah 81 (A2 9)) (A0 (Ah 82 (A2 9)) (A0 (Ah 80 (A2 4)) A4))))) (B6 (A0 (A2 6) (A0 (Ab 10) (A0 (A3 .none) (A0 (Ab 10) A4)))))) (A1 (Bg (A3 (.bool false))) A5) A5) (A1 (J3 (A8 11) (iOf (A2 5)) (A1 (sIf (B3 true (Ao cEq (x2 A6 (A2 11) (A3 (.int (.ofNat 0)))) (Ab 3)) (B3 true (Ao cEq (x2 A6 (A2 11) (A3 (.int (.ofNat 1)))) (A2 7)) (B3 true (Ao cIs (x2 A6 (A2 11) (A3 (.int (.ofNat 4)))) (A3 .none)) (Bp true)))) (A1 (Ap (R0 (A2 11) (A3 (.int (.ofNat 4)))) (Ab 10)) A5) A5) A5)) (A1 (C0 (xM2 N6 Fi (A2 5) (Al (A0 (Ab 3) (A0 (A2 7) (A0 (A2 6) (A0 (Ab 10) (A0 (A3 .none) (A0 (A2 8) A4))))))))) A5)))))))))
noncomputable def Vv:Sx:=(J3 (Ck 10) (Pi (x2 Eg (x1 No (A2 5)) (A3 (.int (.ofNat 4))))) (A1 (J3 (Ck 3) (iOf (B6 (A0 (A3 (.str [102])) (A0 (A3 (.str [103])) (A0 (A3 (.str [110,111,110,101])) A4))))) (A1 (Ap (A8 12) (Bw 4 [(2,3),(3,10)] (iOf (A2 5)) (Bl (A8 1) (B3 true (B3 true (Ao cEq (x2 A6 (A2 1) (A3 (.int (.ofNat 0)))) (Ab 2)) (B3 true (Ao cLe (x2 A6 (A2 1) (A3 (.int (.ofNat 3)))) (Ab 3)) (B3 true (B3 false (Ao cIs (x2 A6 (A2 1) (A3 (.int (.ofNat 4)))) (A3 .none)) (B3 false (Ao cLt (Ab 3) (x2 A6 (A2 1) (A3 (.int (.ofNat 4))))) (Bp false))) (Bp true)))) (Bp true)) (Bz (x2 A6 (A2 1) (A3 (.int (.ofNat 2)))))))) (A1 (sIf (Ao cNe (Am 70 (A0 (A2 4) (A0 (Ab 3) (A0 (Ab 10) A4)))) (A2 12)) (A1 (Bg (A3 (.bool false))) A5) A5) A5))) A5))
noncomputable def Vw:Sx:=(Ap (A8 13) (Bw 2 [] (iOf (A2 5)) (Bl (A8 1) (Bp true) (Bz (B6 (A0 (x2 A6 (A2 1) (A3 (.int (.ofNat 2)))) (A0 (x2 A6 (A2 1) (A3 (.int (.ofNat 0)))) (A0 (x2 A6 (A2 1) (A3 (.int (.ofNat 5)))) (A0 (x2 A6 (A2 1) (A3 (.int (.ofNat 3)))) (A0 (x2 A6 (A2 1) (A3 (.int (.ofNat 4)))) A4))))))))))
noncomputable def Vt:Sx:=(sIf (B3 false (Ao cNe (Bw 2 [] (iOf (Ah 5 (A2 4))) (Bl (A8 1) (Bp true) (Bz (Az CLS 72 (A2 1) A4)))) (A2 13)) (B3 false (Ao cEq (A3 (.tup [.str [98,111,116,116,111,109]])) (A3 (.tup [.str [110,97,109,101],.str [65,110,121],.tup []]))) (Bp false))) (A1 (Bg (A3 (.bool false))) A5) A5)
noncomputable def Vo:Sx:=(Bg (Sw cEq (Bw 2 [] (iOf (Ah 47 (Az CLS 69 (A2 4) (A0 (A3 (.str [102])) A4)))) (Bl (A8 1) (Bp true) (Bz (Ah 51 (A2 1))))) (Bw 2 [] (iOf (A2 5)) (Bl (A8 1) (B3 true (Ao cEq (x2 A6 (A2 1) (A3 (.int (.ofNat 0)))) (A3 (.str [102]))) (Bp true)) (Bz (x2 A6 (A2 1) (A3 (.int (.ofNat 2)))))))))
noncomputable def zkT:Fn:=⟨27,1,[1,3,10],[],(A1 Vy (A1 Ys (A1 zaj (A1 Z7 (A1 Zo (A1 Sk (A1 Vv (A1 Vw (A1 Vt (A1 Vo A5))))))))))⟩
noncomputable def FNS:T Fn:=(.node (some zgH) (.node (some zch) (.node (some Ts) (.node none (.node (some V6) (.node (some Ru) (.node (some K2) .nil .nil) .nil) (.node (some Q9) .nil .nil)) (.node none (.node (some zd0) (.node (some zkT) .nil .nil) .nil) (.node (some Yz) .nil .nil))) (.node none (.node (some Py) (.node (some Tp) (.node (some Pr) .nil .nil) .nil) (.node (some Td) .nil .nil)) (.node (some zdo) (.node (some za3) .nil .nil) (.node (some Xi) .nil .nil)))) (.node (some X5) (.node (some Tl) (.node (some Zh) (.node (some Ra) (.node (some R3) .nil .nil) .nil) (.node (some S6) .nil .nil)) (.node (some Z2) (.node (some Zm) .nil .nil) (.node (some Vc) .nil .nil))) (.node (some Zu) (.node (some Oy) (.node (some Rj) (.node (some Rf) .nil .nil) .nil) (.node (some Rh) .nil .nil)) (.node (some Px) (.node (some Uw) .nil .nil) (.node (some Zp) .nil .nil))))) (.node (some zcU) (.node (some Ud) (.node (some za7) (.node (some Uz) (.node (some Xa) (.node (some S7) .nil .nil) .nil) (.node (some O9) .nil .nil)) (.node (some X6) (.node (some Z9) .nil .nil) (.node (some Rw) .nil .nil))) (.node none (.node none (.node (some Us) (.node (some zba) .nil .nil) .nil) (.node (some Rs) .nil .nil)) (.node (some zd8) (.node (some Jn) .nil .nil) (.node (some V2) .nil .nil)))) (.node (some zbb) (.node (some Pn) (.node (some Rt) (.node (some Uv) (.node (some Uk) .nil .nil) .nil) (.node (some Qx) .nil .nil)) (.node (some X8) (.node (some Yp) .nil .nil) (.node (some zdZ) .nil .nil))) (.node (some Ry) (.node (some Xg) (.node (some Jh) (.node (some Uh) .nil .nil) .nil) (.node (some Tk) .nil .nil)) (.node (some zan) (.node (some Sb) .nil .nil) (.node (some Iz) .nil .nil))))))
structure Sg where
  a:Nat→Addr
  nm:Str
noncomputable def Hp (C:Nat):Addr:=CA.getD C 0
mutual
inductive R (σ:Sg) (N:Nat) (h:Heap):Value→D→Prop
  | none:R σ N h .none .none
  | bool (b:Bool):R σ N h (.bool b) (.bool b)
  | int (i:Int) (t:Tok):R σ N h (.int i t) (.int i)
  | str (s:Str) (t:Tok):PyData.strOk s = true→R σ N h (.str s t) (.str s.cps.toList)
  | sym (t:Tok):PyData.strOk σ.nm = true→R σ N h (.str σ.nm t) .sym
  | tup {a:Addr} {o:Obj} {vs:Array Value} {n:Nat} {xs:List D}:h.get? a = some o→o.cls = .type "tuple"→o.data = .seq vs n→RL σ N h vs.toList xs→R σ N h (.ref a) (.tup xs)
  | ref (n:Nat):n < N→R σ N h (.ref (σ.a n)) (.ref n)
  | obj {a:Addr} (C n:Nat):C < 8→n < N→h.get? a = some (instObj (Hp C) (σ.a n))→R σ N h (.ref a) (.obj C n)
inductive RL (σ:Sg) (N:Nat) (h:Heap):List Value→List D→Prop
  | nil:RL σ N h [] []
  | cons {v:Value} {vs:List Value} {d:D} {ds:List D}:R σ N h v d→RL σ N h vs ds→RL σ N h (v :: vs) (d :: ds)
end
noncomputable def RI (σ:Sg) (N:Nat) (h:Heap) (v:Value):D→Prop
  | .none=>v = .none
  | .bool b=>v = .bool b
  | .int i=>∃ t,v = .int i t
  | .ref n=>v = .ref (σ.a n) ∧ n < N
  | _=>True
theorem R.inv {σ:Sg} {N:Nat} {h:Heap} {v:Value} {d:D} (r:R σ N h v d):RI σ N h v d:=by
  cases r with
  | none=>rfl
  | bool b=>rfl
  | int i t=>exact ⟨t,rfl⟩
  | ref n hn=>exact ⟨rfl,hn⟩
  | _=>trivial
noncomputable def Imm (o:Obj):Prop:=(o.cls = .type "tuple" ∧ ∃ vs n,o.data = .seq vs n) ∨ o.data = .plain
noncomputable def zdB (N:Nat) (σ σ':Sg):Prop:=σ'.nm = σ.nm ∧ ∀ n,n < N→σ'.a n = σ.a n
theorem zdB.refl (N:Nat) (σ:Sg):zdB N σ σ:=⟨rfl,fun _ _=>rfl⟩
noncomputable def Dy (h h':Heap):Prop:=∀ b o,Imm o→h.get? b = some o→h'.get? b = some o
theorem R.mono {σ σ':Sg} {N N':Nat} {h h':Heap} (e:zdB N σ σ') (l:N ≤ N') (k:Dy h h') {v:Value} {d:D} (r:R σ N h v d):R σ' N' h' v d:=
  R.rec (motive_1:=fun v d _=>R σ' N' h' v d) (motive_2:=fun vs ds _=>RL σ' N' h' vs ds) .none .bool .int .str (fun t q=>by rw [← e.1] at q ⊢; exact .sym t q)
    (fun h1 h2 h3 _ r=>.tup (k _ _ (.inl ⟨h2,_,_,h3⟩) h1) h2 h3 r) (fun n hn=>by rw [← e.2 n hn]; exact .ref n (Nat.lt_of_lt_of_le hn l))
    (fun C n hC hn h1=>.obj C n hC (Nat.lt_of_lt_of_le hn l) (by rw [e.2 n hn]; exact k _ _ (.inr rfl) h1)) .nil (fun _ _ a b=>.cons a b) r
theorem RL.ind {σ:Sg} {N:Nat} {h:Heap} {P:List Value→List D→Prop} (n:P [] []) (c:∀ {v vs d ds},R σ N h v d→RL σ N h vs ds→P vs ds→P (v :: vs) (d :: ds)) {vs:List Value} {ds:List D} (r:RL σ N h vs ds):P vs ds:=
  RL.rec (motive_1:=fun _ _ _=>True) (motive_2:=fun vs ds _=>P vs ds) trivial (fun _=>trivial) (fun _ _=>trivial) (fun _ _ _=>trivial) (fun _ _=>trivial) (fun _ _ _ _ _=>trivial) (fun _ _=>trivial) (fun _ _ _ _ _=>trivial) n (fun a b _ ih=>c a b ih) r
theorem RL.mono {σ σ':Sg} {N N':Nat} {h h':Heap} (e:zdB N σ σ') (l:N ≤ N') (k:Dy h h') {vs:List Value} {ds:List D} (r:RL σ N h vs ds):RL σ' N' h' vs ds:=RL.ind .nil (fun a _ ih=>.cons (a.mono e l k) ih) r
theorem RL.length {σ:Sg} {N:Nat} {h:Heap} {vs:List Value} {ds:List D} (r:RL σ N h vs ds):vs.length = ds.length:=RL.ind (P:=fun vs ds=>vs.length = ds.length) rfl (fun _ _ e=>congrArg (· + 1) e) r
theorem RL.get {σ:Sg} {N:Nat} {h:Heap} {vs:List Value} {ds:List D} (r:RL σ N h vs ds):∀ (i:Nat) (d:D),ds[i]? = some d→∃ v,vs[i]? = some v ∧ R σ N h v d:=
  RL.ind (P:=fun vs ds=>∀ (i:Nat) (d:D),ds[i]? = some d→∃ v,vs[i]? = some v ∧ R σ N h v d) (fun i d e=>by cases e) (fun {v vs d ds} a _ ih i d' e=>by
    cases i with
    | zero=>cases e; exact ⟨_,rfl,a⟩
    | succ i=>exact ih i d' e) r
theorem RL.app {σ:Sg} {N:Nat} {h:Heap} {ws:List Value} {es:List D} (y:RL σ N h ws es) {vs:List Value} {ds:List D} (r:RL σ N h vs ds):RL σ N h (vs ++ ws) (ds ++ es):=RL.ind (P:=fun vs ds=>RL σ N h (vs ++ ws) (ds ++ es)) y (fun a _ b=>.cons a b) r
theorem RL.nil_inv {σ:Sg} {N:Nat} {h:Heap} {vs:List Value} (r:RL σ N h vs []):vs = []:=by cases r; rfl
theorem RL.cons_inv {σ:Sg} {N:Nat} {h:Heap} {vs:List Value} {d:D} {ds:List D} (r:RL σ N h vs (d :: ds)):∃ v vs',vs = v :: vs' ∧ R σ N h v d ∧ RL σ N h vs' ds:=by cases r with | cons a b=>exact ⟨_,_,rfl,a,b⟩
theorem bel {P:Nat→Prop} {n:Nat} (h:∀ C,C < n→P C) (p:P n) (C:Nat) (l:C < n + 1):P C:=by
  rcases Nat.lt_succ_iff_lt_or_eq.mp l with l | rfl
  · exact h C l
  · exact p
theorem Xx {P:Nat→Prop} (C:Nat) (l:C < 0):P C:=absurd l (Nat.not_lt_zero C)
theorem zuM {α:Type} {l:List α} (h:l.length = 2):∃ a b,l = [a,b]:=by
  cases l with
  | nil=>cases h
  | cons a r=>
    cases r with
    | nil=>cases h
    | cons b r=>
      cases r with
      | nil=>exact ⟨a,b,rfl⟩
      | cons c r=>cases h
theorem RL.one1 {σ:Sg} {N:Nat} {h:Heap} {vs:List Value} {a:D} (x:RL σ N h vs [a]):∃ v,vs = [v] ∧ R σ N h v a:=by
  cases x with
  | cons r1 x=>cases x; exact ⟨_,rfl,r1⟩
theorem RL.two {σ:Sg} {N:Nat} {h:Heap} {vs:List Value} {a b:D} (x:RL σ N h vs [a,b]):∃ v1 v2,vs = [v1,v2] ∧ R σ N h v1 a ∧ R σ N h v2 b:=by
  cases x with
  | cons r1 x=>
    cases x with
    | cons r2 x=>cases x; exact ⟨_,_,rfl,r1,r2⟩
inductive RD (σ:Sg) (N:Nat) (h:Heap):List (Str × Value)→List (List Nat × D)→Prop
  | nil:RD σ N h [] []
  | cons {k:Str} {v:Value} {d:D} {r:List (Str × Value)} {es:List (List Nat × D)}:PyData.strOk k = true→R σ N h v d→RD σ N h r es→RD σ N h ((k,v) :: r) ((k.cps.toList,d) :: es)
theorem RD.mono {σ σ':Sg} {N N':Nat} {h h':Heap} (e:zdB N σ σ') (l:N ≤ N') (k:Dy h h') {kvs:List (Str × Value)} {es:List (List Nat × D)} (x:RD σ N h kvs es):RD σ' N' h' kvs es:=by
  induction x with
  | nil=>exact .nil
  | cons q a b ih=>exact .cons q (a.mono e l k) ih
noncomputable def RO (σ:Sg) (N:Nat) (h:Heap) (ov:Option Value) (od:Option D):Prop:=match od with
  | some d=>∃ v,ov = some v ∧ R σ N h v d
  | none=>ov = none
noncomputable def Lo (w:World) (σ:Sg) (N:Nat) (h:Heap) (a:Addr):Bb→Prop
  | .list xs=>∃ vs,h.PlainList a vs ∧ RL σ N h vs.toList xs
  | .dict es=>∃ kvs,h.DictOf (PySem.strKind pw w) a kvs ∧ RD σ N h kvs es
  | .ns es=>∃ m,h.Ns a m ∧ h.DictLe a es.length ∧ ∀ (i:Nat) (x:Str),AT[i]? = some x→RO σ N h (m x) (lk es i)
  | .cell od=>∃ ov,h.IsCell a ov ∧ RO σ N h ov od
section
variable {w:World} {σ σ' σ'':Sg} {h h' h'':Heap} {st st' st'':St} {N N':Nat} {X X':Addr→Prop}
structure Ok (w:World) (σ:Sg) (h:Heap) (st:St):Prop where
  top:∀ b o,(HT w.params).get? b = some o→h.get? b = some o
  obj:∀ n o,st.get n = some o→Lo w σ st.N h (σ.a n) o
  lt:∀ n o,st.get n = some o→n < st.N
  inj:∀ n m o o',st.get n = some o→st.get m = some o'→σ.a n = σ.a m→n = m
  new:∀ n o,st.get n = some o→(HT w.params).get? (σ.a n) = none
  bN:st.base ≤ st.N
  sz:st.N ≤ 1000000
theorem B7 {n:Nat} (h:n ≤ 1000000):n + 1 < 2 ^ Ee:=by show n + 1 < 1048576; lia
theorem Ok.small (x:Ok w σ h st) (n:Nat) (o:Bb) (e:st.get n = some o):n + 1 < 2 ^ Ee:=B7 (Nat.le_of_lt (Nat.lt_of_lt_of_le (x.lt n o e) x.sz))
noncomputable def NoX:Addr→Prop:=fun _=>False
structure Aw (X:Addr→Prop) (σ:Sg) (h:Heap) (st:St) (σ':Sg) (h':Heap) (st':St):Prop where
  le:st.N ≤ st'.N
  same:zdB st.N σ σ'
  dom:∀ b o,h.get? b = some o→∃ o',h'.get? b = some o'
  keptB:∀ b o,h.get? b = some o→¬ X b→(∀ n o',st.base ≤ n→st.get n = some o'→σ.a n ≠ b)→h'.get? b = some o
  fresh:∀ n o,st.N ≤ n→st'.get n = some o→h.get? (σ'.a n) = none
  old:∀ n o,n < st.N→st'.get n = some o→∃ o',st.get n = some o'
  low:st'.base = st.base ∧ ∀ n,n < st.base→st'.get n = st.get n
theorem Aw.kept (x:Aw X σ h st σ' h' st') (b:Addr) (o:Obj) (e:h.get? b = some o) (q:¬ X b) (k:∀ n o',st.get n = some o'→σ.a n ≠ b):h'.get? b = some o:=x.keptB b o e q fun n o' _=>k n o'
theorem Aw.refl (hl:∀ n o,st.get n = some o→n < st.N):Aw X σ h st σ h st:=⟨Nat.le_refl _,.refl _ _,fun b o e=>⟨o,e⟩,fun _ _ e _ _=>e,fun n o l e=>absurd (hl n o e) (Nat.not_lt.mpr l),fun n o l e=>⟨o,e⟩,rfl,fun _ _=>rfl⟩
theorem Ok.refl (x:Ok w σ h st):Aw X σ h st σ h st:=Aw.refl x.lt
theorem Aw.weaken (hx:∀ b,X b→X' b) (x:Aw X σ h st σ' h' st'):Aw X' σ h st σ' h' st':=⟨x.le,x.same,x.dom,fun b o e q k=>x.keptB b o e (fun z=>q (hx b z)) k,x.fresh,x.old,x.low⟩
theorem Aw.any (x:Aw NoX σ h st σ' h' st'):Aw X σ h st σ' h' st':=x.weaken fun _ f=>f.elim
theorem Aw.trans (x:Aw X σ h st σ' h' st') (y:Aw X σ' h' st' σ'' h'' st''):Aw X σ h st σ'' h'' st'' where
  le:=Nat.le_trans x.le y.le
  same:=⟨y.same.1.trans x.same.1,fun n l=>(y.same.2 n (Nat.lt_of_lt_of_le l x.le)).trans (x.same.2 n l)⟩
  dom:=fun b o e=>let ⟨o',e'⟩:=x.dom b o e; y.dom b o' e'
  keptB:=fun b o e q k=>y.keptB b o (x.keptB b o e q k) q fun n o' hb e' z=>by
    by_cases l:n < st.N
    · obtain ⟨o₀,e₀⟩:=x.old n o' l e'
      exact k n o₀ (x.low.1 ▸ hb) e₀ ((x.same.2 n l).symm.trans z)
    · have:=x.fresh n o' (Nat.not_lt.mp l) e'
      rw [z,e] at this; cases this
  fresh:=fun n o l e=>by
    by_cases l':n < st'.N
    · obtain ⟨o₀,e₀⟩:=y.old n o l' e
      rw [y.same.2 n l']; exact x.fresh n o₀ l e₀
    · have z:=y.fresh n o (Nat.not_lt.mp l') e
      cases q:h.get? (σ''.a n) with
      | none=>rfl
      | some o₁=>
        obtain ⟨o₂,e₂⟩:=x.dom _ _ q
        rw [e₂] at z; cases z
  old:=fun n o l e=>by
    obtain ⟨o₀,e₀⟩:=y.old n o (Nat.lt_of_lt_of_le l x.le) e
    exact x.old n o₀ l e₀
  low:=⟨y.low.1.trans x.low.1,fun n l=>(y.low.2 n (x.low.1 ▸ l)).trans (x.low.2 n l)⟩
theorem Ns.data {h:Heap} {a:Addr} {m:Str→Option Value} {o:Obj} (x:h.Ns a m) (e:h.get? a = some o):∃ es n,o.data = .dict es n:=by
  obtain ⟨o',es,ep,ho,hd,_⟩:=x
  rw [e] at ho; cases ho
  exact ⟨es,ep,hd⟩
theorem Ns.notImm {h:Heap} {a:Addr} {m:Str→Option Value} {o:Obj} (x:h.Ns a m) (e:h.get? a = some o):¬ Imm o:=by
  obtain ⟨es',n,hd⟩:=Ns.data x e
  rintro (⟨_,_,_,c⟩ | p) <;> first | (rw [hd] at c; cases c) | (rw [hd] at p; cases p)
theorem Lo.notImm {a:Addr} {ao:Bb} {o:Obj} (x:Lo w σ N h a ao) (e:h.get? a = some o):¬ Imm o:=by
  intro i
  cases ao with
  | list xs=>
    obtain ⟨vs,hl,_⟩:=x
    obtain ⟨o',ho,hc,n,hd⟩:=hl.isList
    rw [e] at ho; cases ho
    rcases i with ⟨c,_⟩ | p
    · rw [hc] at c; exact absurd c (by decide)
    · rw [hd] at p; cases p
  | dict es=>
    obtain ⟨kvs,⟨o',es',ep,ho,_,hd,_⟩,_⟩:=x
    rw [e] at ho; cases ho
    rcases i with ⟨_,_,_,c⟩ | p <;> first | (rw [hd] at c; cases c) | (rw [hd] at p; cases p)
  | ns es=>
    obtain ⟨m,hn,_⟩:=x
    exact Ns.notImm hn e i
  | cell od=>
    obtain ⟨ov,⟨o',ho,hd⟩,_⟩:=x
    rw [e] at ho; cases ho
    rcases i with ⟨_,_,_,c⟩ | p <;> first | (rw [hd] at c; cases c) | (rw [hd] at p; cases p)
theorem Lo.there {a:Addr} {ao:Bb} (x:Lo w σ N h a ao):∃ o,h.get? a = some o:=by
  cases ao with
  | list xs=>obtain ⟨vs,hl,_⟩:=x; obtain ⟨o',ho,_⟩:=hl.isList; exact ⟨o',ho⟩
  | dict es=>obtain ⟨kvs,⟨o',es',ep,ho,_⟩,_⟩:=x; exact ⟨o',ho⟩
  | ns es=>obtain ⟨m,⟨o,_,_,ho,_⟩,_⟩:=x; exact ⟨o,ho⟩
  | cell od=>obtain ⟨ov,⟨o',ho,hd⟩,_⟩:=x; exact ⟨o',ho⟩
theorem RO.mono {ov:Option Value} {od:Option D} (e:zdB N σ σ') (l:N ≤ N') (k:Dy h h') (x:RO σ N h ov od):RO σ' N' h' ov od:=by
  cases od with
  | none=>exact x
  | some d=>obtain ⟨v,a,b⟩:=x; exact ⟨v,a,b.mono e l k⟩
theorem Lo.mono {a:Addr} {ao:Bb} (e:zdB N σ σ') (l:N ≤ N') (k:Dy h h') (g:∀ o,h.get? a = some o→h'.get? a = some o) (x:Lo w σ N h a ao):Lo w σ' N' h' a ao:=by
  cases ao with
  | list xs=>obtain ⟨vs,hl,r⟩:=x; exact ⟨vs,hl.at g,r.mono e l k⟩
  | dict es=>
    obtain ⟨kvs,⟨o',es',ep,ho,r⟩,d⟩:=x
    exact ⟨kvs,⟨o',es',ep,g _ ho,r⟩,d.mono e l k⟩
  | ns es=>
    obtain ⟨m,⟨o,es',ep,ho,r⟩,z,f⟩:=x
    exact ⟨m,⟨o,es',ep,g _ ho,r⟩,z.of_same ho (g _ ho),fun i x q=>(f i x q).mono e l k⟩
  | cell od=>
    obtain ⟨ov,⟨o',ho,hd⟩,f⟩:=x
    exact ⟨ov,⟨o',g _ ho,hd⟩,f.mono e l k⟩
theorem Ok.keepI (x:Ok w σ h st) (y:Aw X σ h st σ' h' st') (hX:∀ b o,X b→h.get? b = some o→¬ Imm o):Dy h h':=fun b o i e=>y.kept b o e (fun z=>hX b o z e i) fun n o' e' q=>by
  subst q
  exact (x.obj n o' e').notImm e i
theorem Ok.keepI0 (x:Ok w σ h st) (y:Aw NoX σ h st σ' h' st'):Dy h h':=x.keepI y fun _ _ f=>f.elim
theorem R.goes (x:Ok w σ h st) (y:Aw NoX σ h st σ' h' st') {v:Value} {d:D} (r:R σ st.N h v d):R σ' st'.N h' v d:=r.mono y.same y.le (x.keepI0 y)
theorem RL.goes (x:Ok w σ h st) (y:Aw NoX σ h st σ' h' st') {v:List Value} {d:List D} (r:RL σ st.N h v d):RL σ' st'.N h' v d:=r.mono y.same y.le (x.keepI0 y)
theorem Dy.all (k:∀ b o,h.get? b = some o→h'.get? b = some o):Dy h h':=fun b o _ e=>k b o e
theorem Ok.grow (x:Ok w σ h st) (k:∀ b o,h.get? b = some o→h'.get? b = some o):Ok w σ h' st where
  top:=fun b o' e=>k b _ (x.top b o' e)
  obj:=fun n o' e=>(x.obj n o' e).mono (.refl _ _) (Nat.le_refl _) (.all k) (fun o' e=>k _ _ e)
  lt:=x.lt
  inj:=x.inj
  new:=x.new
  bN:=x.bN
  sz:=x.sz
theorem Aw.grow (x:Ok w σ h st) (k:∀ b o,h.get? b = some o→h'.get? b = some o):Aw X σ h st σ h' st:=⟨Nat.le_refl _,.refl _ _,fun b o' e=>⟨_,k b _ e⟩,fun b o' e _ _=>k b _ e,fun n o l e=>absurd (x.lt n o e) (Nat.not_lt.mpr l),fun n o l e=>⟨o,e⟩,rfl,fun _ _=>rfl⟩
noncomputable def more (σ:Sg) (n:Nat) (a:Addr):Sg:=⟨fun m=>if m = n then a else σ.a m,σ.nm⟩
theorem An (N:Nat) (a:Addr):zdB N σ (more σ N a):=⟨rfl,fun n l=>by unfold more; exact if_neg (Nat.ne_of_lt l)⟩
theorem Bv (N:Nat) (a:Addr):(more σ N a).a N = a:=if_pos rfl
theorem Bs (n m:Nat) (o:Bb) (b:n + 1 < 2 ^ Ee):(st.put n o).get m = if m = n then some o else st.get m:=T.get_put o Ee st.H n m b
theorem Ai (m:Nat) (o:Bb) (b:st.N + 1 < 2 ^ Ee):(st.new o).get m = if m = st.N then some o else st.get m:=T.get_put o Ee st.H st.N m b
set_option tactic.hygienic true in
theorem Ok.fresh (x:Ok w σ h st) {o:Bb} {a:Addr} (b':st.N < 1000000) (hn:h.get? a = none) (k:∀ b o,h.get? b = some o→h'.get? b = some o) (r:Lo w (more σ st.N a) (st.N + 1) h' a o):
    Ok w (more σ st.N a) h' (st.new o):=by
  have b:st.N + 1 < 2 ^ Ee:=B7 (Nat.le_of_lt b')
  exact {
  top:=fun b o' e=>k _ _ (x.top b o' e)
  obj:=fun n o' e=>by
    rw [Ai n o b] at e
    split at e
    · rename_i q; subst q; cases e; rw [Bv]; exact r
    · rw [(An _ a).2 n (x.lt n o' e)]
      exact (x.obj n o' e).mono (An _ a) (Nat.le_succ _) (.all k) (fun o' e=>k _ _ e)
  lt:=fun n o' e=>by
    rw [Ai n o b] at e
    split at e
    · rename_i q; subst q; exact Nat.lt_succ_self _
    · exact Nat.lt_succ_of_lt (x.lt n o' e)
  inj:=fun n m o₁ o₂ e₁ e₂ q=>by
    rw [Ai n o b] at e₁
    rw [Ai m o b] at e₂
    have ne:∀ {j o'},st.get j = some o'→σ.a j ≠ a:=fun {j o'} e z=>by
      obtain ⟨ob,eb⟩:=(x.obj j o' e).there
      rw [z,hn] at eb; cases eb
    split at e₁ <;> split at e₂
    · rename_i q1 q2; rw [q1,q2]
    · rename_i q1 q2
      subst q1
      rw [Bv,(An _ a).2 m (x.lt m o₂ e₂)] at q
      exact absurd q.symm (ne e₂)
    · rename_i q1 q2
      subst q2
      rw [Bv,(An _ a).2 n (x.lt n o₁ e₁)] at q
      exact absurd q (ne e₁)
    · rw [(An _ a).2 m (x.lt m o₂ e₂),(An _ a).2 n (x.lt n o₁ e₁)] at q
      exact x.inj n m o₁ o₂ e₁ e₂ q
  new:=fun n o' e=>by
    rw [Ai n o b] at e
    split at e
    · rename_i q
      subst q
      rw [Bv]
      cases z:(HT w.params).get? a with
      | none=>rfl
      | some ob=>have:=x.top _ _ z; rw [hn] at this; cases this
    · rw [(An _ a).2 n (x.lt n o' e)]
      exact x.new n o' e
  bN:=Nat.le_succ_of_le x.bN
  sz:=b' }
set_option tactic.hygienic true in
theorem Aw.fresh_ (x:Ok w σ h st) {o:Bb} {a:Addr} (b':st.N < 1000000) (hn:h.get? a = none) (k:∀ b o,h.get? b = some o→h'.get? b = some o):
    Aw X σ h st (more σ st.N a) h' (st.new o):=by
  have b:st.N + 1 < 2 ^ Ee:=B7 (Nat.le_of_lt b')
  exact {
  le:=Nat.le_succ _
  same:=An _ a
  dom:=fun b o e=>⟨o,k _ _ e⟩
  keptB:=fun b o e _ _=>k _ _ e
  fresh:=fun n o' l e=>by
    rw [Ai n o b] at e
    split at e
    · rename_i q; subst q; rw [Bv]; exact hn
    · exact absurd (x.lt n o' e) (Nat.not_lt.mpr l)
  old:=fun n o' l e=>by
    rw [Ai n o b,if_neg (Nat.ne_of_lt l)] at e
    exact ⟨o',e⟩
  low:=⟨rfl,fun n l=>by rw [Ai n o b,if_neg (Nat.ne_of_lt (Nat.lt_of_lt_of_le l x.bN))]⟩ }
theorem B8 (h:Heap):h.get? h.objs.size = none:=by
  cases q:h.get? h.objs.size with
  | none=>rfl
  | some o=>exact absurd (Heap.lt_size q) (Nat.lt_irrefl _)
set_option tactic.hygienic true in
theorem Ok.upd (x:Ok w σ h st) {n:Nat} {o₀ o:Bb} (e₀:st.get n = some o₀) (hs:Heap.SameBut (σ.a n) h h') (r:Lo w σ st.N h' (σ.a n) o):Ok w σ h' (st.put n o):=by
  have b:=x.small n _ e₀
  have kI:Dy h h':=fun b' o' i e=>(hs.2 b' fun q=>by subst q; exact (x.obj n o₀ e₀).notImm e i).trans e
  have there:∀ {m o'},(st.put n o).get m = some o'→∃ o₁,st.get m = some o₁:=fun {m o'} e=>by
    rw [Bs n m o b] at e
    split at e
    · rename_i q; subst q; exact ⟨_,e₀⟩
    · exact ⟨_,e⟩
  refine ⟨fun b' o' e=>(hs.2 b' fun q=>?_).trans (x.top b' o' e),fun m o' e=>?_,fun m o' e=>?_,fun m m' o₁ o₂ e₁ e₂ q=>?_,fun m o' e=>?_,x.bN,x.sz⟩
  · subst q; have:=x.new n o₀ e₀; rw [e] at this; cases this
  · rw [Bs n m o b] at e
    split at e
    · rename_i q; subst q; cases e; exact r
    · rename_i q
      exact (x.obj m o' e).mono (.refl _ _) (Nat.le_refl _) kI (fun o₁ e₁=>(hs.2 _ fun z=>q (x.inj m n _ _ e e₀ z)).trans e₁)
  · obtain ⟨o₁,e₁⟩:=there e; exact x.lt m o₁ e₁
  · obtain ⟨p₁,f₁⟩:=there e₁
    obtain ⟨p₂,f₂⟩:=there e₂
    exact x.inj m m' _ _ f₁ f₂ q
  · obtain ⟨o₁,e₁⟩:=there e; exact x.new m o₁ e₁
theorem ze7 {a:Addr} (hs:Heap.SameBut a h h') (ha:∃ o,h'.get? a = some o) (b:Addr) (o:Obj) (e:h.get? b = some o):∃ o',h'.get? b = some o':=by
  by_cases q:b = a
  · subst q; exact ha
  · exact ⟨o,(hs.2 b q).trans e⟩
set_option tactic.hygienic true in
theorem Aw.upd_ (x:Ok w σ h st) {n:Nat} {o₀ o:Bb} (bb:st.base ≤ n) (e₀:st.get n = some o₀) (hs:Heap.SameBut (σ.a n) h h') (r:Lo w σ st.N h' (σ.a n) o):Aw X σ h st σ h' (st.put n o):=by
  have b:=x.small n _ e₀
  exact {
  le:=Nat.le_refl _
  same:=.refl _ _
  dom:=ze7 hs r.there
  keptB:=fun b' o' e _ k=>(hs.2 b' fun q=>k n o₀ bb e₀ q.symm).trans e
  fresh:=fun m o' l e=>by
    rw [Bs n m o b] at e
    split at e
    · rename_i q; subst q; exact absurd (x.lt m o₀ e₀) (Nat.not_lt.mpr l)
    · exact absurd (x.lt m o' e) (Nat.not_lt.mpr l)
  old:=fun m o' l e=>by
    rw [Bs n m o b] at e
    split at e
    · rename_i q; subst q; exact ⟨_,e₀⟩
    · exact ⟨_,e⟩
  low:=⟨rfl,fun m l=>by rw [Bs n m o b,if_neg (Nat.ne_of_lt (Nat.lt_of_lt_of_le l bb))]⟩ }
theorem Ok.aside (x:Ok w σ h st) {a:Addr} (hi:∀ o,h.get? a = some o→¬ Imm o) (ht:(HT w.params).get? a = none) (hf:∀ n o,st.get n = some o→σ.a n ≠ a) (hs:∀ b o,b ≠ a→h.get? b = some o→h'.get? b = some o):Ok w σ h' st where
  top:=fun b o' e=>hs b _ (fun q=>by subst q; rw [e] at ht; cases ht) (x.top b o' e)
  obj:=fun n o' e=>(x.obj n o' e).mono (.refl _ _) (Nat.le_refl _) (fun b o₁ i e₁=>hs b _ (fun q=>by subst q; exact hi _ e₁ i) e₁) (fun o₁ e₁=>hs _ _ (hf n o' e) e₁)
  lt:=x.lt
  inj:=x.inj
  new:=x.new
  bN:=x.bN
  sz:=x.sz
theorem Aw.aside_ {σ₀:Sg} {h₀:Heap} {st₀:St} (y:Aw X σ₀ h₀ st₀ σ h st) {a:Addr} (e₀:h₀.get? a = none) (hs:∀ b o,b ≠ a→h.get? b = some o→h'.get? b = some o):Aw X σ₀ h₀ st₀ σ h' st where
  le:=y.le
  same:=y.same
  dom:=fun b o e=>by
    obtain ⟨o',e'⟩:=y.dom b o e
    exact ⟨o',hs b _ (fun q=>by subst q; rw [e] at e₀; cases e₀) e'⟩
  keptB:=fun b o e q k=>hs b _ (fun q=>by subst q; rw [e] at e₀; cases e₀) (y.keptB b o e q k)
  fresh:=y.fresh
  old:=y.old
  low:=y.low
theorem Aw.less (y:Aw X σ h st σ' h' st') (hx:∀ b o,X b→h.get? b = some o→X' b):Aw X' σ h st σ' h' st':=
  ⟨y.le,y.same,y.dom,fun b o e q k=>y.keptB b o e (fun z=>q (hx b o z e)) k,y.fresh,y.old,y.low⟩
end
section
structure Rm (A:Around) (d:Nat):Prop where
  hd:A.handled = none
  dp:A.depth + d + 8 < recursionLimit
  un:A.units + 8 * d + 256 < cLine
theorem Rm.deeper {A:Around} {d:Nat} (r:Rm A (d + 1)) (env:Env):Rm (A.deeper env) d:=⟨r.hd,by show A.depth + 1 + d + 8 < _; have:=r.dp; lia,by show A.units + 3 + 8 * d + 256 < _; have:=r.un; lia⟩
theorem Rm.room {A:Around} {d:Nat} (r:Rm A d):A.depth < recursionLimit:=by have:=r.dp; lia
theorem Rm.units {A:Around} {d:Nat} (r:Rm A d):A.units < cLine:=by have:=r.un; lia
theorem Rm.units64 {A:Around} {d:Nat} (r:Rm A d):A.units + 64 < cLine:=by have:=r.un; lia
abbrev HP:=Sg→St→Heap→Prop
noncomputable def Tr {α:Type} (w:World) (d:Nat) (X:Addr→Prop) (st:St) (Pre:HP) (t:Sem α) (Post:Sg→St→Heap→α→Prop) (st':St):Prop:=
  ∀ (A:Around) (σ:Sg) (s:Shared) (Q:α→Shared→Prop) (E:Value→Shared→Prop),Rm A d→Ok w σ s.heap st→Pre σ st s.heap →
    (∀ (a:α) (σ':Sg) (h':Heap) (tk':Nat),Ok w σ' h' st'→Post σ' st' h' a→Aw X σ s.heap st σ' h' st'→Q a { s with heap:=h',toks:=tk' }) →
    wpAny (model pw w) A t Q E s
noncomputable def Ld (w:World) (Pre:HP):Prop:=∀ (σ:Sg) (h:Heap) (st:St) (σ':Sg) (h':Heap) (st':St),Ok w σ h st→Ok w σ' h' st'→Aw NoX σ h st σ' h' st'→Pre σ st h→Pre σ' st' h'
section
variable {w:World} {α β:Type} {d:Nat} {X:Addr→Prop} {st st₁ st₂:St} {Pre Pre':HP}
theorem Ld.and {P P':HP} (a:Ld w P) (b:Ld w P'):Ld w (fun σ st h=>P σ st h ∧ P' σ st h):=fun σ h st σ' h' st' x x' y z=>⟨a σ h st σ' h' st' x x' y z.1,b σ h st σ' h' st' x x' y z.2⟩
theorem Ld.R {v:Value} {x:D}:Ld w (fun σ st h=>R σ st.N h v x):=fun σ h st σ' h' st' o _ g r=>r.goes o g
theorem Tr.bind {m:Sem α} {f:α→Sem β} {P:Sg→St→Heap→α→Prop} {P2:Sg→St→Heap→β→Prop}
    (h1:Tr w d NoX st Pre m P st₁) (hs:Ld w Pre) (h2:∀ a,Tr w d X st₁ (fun σ st h=>Pre σ st h ∧ P σ st h a) (f a) P2 st₂):Tr w d X st Pre (m >>= f) P2 st₂:=
  fun A σ s Q E r o p k=>wpAny_bind (h1 A σ s _ E r o p fun a σ' h' tk' o' q g=>h2 a A σ' _ Q E r o' ⟨hs _ _ _ _ _ _ o o' g p,q⟩ fun b σ'' h'' tk'' o'' q' g'=>k b σ'' h'' tk'' o'' q' (g.any.trans g'))
theorem Tr.pre {t:Sem α} {P:Sg→St→Heap→α→Prop} (h:Tr w d X st Pre t P st₁) (hp:∀ σ st h,Pre' σ st h→Pre σ st h):Tr w d X st Pre' t P st₁:=
  fun A σ s Q E r o p k=>h A σ s Q E r o (hp _ _ _ p) k
theorem Tr.post {t:Sem α} {P P':Sg→St→Heap→α→Prop} (h:Tr w d X st Pre t P st₁) (hp:∀ σ st h a,P σ st h a→P' σ st h a):Tr w d X st Pre t P' st₁:=
  fun A σ s Q E r o p k=>h A σ s Q E r o p fun a σ' h' tk' o' q g=>k a σ' h' tk' o' (hp _ _ _ _ q) g
theorem Tr.holding {vs:List Value} {t:Sem α} {P:Sg→St→Heap→α→Prop} (h:Tr w d X st Pre t P st₁):Tr w d X st Pre (holding vs t) P st₁:=
  fun A σ s Q E r o p k=>wpAny_holding (h A σ s Q E r o p k)
theorem Tr.at {pos:Pos} {f:Unit→Sem β} {P:Sg→St→Heap→β→Prop} (h:Tr w d X st Pre (f ()) P st₁):Tr w d X st Pre (PySem.standAt pos >>= f) P st₁:=
  fun A σ s Q E r o p k=>wpAny_bind (wpAny_standAt (h A σ s Q E r o p k))
theorem Tr.look {t:Sem α} {P:Sg→St→Heap→α→Prop} (h:∀ (A:Around) (σ:Sg) (s:Shared) (Q:α→Shared→Prop) (E:Value→Shared→Prop),Rm A d→Ok w σ s.heap st→Pre σ st s.heap →
    (∀ a tk',P σ st s.heap a→Q a { s with toks:=tk' })→wpAny (model pw w) A t Q E s):Tr w d X st Pre t P st:=
  fun A σ s Q E r o p k=>h A σ s Q E r o p fun a tk' q=>k a σ s.heap tk' o q o.refl
end
structure Ag (w:World) (nt:List (Str × NameKind)) (env:Env) (e:Ax) (σ:Sg) (st:St) (h:Heap):Prop where
  kind:env.scope.kind = .function
  names:env.scope.names = nt
  ns:∃ m,h.Ns env.locals m ∧ ∀ i x d,nt[i]? = some (x,.local)→Bi e.vals i = some d→∃ v,m x = some v ∧ R σ st.N h v d
  free:∀ n o,st.get n = some o→σ.a n ≠ env.locals
  top:(HT w.params).get? env.locals = none
  cell:∀ i c,lk e.cells i = some c→c < st.N ∧ ∃ x,nt[i]? = some (x,.cell) ∧ env.cells.lookup x = some (σ.a c)
  globals:env.globals = mainGlobals
  builtins:env.builtins = builtinsNs
theorem Ag.stays {w:World} {nt:List (Str × NameKind)} {env:Env} {e:Ax}:Ld w (Ag w nt env e):=fun σ h st σ' h' st' o o' g x=>by
  obtain ⟨m,hn,hm⟩:=x.ns
  have hl:∃ ob,h.get? env.locals = some ob:=let ⟨ob,_,_,a,_⟩:=hn; ⟨ob,a⟩
  refine ⟨x.kind,x.names,⟨m,?_,fun i y d a b=>?_⟩,fun n ao q=>?_,x.top,fun i c q=>?_,x.globals,x.builtins⟩
  · obtain ⟨ob,es,ep,ho,r⟩:=hn
    exact ⟨ob,es,ep,g.kept _ _ ho (fun f=>f) (fun n o' q=>x.free n o' q),r⟩
  · obtain ⟨v,e1,e2⟩:=hm i y d a b
    exact ⟨v,e1,e2.goes o g⟩
  · intro z
    by_cases l:n < st.N
    · obtain ⟨o₀,e₀⟩:=g.old n ao l q
      exact x.free n o₀ e₀ ((g.same.2 n l).symm.trans z)
    · have:=g.fresh n ao (Nat.not_lt.mp l) q
      obtain ⟨ob,hob⟩:=hl
      rw [z,hob] at this; cases this
  · obtain ⟨a,n,b,f⟩:=x.cell i c q
    exact ⟨Nat.lt_of_lt_of_le a g.le,n,b,by rw [g.same.2 _ a]; exact f⟩
theorem Nx:∀ {nt:List (Str × NameKind)},(nt.map (·.1)).Nodup→∀ {i:Nat} {x:Str} {k:NameKind},nt[i]? = some (x,k)→nt.lookup x = some k
  | [],_,i,x,k,e=>by simp at e
  | (y,j) :: r,hn,0,x,k,e=>by cases e; simp
  | (y,j) :: r,hn,i + 1,x,k,e=>by
    rw [List.map_cons,List.nodup_cons] at hn
    have e':r[i]? = some (x,k):=by simpa using e
    have:x ≠ y:=fun q=>hn.1 (q ▸ List.mem_map_of_mem (f:=(·.1)) (List.mem_of_getElem? e'))
    rw [List.lookup_cons,beq_eq_false_iff_ne.mpr this]
    exact Nx hn.2 e'
theorem zdn {nt:List (Str × NameKind)} (hn:(nt.map (·.1)).Nodup) {i j:Nat} {x:Str} {k k':NameKind} (e:nt[i]? = some (x,k)) (e':nt[j]? = some (x,k')):i = j:=by
  have a:(nt.map (·.1))[i]? = some x:=by rw [List.getElem?_map,e]; rfl
  have b:(nt.map (·.1))[j]? = some x:=by rw [List.getElem?_map,e']; rfl
  exact (List.getElem?_inj (List.getElem?_eq_some_iff.mp a).1 hn).mp (a.trans b.symm)
theorem Rk {α:Type}:∀ (l:List (Option α)) (i:Nat),Bi l i = (l[i]?).join
  | [],i=>rfl
  | a :: r,0=>rfl
  | a :: r,i + 1=>by rw [List.getElem?_cons_succ]; exact Rk r i
theorem Hr {α:Type}:∀ (l:List α) (i:Nat),D0 l i = l[i]?
  | [],i=>rfl
  | a :: r,0=>rfl
  | a :: r,i + 1=>by rw [List.getElem?_cons_succ]; exact Hr r i
theorem Za {α:Type} (v:α):∀ (l:List α) (i:Nat),L9 v l i = l.set i v
  | [],i=>rfl
  | a :: r,0=>rfl
  | a :: r,i + 1=>congrArg (a :: ·) (Za v r i)
theorem zif {α:Type} (v:α) (l:List (Option α)) (i j:Nat) {d:α} (h:Bi (L9 (some v) l i) j = some d):(i = j ∧ d = v) ∨ (i ≠ j ∧ Bi l j = some d):=by
  rw [Rk,Za] at h
  by_cases e:i = j
  · subst e
    rw [List.getElem?_set_self'] at h
    cases z:l[i]? with
    | none=>rw [z] at h; cases h
    | some _=>rw [z] at h; cases h; exact .inl ⟨rfl,rfl⟩
  · rw [List.getElem?_set_ne e,← Rk] at h
    exact .inr ⟨e,h⟩
structure Ae (nt:List (Str × NameKind)):Prop where
  apart:(nt.map (·.1)).Nodup
  dbg:∀ (i:Nat) (x:Str) (k:NameKind),nt[i]? = some (x,k)→(x == ("__debug__":Str)) = false
section
variable {w:World} {d:Nat} {X:Addr→Prop} {st:St} {env:Env} {e:Ax} {nt:List (Str × NameKind)} {Pre:HP}
theorem Ag.kindOf (hn:Ae nt) {σ:Sg} {h:Heap} (x:Ag w nt env e σ st h) {i:Nat} {n:Str} {k:NameKind} (q:nt[i]? = some (n,k)):env.kindOf n = some k:=by
  unfold Env.kindOf; rw [x.names]; exact Nx hn.apart q
theorem zkm (hn:Ae nt) {i:Nat} {n:Str} {x:D} {pos:Pos} (q:nt[i]? = some (n,.local)) (hv:Bi e.vals i = some x):
    Tr w d X st (Ag w nt env e) (eval (.Name n pos) env) (fun σ st h v=>R σ st.N h v x) st:=Tr.look fun A σ s Q E r o p k=>by
  obtain ⟨m,hm,hr⟩:=p.ns
  obtain ⟨v,a,b⟩:=hr i n x q hv
  exact wpAny_Name (wpAny_loadName_local p.kind (p.kindOf hn q) hm a (k v s.toks b)) (hn.dbg _ _ _ q)
theorem zmN (hn:Ae nt) {i c:Nat} {n:Str} {x:D} {pos:Pos} (q:nt[i]? = some (n,.cell)) (hc:lk e.cells i = some c) (hf:st.get c = some (.cell (some x))):
    Tr w d X st (Ag w nt env e) (eval (.Name n pos) env) (fun σ st h v=>R σ st.N h v x) st:=Tr.look fun A σ s Q E r o p k=>by
  obtain ⟨_,n',q',hl⟩:=p.cell i c hc
  rw [q] at q'
  obtain ⟨rfl,_⟩:=Prod.mk.inj (Option.some.inj q')
  obtain ⟨ov,hcell,v,rfl,b⟩:=o.obj _ _ hf
  exact wpAny_Name (wpAny_loadName_cell p.kind (p.kindOf hn q) hl hcell (k v s.toks b)) (hn.dbg _ _ _ q)
theorem zfY {i:Int} {kd:Nat} {pos:Pos}:Tr w d X st Pre (eval (.Constant (.int i) kd pos) env) (fun σ st h v=>R σ st.N h v (.int i)) st:=
  Tr.look fun A σ s Q E r o p k=>wpAny_mkInt (k _ _ (.int i _))
theorem zpg {x:Str} {kd:Nat} {pos:Pos} (hs:PyData.strOk x = true):Tr w d X st Pre (eval (.Constant (.str x) kd pos) env) (fun σ st h v=>R σ st.N h v (.str x.cps.toList)) st:=
  Tr.look fun A σ s Q E r o p k=>wpAny_mkText (k _ _ (.str x _ hs))
theorem zmo {kd:Nat} {pos:Pos}:Tr w d X st Pre (eval (.Constant .none kd pos) env) (fun σ st h v=>R σ st.N h v .none) st:=
  Tr.look fun A σ s Q E r o p k=>wpAny_pure (k _ s.toks .none)
theorem zlg {b:Bool} {kd:Nat} {pos:Pos}:Tr w d X st Pre (eval (.Constant (.bool b) kd pos) env) (fun σ st h v=>R σ st.N h v (.bool b)) st:=
  Tr.look fun A σ s Q E r o p k=>wpAny_pure (k _ s.toks (.bool b))
noncomputable def E9 (env:Env):Addr→Prop:=fun b=>b = env.locals
theorem Ag.stored (hn:Ae nt) {i:Nat} {n:Str} {x:D} {v:Value} (q:nt[i]? = some (n,.local)) {A:Around} {σ:Sg} {s:Shared} {Q:Unit→Shared→Prop} {E:Value→Shared→Prop} (o:Ok w σ s.heap st) (p:Ag w nt env e σ st s.heap)
    (rv:R σ st.N s.heap v x) (k:∀ h',Ok w σ h' st→Ag w nt env ⟨L9 (some x) e.vals i,e.cells⟩ σ st h'→Aw (E9 env) σ s.heap st σ h' st→Q () { s with heap:=h',toks:=s.toks + 1 }):
    wpAny (model pw w) A (storeName env n v) Q E s:=by
  obtain ⟨m,hm,hr⟩:=p.ns
  refine wpAny_storeName_local (p.kindOf hn q) hm (fun h' hn₂ hs=>?_) (by rw [p.kind]; rfl)
  have kI:Dy s.heap h':=fun b' o' i' e'=>(hs.2 b' fun z=>by subst z; exact Ns.notImm hm e' i').trans e'
  have hd:∀ b o,b ≠ env.locals→s.heap.get? b = some o→h'.get? b = some o:=fun b o z e'=>(hs.2 b z).trans e'
  refine k h' (o.aside (fun o' e'=>Ns.notImm hm e') p.top p.free hd) ⟨p.kind,p.names,⟨_,hn₂,fun j y dd q1 q2=>?_⟩,p.free,p.top,p.cell,p.globals,p.builtins⟩ ?_
  · rcases zif _ _ _ _ q2 with ⟨rfl,rfl⟩ | ⟨ij,q3⟩
    · rw [q] at q1
      obtain ⟨rfl,_⟩:=Prod.mk.inj (Option.some.inj q1)
      exact ⟨v,if_pos rfl,rv.mono (.refl _ _) (Nat.le_refl _) kI⟩
    · obtain ⟨v',a,c⟩:=hr j y dd q1 q3
      refine ⟨v',?_,c.mono (.refl _ _) (Nat.le_refl _) kI⟩
      rw [if_neg]
      · exact a
      · intro z; subst z; exact ij (zdn hn.apart q q1)
  · refine ⟨Nat.le_refl _,.refl _ _,fun b o' e'=>?_,fun b o' e' z _=>hd b o' z e',fun n o' l e'=>absurd (o.lt n o' e') (Nat.not_lt.mpr l),fun n o' l e'=>⟨o',e'⟩,rfl,fun _ _=>rfl⟩
    by_cases z:b = env.locals
    · subst z; obtain ⟨ob,_,_,a,_⟩:=hn₂; exact ⟨ob,a⟩
    · exact ⟨o',hd b o' z e'⟩
end
theorem bg {G:Prop} (h:∀ P:Prop,(G→P)→P):G:=h G id
theorem bgQ {α:Type} {M:Model} {A:Around} {t:Sem α} {Q:α→Shared→Prop} {E:Value→Shared→Prop} {s:Shared} (h:∀ Q':α→Shared→Prop,(∀ a s,Q a s→Q' a s)→wpAny M A t Q' E s):wpAny M A t Q E s:=h Q fun _ _ x=>x
end
section
noncomputable def fnA (f:Nat):Addr:=FA.getD f 0
noncomputable def Hi (w:World) (b:Nat) (st:St) (a:Addr) (ds:List D) (dv:D) (st':St):Prop:=
  ∀ vs (A:Around) (σ:Sg) (s:Shared) (R:Result→Shared→Prop),Rm A b→Ok w σ s.heap st→RL σ st.N s.heap vs ds →
    (∀ v σ' h' tk',Ok w σ' h' st'→Mine.R σ' st'.N h' v dv→Aw NoX σ s.heap st σ' h' st'→R (.ok (.ret v)) { s with heap:=h',toks:=tk' })→codeAny (model pw w) A (.call (.ref a) ⟨vs,[]⟩) R s
theorem Hi.tr {w:World} {b:Nat} {st st':St} {a:Addr} {ds:List D} {dv:D} (x:Hi w b st a ds dv st') (vs:List Value):Tr w b NoX st (fun σ st h=>RL σ st.N h vs ds) (call (.ref a) vs) (fun σ st h v=>R σ st.N h v dv) st':=
  fun A σ s Q E r o p k=>wpAny_call (x vs A σ s _ r o p fun v σ' h' tk' o' rv g=>k v σ' h' tk' o' rv g)
noncomputable def Cx (w:World) (m:Nat) (c:Cal):Prop:=
  ∀ f ds st k r,c f ds st k = some r→E3 (fun dv st'=>k dv st' = some r) fun dv st'=>Hi w (2 * m + 2) st (fnA f) ds dv st'
section
variable (w:World) (nt:List (Str × NameKind))
noncomputable def SX (x:Sm D) (ex:Expr):Prop:=
  ∀ m c,Cx w m c→∀ e st k r,x c e st k = some r→E3 (fun dv st'=>k dv st' = some r) fun dv st'=>∀ env,Tr w (2 * m + 3) NoX st (Ag w nt env e) (eval ex env) (fun σ st h v=>R σ st.N h v dv) st'
noncomputable def SL (xs:Sm (List D)) (es:List Expr):Prop:=
  ∀ m c,Cx w m c→∀ e st k r,xs c e st k = some r→E4 (fun ds st'=>k ds st' = some r) (fun ds st'=>ds.length = es.length) fun ds st'=>∀ env pos,Tr w (2 * m + 3) NoX st (Ag w nt env e) (spliced (backTo pos (starEach es env))) (fun σ st h v=>RL σ st.N h v ds) st'
noncomputable def ST (t:Sm Bool) (ex:Expr):Prop:=
  ∀ m c,Cx w m c→∀ e st k r,t c e st k = some r→E3 (fun b st'=>k b st' = some r) fun b st'=>∀ env,Tr w (2 * m + 3) NoX st (Ag w nt env e) (isTrue ex env (eval ex env)) (fun σ st h v=>v = b) st'
noncomputable def STs (isAnd:Bool) (t:Sm Bool) (es:List Expr):Prop:=
  ∀ m c,Cx w m c→∀ e st k r,t c e st k = some r→E3 (fun b st'=>k b st' = some r) fun b st'=>∀ env,Tr w (2 * m + 3) NoX st (Ag w nt env e) (allTrue (if isAnd then .And else .Or) es env) (fun σ st h v=>v = b) st'
noncomputable def SBs (isAnd:Bool) (t:Sm D) (es:List Expr):Prop:=
  ∀ m c,Cx w m c→∀ e st k r,t c e st k = some r→E3 (fun b st'=>k b st' = some r) fun b st'=>∀ env pos,Tr w (2 * m + 3) NoX st (Ag w nt env e) (boolOp pos (if isAnd then .And else .Or) (evalEach es env)) (fun σ st h v=>R σ st.N h v b) st'
noncomputable def SS (s:Sx) (stm:Stmt):Prop:=
  ∀ m c,Cx w m c→∀ e st ret next r,s c e st ret next = some r →
    (E3 (fun dv st'=>ret dv st' = some r) fun dv st'=>∀ env,Tr w (2 * m + 3) (E9 env) st (Ag w nt env e) (exec stm env) (fun σ st h f=>∃ v,f = .ret v ∧ R σ st.N h v dv) st') ∨
    (E3 (fun e' st'=>next e' st' = some r) fun e' st'=>∀ env,Tr w (2 * m + 3) (E9 env) st (Ag w nt env e) (exec stm env) (fun σ st h f=>f = .next ∧ Ag w nt env e' σ st h) st')
noncomputable def SSs (s:Sx) (ss:List Stmt):Prop:=
  ∀ m c,Cx w m c→∀ e st ret next r,s c e st ret next = some r →
    (E3 (fun dv st'=>ret dv st' = some r) fun dv st'=>∀ env,Tr w (2 * m + 3) (E9 env) st (Ag w nt env e) (execs ss env) (fun σ st h f=>∃ v,f = .ret v ∧ R σ st.N h v dv) st') ∨
    (E3 (fun e' st'=>next e' st' = some r) fun e' st'=>∀ env,Tr w (2 * m + 3) (E9 env) st (Ag w nt env e) (execs ss env) (fun σ st h f=>f = .next ∧ Ag w nt env e' σ st h) st')
noncomputable def SG (t:Tg) (ex:Expr):Prop:=
  ∀ m c,Cx w m c→∀ e d st k r,t c e d st k = some r→E3 (fun e' st'=>k e' st' = some r) fun e' st'=>∀ env v,Tr w (2 * m + 3) (E9 env) st (fun σ st h=>Ag w nt env e σ st h ∧ R σ st.N h v d) (assign ex env v) (fun σ st h _=>Ag w nt env e' σ st h) st'
end
variable {w:World} {nt:List (Str × NameKind)}
noncomputable def zgp (f:Op2) (t:Value→Value→Sem Value):Prop:=∀ st a b k r,f st a b k = some r→E3 (fun dr st'=>k dr st' = some r) fun dr st'=>∀ d va vb,Tr w (d + 1) NoX st (fun σ st h=>R σ st.N h va a ∧ R σ st.N h vb b) (t va vb) (fun σ st h v=>R σ st.N h v dr) st'
theorem Tr.operate {d:Nat} {X:Addr→Prop} {st st':St} {Pre:HP} {vs:List Value} {t:Sem Value} {P:Sg→St→Heap→Value→Prop} (h:Tr w d X st Pre t P st'):Tr w d X st Pre (operate vs t) P st':=
  fun A σ s Q E r o p k=>wpAny_operateT (h A σ s Q E r o p k)
theorem Tr.ret {α:Type} {d:Nat} {X:Addr→Prop} {st:St} {Pre:HP} {a:α} {P:Sg→St→Heap→α→Prop} (h:∀ σ h,Pre σ st h→P σ st h a):Tr w d X st Pre (Pure.pure a:Sem α) P st:=
  fun A σ s Q E r o p k=>wpAny_pure (k a σ s.heap s.toks o (h _ _ p) o.refl)
theorem A9 {i:Int} {kd pos}:SX w nt (A3 (.int i)) (.Constant (.int i) kd pos):=fun m c _ e st k r h=>⟨_,_,h,fun env=>zfY⟩
theorem zty {x:Str} {l:List Nat} {kd pos} (hl:x.cps.toList = l) (hs:PyData.strOk x = true):SX w nt (A3 (.str l)) (.Constant (.str x) kd pos):=fun m c _ e st k r h=>⟨_,_,h,fun env=>hl ▸ zpg hs⟩
theorem Cf {kd pos}:SX w nt (A3 .none) (.Constant .none kd pos):=fun m c _ e st k r h=>⟨_,_,h,fun env=>zmo⟩
theorem Ba {b kd pos}:SX w nt (A3 (.bool b)) (.Constant (.bool b) kd pos):=fun m c _ e st k r h=>⟨_,_,h,fun env=>zlg⟩
theorem zrK (hn:Ae nt) {i:Nat} {n:Str} {pos} (q:nt[i]? = some (n,.local)):SX w nt (A2 i) (.Name n pos):=fun m c _ e st k r h=>by
  obtain ⟨d,h1,h2⟩:=Bf.mp h
  exact ⟨_,_,h2,fun env=>zkm hn q h1⟩
theorem zqV (hn:Ae nt) {i:Nat} {n:Str} {pos} (q:nt[i]? = some (n,.cell)):SX w nt (Ab i) (.Name n pos):=fun m c _ e st k r h=>by
  obtain ⟨j,h1,h2⟩:=Bf.mp h
  obtain ⟨v,h3,h4⟩:=Ym.mp h2
  obtain ⟨d,h5,h6⟩:=Bf.mp h4
  subst h5
  exact ⟨_,_,h6,fun env=>zmN hn q h1 h3⟩
theorem zkw:SL w nt A4 []:=fun m c _ e st k r h=>⟨_,_,h,rfl,fun env pos=>Tr.ret fun _ _ _=>.nil⟩
noncomputable def Ay:Expr→Bool
  | .Starred ..=>false
  | _=>true
theorem L6 {ex:Expr} {es:List Expr} {env:Env} (h:Ay ex = true):starEach (ex :: es) env = (false,eval ex env) :: starEach es env:=by
  cases ex <;> first | rfl | (exact absurd h Bool.false_ne_true)
theorem zey {x:Sm D} {xs:Sm (List D)} {ex:Expr} {es:List Expr} (hx:SX w nt x ex) (hs:SL w nt xs es) (hn:autoParam (Ay ex = true) tR):SL w nt (A0 x xs) (ex :: es):=fun m c hc e st k r h=>by
  obtain ⟨dx,st1,h1,t1⟩:=hx m c hc e st _ r h
  obtain ⟨ds,st2,h2,hl,t2⟩:=hs m c hc e st1 _ r h1
  refine ⟨_,_,h2,by rw [List.length_cons,hl,List.length_cons],fun env pos=>?_⟩
  rw [L6 hn]
  show Tr w _ _ st _ (eval ex env >>= fun v=>(Pure.pure [v]:Sem (List Value)) >>= fun here=>holding here (spliced (backTo pos (starEach es env))) >>= fun rest=>Pure.pure (here ++ rest)) _ _
  refine Tr.bind (t1 env) Ag.stays fun v=>?_
  show Tr w _ _ st1 _ (holding [v] (spliced (backTo pos (starEach es env))) >>= fun rest=>Pure.pure ([v] ++ rest)) _ _
  exact Tr.bind (Tr.holding ((t2 env pos).pre fun _ _ _ p=>p.1)) (Ag.stays.and Ld.R) fun vs=>Tr.ret fun _ _ p=>.cons p.1.2 p.2
theorem Cg {f:Op2} {x y:Sm D} {ex ey:Expr} {op:Operator} {pos} (hf:zgp (w:=w) f fun a b=>binaryOp op a b) (hx:SX w nt x ex) (hy:SX w nt y ey):SX w nt (x2 f x y) (.BinOp ex op ey pos):=fun m c hc e st k r h=>by
  obtain ⟨dx,st1,h1,t1⟩:=hx m c hc e st _ r h
  obtain ⟨dy,st2,h2,t2⟩:=hy m c hc e st1 _ r h1
  obtain ⟨dr,st3,h3,t3⟩:=hf _ _ _ _ _ h2
  refine ⟨_,_,h3,fun env=>?_⟩
  rw [arm_eval_BinOp]
  exact Tr.bind (t1 env) Ag.stays fun a=>Tr.bind (Tr.holding ((t2 env).pre fun _ _ _ p=>p.1)) (Ag.stays.and Ld.R) fun b=>Tr.at (Tr.operate ((t3 (2 * m + 2) a b).pre fun _ _ _ p=>⟨p.1.2,p.2⟩))
noncomputable def zbI (f:St→D→D→Option Bool) (op:CmpOp):Prop:=∀ st a b r,f st a b = some r→∀ d va vb,Tr w (d + 1) NoX st (fun σ st h=>R σ st.N h va a ∧ R σ st.N h vb b) (compareOp op va vb) (fun σ st h v=>v = .bool r) st
theorem P1 {f:St→D→D→Option Bool} {x y:Sm D} {ex ey:Expr} {op:CmpOp} {pos} (hf:zbI (w:=w) f op) (hx:SX w nt x ex) (hy:SX w nt y ey) (hm:autoParam (behindInMarks op ey = false) tR):SX w nt (Sw f x y) (.Compare ex [op] [ey] pos):=fun m c hc e st k r h=>by
  obtain ⟨dx,st1,h1,t1⟩:=hx m c hc e st _ r h
  obtain ⟨dy,st2,h2,t2⟩:=hy m c hc e st1 _ r h1
  obtain ⟨b,h3,h4⟩:=Bf.mp h2
  refine ⟨_,_,h4,fun env=>?_⟩
  rw [eval_Compare1]
  unfold markedBehindIn
  rw [hm]
  exact Tr.bind (t1 env) Ag.stays fun a=>Tr.bind (Tr.holding ((t2 env).pre fun _ _ _ p=>p.1)) (Ag.stays.and Ld.R) fun b'=>Tr.at (Tr.operate (((hf _ _ _ _ h3 (2 * m + 2) a b').pre fun _ _ _ p=>⟨p.1.2,p.2⟩).post fun _ _ _ v q=>by subst q; exact .bool _))
theorem Ac {f:St→D→D→Option Bool} {x y:Sm D} {ex ey:Expr} {op:CmpOp} {pos} (hf:zbI (w:=w) f op) (hx:SX w nt x ex) (hy:SX w nt y ey) (hm:autoParam (behindInMarks op ey = false) tR):ST w nt (Ao f x y) (.Compare ex [op] [ey] pos):=fun m c hc e st k r h=>by
  obtain ⟨dx,st1,h1,t1⟩:=hx m c hc e st _ r h
  obtain ⟨dy,st2,h2,t2⟩:=hy m c hc e st1 _ r h1
  obtain ⟨b,h3,h4⟩:=Bf.mp h2
  refine ⟨_,_,h4,fun env=>?_⟩
  rw [isTrue_Compare1]
  unfold markedBehindIn
  rw [hm]
  refine Tr.bind (t1 env) Ag.stays fun a=>Tr.bind (Tr.holding ((t2 env).pre fun _ _ _ p=>p.1)) (Ag.stays.and Ld.R) fun b'=>Tr.at (Tr.bind (Tr.operate ((hf _ _ _ _ h3 (2 * m + 2) a b').pre fun _ _ _ p=>⟨p.1.2,p.2⟩)) ((Ag.stays.and Ld.R).and Ld.R) fun v=>?_)
  exact Tr.holding fun A σ s Q E r o p k=>by
    rw [p.2]
    exact wpAny_truthy_bool (k _ σ s.heap s.toks o rfl o.refl)
theorem Pl {x:Sm D} {ex:Expr} (hx:SX w nt x ex) (he:autoParam (∀ env whole,isTrue ex env whole = (do let v ← whole; standAt ex.pos; holding [v] (truthy v))) tR):ST w nt (T3 x) ex:=fun m c hc e st k r h=>by
  obtain ⟨dx,st1,h1,t1⟩:=hx m c hc e st _ r h
  obtain ⟨b,h2,h3⟩:=Y2.mp h1
  subst h2
  refine ⟨_,_,h3,fun env=>?_⟩
  rw [he]
  refine Tr.bind (t1 env) Ag.stays fun a=>Tr.at (Tr.holding fun A σ s Q E r o p k=>?_)
  cases p.2
  exact wpAny_truthy_bool (k _ σ s.heap s.toks o rfl o.refl)
theorem Nu (b:Bool):Rv b = !b:=by cases b <;> rfl
theorem Ri (a b:Bool):Di a b = (a == b):=by cases a <;> cases b <;> rfl
theorem C2 {β:Type} (b:Bool) (x y:β):ifB b x y = if b then x else y:=by cases b <;> rfl
theorem zhd {x:Sm Bool} {ex:Expr} {pos} (hx:ST w nt x ex):ST w nt (zi2 x) (.UnaryOp .Not ex pos):=fun m c hc e st k r h=>by
  obtain ⟨b,st1,h1,t1⟩:=hx m c hc e st _ r h
  refine ⟨_,_,h1,fun env=>?_⟩
  rw [arm_isTrue_UnaryOp,Nu]
  exact Tr.bind (t1 env) Ag.stays fun a=>Tr.ret fun _ _ p=>by rw [p.2]
theorem De {b:Bool}:STs w nt b (Bp b) []:=fun m c hc e st k r h=>⟨_,_,h,fun env=>Tr.ret fun _ _ _=>by cases b <;> rfl⟩
theorem Av {isAnd:Bool} {x xs:Sm Bool} {ex:Expr} {es:List Expr} (hx:ST w nt x ex) (hs:STs w nt isAnd xs es):STs w nt isAnd (B3 isAnd x xs) (ex :: es):=fun m c hc e st k r h=>by
  obtain ⟨b,st1,h1,t1⟩:=hx m c hc e st _ r h
  rw [C2,Ri] at h1
  by_cases q:b = isAnd
  · subst q
    simp only [beq_self_eq_true,if_true] at h1
    obtain ⟨b',st2,h2,t2⟩:=hs m c hc e st1 _ r h1
    refine ⟨_,_,h2,fun env=>?_⟩
    show Tr w _ _ st _ (isTrue ex env (eval ex env) >>= fun t=>match (if b then BoolOp.And else BoolOp.Or),t with | .And,false=>pure false | .Or,true=>pure true | _,_=>allTrue (if b then .And else .Or) es env) _ _
    refine Tr.bind (t1 env) Ag.stays fun a=>fun A σ s Q E r o p k=>?_
    obtain ⟨p1,rfl⟩:=p
    cases a <;> exact t2 env A σ s Q E r o p1 k
  · have:(b == isAnd) = false:=beq_eq_false_iff_ne.mpr q
    rw [this] at h1
    simp only [Bool.false_eq_true,if_false] at h1
    refine ⟨_,_,h1,fun env=>?_⟩
    show Tr w _ _ st _ (isTrue ex env (eval ex env) >>= fun t=>match (if isAnd then BoolOp.And else BoolOp.Or),t with | .And,false=>pure false | .Or,true=>pure true | _,_=>allTrue (if isAnd then .And else .Or) es env) _ _
    refine Tr.bind (t1 env) Ag.stays fun a=>fun A σ s Q E r o p k=>?_
    obtain ⟨p1,rfl⟩:=p
    cases a <;> cases isAnd <;> first | (exact absurd rfl q) | exact wpAny_pure (k _ σ s.heap s.toks o rfl o.refl)
theorem Th {x:Sm Bool} {es:List Expr} {pos} (hx:STs w nt true x es):ST w nt x (.BoolOp .And es pos):=fun m c hc e st k r h=>by
  obtain ⟨b,st1,h1,t1⟩:=hx m c hc e st _ r h
  exact ⟨_,_,h1,fun env=>by rw [arm_isTrue_BoolOp]; exact t1 env⟩
theorem zcp {x:Sm Bool} {es:List Expr} {pos} (hx:STs w nt false x es):ST w nt x (.BoolOp .Or es pos):=fun m c hc e st k r h=>by
  obtain ⟨b,st1,h1,t1⟩:=hx m c hc e st _ r h
  exact ⟨_,_,h1,fun env=>by rw [arm_isTrue_BoolOp]; exact t1 env⟩
theorem zaG {isAnd:Bool} {x:Sm D} {ex:Expr} (hx:SX w nt x ex):SBs w nt isAnd x [ex]:=fun m c hc e st k r h=>by
  obtain ⟨b,st1,h1,t1⟩:=hx m c hc e st _ r h
  exact ⟨_,_,h1,fun env pos=>t1 env⟩
theorem Vp {isAnd:Bool} {x xs:Sm D} {ex e2:Expr} {es:List Expr} (hx:SX w nt x ex) (hs:SBs w nt isAnd xs (e2 :: es)):SBs w nt isAnd (zfo isAnd x xs) (ex :: e2 :: es):=fun m c hc e st k r h=>by
  obtain ⟨dx,st1,h1,t1⟩:=hx m c hc e st _ r h
  obtain ⟨b,h2,h3⟩:=Y2.mp h1
  subst h2
  rw [C2,Ri] at h3
  have tru:∀ env,Tr w (2 * m + 3) NoX st1 (fun σ st h=>Ag w nt env e σ st h ∧ True) (truthy (.bool b)) (fun _ _ _ v=>v = b) st1:=fun env A σ s Q E r o p k=>wpAny_truthy_bool (k _ σ s.heap s.toks o rfl o.refl)
  by_cases q:b = isAnd
  · subst q
    simp only [beq_self_eq_true,if_true] at h3
    obtain ⟨b',st2,h4,t2⟩:=hs m c hc e st1 _ r h3
    refine ⟨_,_,h4,fun env pos=>?_⟩
    show Tr w _ _ st _ (eval ex env >>= fun v=>standAt pos >>= fun _=>holding [v] (truthy v) >>= fun t=>match (if b then BoolOp.And else BoolOp.Or),t with | .And,false=>pure v | .Or,true=>pure v | _,_=>boolOp pos (if b then .And else .Or) (evalEach (e2 :: es) env)) _ _
    refine Tr.bind (t1 env) Ag.stays fun a=>Tr.at fun A σ s Q E r o p k=>?_
    obtain ⟨p1,p2⟩:=p
    obtain rfl:=p2.inv
    refine wpAny_bind (wpAny_holding (wpAny_truthy_bool ?_))
    cases b <;> exact t2 env pos A σ s Q E r o p1 k
  · have:(b == isAnd) = false:=beq_eq_false_iff_ne.mpr q
    rw [this] at h3
    simp only [Bool.false_eq_true,if_false] at h3
    refine ⟨_,_,h3,fun env pos=>?_⟩
    show Tr w _ _ st _ (eval ex env >>= fun v=>standAt pos >>= fun _=>holding [v] (truthy v) >>= fun t=>match (if isAnd then BoolOp.And else BoolOp.Or),t with | .And,false=>pure v | .Or,true=>pure v | _,_=>boolOp pos (if isAnd then .And else .Or) (evalEach (e2 :: es) env)) _ _
    refine Tr.bind (t1 env) Ag.stays fun a=>Tr.at fun A σ s Q E r o p k=>?_
    obtain ⟨p1,p2⟩:=p
    obtain rfl:=p2.inv
    refine wpAny_bind (wpAny_holding (wpAny_truthy_bool ?_))
    cases b <;> cases isAnd <;> first | (exact absurd rfl q) | exact wpAny_pure (k _ σ s.heap s.toks o (.bool _) o.refl)
theorem zgO {x:Sm D} {es:List Expr} {pos} (hx:SBs w nt true x es):SX w nt x (.BoolOp .And es pos):=fun m c hc e st k r h=>by
  obtain ⟨b,st1,h1,t1⟩:=hx m c hc e st _ r h
  exact ⟨_,_,h1,fun env=>by rw [arm_eval_BoolOp]; exact t1 env pos⟩
theorem zt3 {x:Sm D} {es:List Expr} {pos} (hx:SBs w nt false x es):SX w nt x (.BoolOp .Or es pos):=fun m c hc e st k r h=>by
  obtain ⟨b,st1,h1,t1⟩:=hx m c hc e st _ r h
  exact ⟨_,_,h1,fun env=>by rw [arm_eval_BoolOp]; exact t1 env pos⟩
theorem zrQ {x:Sm D} {ex:Expr} {pos} (hx:SX w nt x ex):SX w nt (zrD x) (.UnaryOp .Not ex pos):=fun m c hc e st k r h=>by
  obtain ⟨dx,st1,h1,t1⟩:=hx m c hc e st _ r h
  obtain ⟨b,h2,h3⟩:=Y2.mp h1
  subst h2
  refine ⟨_,_,h3,fun env=>?_⟩
  rw [arm_eval_UnaryOp,Nu]
  refine Tr.bind (t1 env) Ag.stays fun a=>Tr.at (Tr.holding fun A σ s Q E r o p k=>?_)
  cases p.2
  exact wpAny_bind (wpAny_truthy_bool (wpAny_pure (k _ σ s.heap s.toks o (.bool _) o.refl)))
theorem Dv {t:Sm Bool} {a b:Sm D} {et ea eb:Expr} {pos} (ht:ST w nt t et) (ha:SX w nt a ea) (hb:SX w nt b eb):SX w nt (Hh t a b) (.IfExp et ea eb pos):=fun m c hc e st k r h=>by
  obtain ⟨q,st1,h1,t1⟩:=ht m c hc e st _ r h
  rw [C2] at h1
  cases q with
  | true=>
    obtain ⟨d,st2,h2,t2⟩:=ha m c hc e st1 _ r h1
    refine ⟨_,_,h2,fun env=>?_⟩
    rw [arm_eval_IfExp]
    exact Tr.bind (t1 env) Ag.stays fun b A σ s Q E r o p k=>by rw [p.2]; exact t2 env A σ s Q E r o p.1 k
  | false=>
    obtain ⟨d,st2,h2,t2⟩:=hb m c hc e st1 _ r h1
    refine ⟨_,_,h2,fun env=>?_⟩
    rw [arm_eval_IfExp]
    exact Tr.bind (t1 env) Ag.stays fun b A σ s Q E r o p k=>by rw [p.2]; exact t2 env A σ s Q E r o p.1 k
end
section
variable {w:World} {nt:List (Str × NameKind)}
theorem Ag.only {env:Env} {e:Ax} {σ:Sg} {st:St} {h:Heap} (p:Ag w nt env e σ st h):∀ b o,E9 env b→h.get? b = some o→¬ Imm o:=fun b o q e'=>by
  obtain ⟨m,hm,_⟩:=p.ns
  rw [show b = env.locals from q] at e'
  exact Ns.notImm hm e'
theorem RL.goesL {env:Env} {e:Ax} {σ σ':Sg} {st st':St} {h h':Heap} (p:Ag w nt env e σ st h) (x:Ok w σ h st) (y:Aw (E9 env) σ h st σ' h' st') {v:List Value} {d:List D} (r:RL σ st.N h v d):RL σ' st'.N h' v d:=r.mono y.same y.le (x.keepI y p.only)
theorem R.goesL {env:Env} {e:Ax} {σ σ':Sg} {st st':St} {h h':Heap} (p:Ag w nt env e σ st h) (x:Ok w σ h st) (y:Aw (E9 env) σ h st σ' h' st') {v:Value} {d:D} (r:R σ st.N h v d):R σ' st'.N h' v d:=r.mono y.same y.le (x.keepI y p.only)
theorem zfF {h h':Heap} (x:Heap.ExtBut h.objs.size h h'):∀ b o,h.get? b = some o→h'.get? b = some o:=fun b o e=>x b o (Nat.ne_of_lt (Heap.lt_size e)) e
theorem Ag.grow {env:Env} {e:Ax} {σ:Sg} {st:St} {h h':Heap} (o:Ok w σ h st) (p:Ag w nt env e σ st h) (k:∀ b o,h.get? b = some o→h'.get? b = some o):Ag w nt env e σ st h':=p.stays _ _ _ _ _ _ o (o.grow k) (Aw.grow o k)
noncomputable def SGs (w:World) (nt:List (Str × NameKind)) (t:Tgs) (es:List Expr):Prop:=
  ∀ m c,Cx w m c→∀ e ds st k r,t c e ds st k = some r→E4 (fun e' st'=>k e' st' = some r) (fun e' st'=>ds.length = es.length) fun e' st'=>∀ env vs,Tr w (2 * m + 3) (E9 env) st (fun σ st h=>Ag w nt env e σ st h ∧ RL σ st.N h vs ds) (assignInOrder ((assignEach es env).map (·.2)) vs) (fun σ st h _=>Ag w nt env e' σ st h) st'
theorem zrq (hn:Ae nt) {i:Nat} {n:Str} {pos} (q:nt[i]? = some (n,.local)):SG w nt (A8 i) (.Name n pos):=fun m c hc e d st k r h=>⟨_,_,h,fun env v=>Tr.at fun A σ s Q E r o p k=>wpAny_bindName (Ag.stored hn q o p.1 p.2 fun h' o' p' g=>k () σ h' _ o' p' g)⟩
theorem J5 {β:Type} {st:St} {n:Nat} {o:Bb} {k:St→Option β} {r:β}:upd st n o k = some r ↔ st.base ≤ n ∧ k (st.put n o) = some r:=by
  rw [ziy]
  rw [C2]
  by_cases q:n < st.base
  · have:Nat.blt n st.base = true:=by rw [Nat.blt_eq]; exact q
    rw [this]; simp; lia
  · have:Nat.blt n st.base = false:=by
      cases z:Nat.blt n st.base with
      | false=>rfl
      | true=>rw [Nat.blt_eq] at z; exact absurd z q
    rw [this]; simp; lia
theorem Dm {β:Type} {st:St} {o:Bb} {k:Nat→St→Option β} {r:β}:Dg st o k = some r ↔ st.N < 1000000 ∧ k st.N (st.new o) = some r:=by
  rw [zfl]
  rw [Ar,Nat.blt_eq]
theorem zjW (hn:Ae nt) {i:Nat} {n:Str} {pos} (q:nt[i]? = some (n,.cell)):SG w nt (Ck i) (.Name n pos):=fun m c hc e d st k r h=>by
  obtain ⟨j,h1,h2⟩:=Bf.mp h
  obtain ⟨v₀,h3,h4⟩:=Ym.mp h2
  obtain ⟨hb,h5⟩:=J5.mp h4
  refine ⟨_,_,h5,fun env v=>Tr.at fun A σ s Q E r o p k=>wpAny_bindName ?_⟩
  obtain ⟨p,rv⟩:=p
  obtain ⟨jl,n',q',hl⟩:=p.cell i j h1
  rw [q] at q'
  obtain ⟨rfl,_⟩:=Prod.mk.inj (Option.some.inj q')
  obtain ⟨ov,hcell,hro⟩:=o.obj _ _ h3
  refine wpAny_storeName_cell p.kind (p.kindOf hn q) hl hcell fun h' hc' hs=>?_
  have kI:Dy s.heap h':=fun b' o' i' e'=>(hs.2 b' fun z=>by subst z; exact (o.obj _ _ h3).notImm e' i').trans e'
  have ob:Lo w σ st.N h' (σ.a j) (.cell (some d)):=⟨_,hc',v,rfl,rv.mono (.refl _ _) (Nat.le_refl _) kI⟩
  exact k () σ h' s.toks (o.upd h3 hs ob) (p.stays _ _ _ _ _ _ o (o.upd h3 hs ob) (Aw.upd_ o hb h3 hs ob)) (Aw.upd_ o hb h3 hs ob)
theorem Kl:SGs w nt Dz []:=fun m c hc e ds st k r h=>by
  cases ds with
  | nil=>exact ⟨_,_,h,rfl,fun env vs A σ s Q E r o p k=>by cases p.2; exact wpAny_assignInOrder_none (k () σ s.heap s.toks o p.1 o.refl)⟩
  | cons _ _=>cases h
theorem Ei {ex:Expr} {es:List Expr} {env:Env} (h:Ay ex = true):assignEach (ex :: es) env = (false,assign ex env) :: assignEach es env:=by
  cases ex <;> first | rfl | (exact absurd h Bool.false_ne_true)
theorem Bn {t:Tg} {ts:Tgs} {ex:Expr} {es:List Expr} (ht:SG w nt t ex) (hs:SGs w nt ts es) (hn:autoParam (Ay ex = true) tR):SGs w nt (B5 t ts) (ex :: es):=fun m c hc e ds st k r h=>by
  cases ds with
  | nil=>cases h
  | cons d ds=>
    obtain ⟨e1,st1,h1,t1⟩:=ht m c hc e d st _ r h
    obtain ⟨e2,st2,h2,hl,t2⟩:=hs m c hc e1 ds st1 _ r h1
    refine ⟨_,_,h2,by rw [List.length_cons,hl,List.length_cons],fun env vs A σ s Q E r o p k=>?_⟩
    rw [Ei hn]
    obtain ⟨p,rl⟩:=p
    cases rl with
    | cons rv rl=>
      refine wpAny_assignInOrder_more (t1 env _ A σ s _ E r o ⟨p,rv⟩ fun _ σ' h' tk' o' p' g=>?_)
      exact t2 env _ A σ' _ Q E r o' ⟨p',rl.goesL p o g⟩ fun a σ'' h'' tk'' o'' p'' g'=>k a σ'' h'' tk'' o'' p'' (g.trans g')
theorem Vj {t:Tgs} {env:Env}:∀ {es:List Expr},(assignEach es env).length = es.length
  | []=>rfl
  | ex :: es=>by
    have:=Vj (t:=t) (env:=env) (es:=es)
    cases ex <;> exact congrArg (· + 1) this
noncomputable def Cj:List Expr→Bool
  | []=>true
  | e :: r=>Ay e && Cj r
theorem Tm {env:Env}:∀ {es:List Expr},Cj es = true→(assignEach es env).findIdx? (·.1) = none
  | [],_=>rfl
  | ex :: es,h=>by
    obtain ⟨a,b⟩:=Bool.and_eq_true_iff.mp h
    rw [Ei a,List.findIdx?_cons]
    show (if false then _ else _) = none
    rw [if_neg Bool.false_ne_true,Tm b]; rfl
set_option tactic.hygienic true in
theorem Rx {ts:Tgs} {es:List Expr} {x1 pos} (hs:SGs w nt ts es) (hn:autoParam (Cj es = true) tR):SG w nt (Nd ts) (.Tuple es x1 pos):=fun m c hc e d st k r h=>by
  obtain ⟨ds,rfl,h2⟩:=Vx.mp h
  obtain ⟨e2,st2,h3,hl,t2⟩:=hs m c hc e ds st _ r h2
  refine ⟨_,_,h3,fun env v A σ s Q E r o p k=>?_⟩
  obtain ⟨p,rv⟩:=p
  cases rv with
  | tup h1 hc hd rl=>
    rename_i a o1 vs n
    refine wpAny_assign_Tuple r.hd ⟨_,h1,hc,_,hd⟩ ?_ (Tm hn) fun h' hx=>?_
    · rw [Vj (t:=ts),← hl,← rl.length]; rfl
    · have kk:=zfF hx
      refine t2 env _ A σ _ Q E r (o.grow kk) ⟨p.grow o kk,rl.mono (.refl _ _) (Nat.le_refl _) (.all kk)⟩ fun a σ'' h'' tk'' o'' p'' g'=>k a σ'' h'' tk'' o'' p'' ((Aw.grow o kk).trans g')
theorem zoG:SSs w nt A5 []:=fun m c hc e st ret next r h=>.inr ⟨_,_,h,fun env=>Tr.ret fun _ _ p=>⟨rfl,p⟩⟩
theorem zm0 {s:Sx} {ss:Sx} {stm:Stmt} {stms:List Stmt} (h1:SS w nt s stm) (h2:SSs w nt ss stms):SSs w nt (A1 s ss) (stm :: stms):=fun m c hc e st ret next r h=>by
  rcases h1 m c hc e st _ _ r h with ⟨dv,st1,a,t1⟩ | ⟨e1,st1,a,t1⟩
  · refine .inl ⟨dv,st1,a,fun env A σ s Q E r o p k=>?_⟩
    rw [arm_execs_cons]
    refine wpAny_bind (t1 env A σ s _ E r o p fun f σ' h' tk' o' q g=>?_)
    obtain ⟨v,rfl,rv⟩:=q
    exact wpAny_pure (k _ σ' h' tk' o' ⟨v,rfl,rv⟩ g)
  · rcases h2 m c hc e1 st1 _ _ r a with ⟨dv,st2,b,t2⟩ | ⟨e2,st2,b,t2⟩
    · refine .inl ⟨dv,st2,b,fun env A σ s Q E r o p k=>?_⟩
      rw [arm_execs_cons]
      refine wpAny_bind (t1 env A σ s _ E r o p fun f σ' h' tk' o' q g=>?_)
      obtain ⟨rfl,p'⟩:=q
      exact t2 env A σ' _ Q E r o' p' fun f σ'' h'' tk'' o'' q' g'=>k _ σ'' h'' tk'' o'' q' (g.trans g')
    · refine .inr ⟨e2,st2,b,fun env A σ s Q E r o p k=>?_⟩
      rw [arm_execs_cons]
      refine wpAny_bind (t1 env A σ s _ E r o p fun f σ' h' tk' o' q g=>?_)
      obtain ⟨rfl,p'⟩:=q
      exact t2 env A σ' _ Q E r o' p' fun f σ'' h'' tk'' o'' q' g'=>k _ σ'' h'' tk'' o'' q' (g.trans g')
theorem Aa {t:Tg} {x:Sm D} {et ex:Expr} {pos} (ht:SG w nt t et) (hx:SX w nt x ex) (hs:autoParam (∀ env,swapsWithSole [et] ex pos.line env = pure false) tR) (hw:autoParam (∀ env,swappedStores [et] ex env = pure none) tR) (hn:autoParam (Ay et = true) tR):
    SS w nt (Ap t x) (.Assign [et] ex pos):=fun m c hc e st ret next r h=>by
  obtain ⟨dx,st1,h1,t1⟩:=hx m c hc e st _ r h
  obtain ⟨e2,st2,h2,t2⟩:=ht m c hc e dx st1 _ r h1
  refine .inr ⟨e2,st2,h2,fun env A σ s Q E r o p k=>?_⟩
  refine wpAny_Assign_stores ?_ (hs env) (hw env)
  refine t1 env A σ s _ E r o p fun v σ' h' tk' o' rv g=>?_
  rw [Ei hn]
  show wpAny _ _ (assign et env v) _ _ _
  exact t2 env v A σ' _ _ E r o' ⟨Ag.stays _ _ _ _ _ _ o o' g p,rv⟩ fun _ σ'' h'' tk'' o'' q' g'=>k _ σ'' h'' tk'' o'' ⟨rfl,q'⟩ (g.any.trans g')
theorem B4 {t:Sm Bool} {a b:Sx} {et:Expr} {sa sb:List Stmt} {pos} (ht:ST w nt t et) (ha:SSs w nt a sa) (hb:SSs w nt b sb):SS w nt (sIf t a b) (.If et sa sb pos):=fun m c hc e st ret next r h=>by
  obtain ⟨q,st1,h1,t1⟩:=ht m c hc e st _ r h
  rw [C2] at h1
  cases q with
  | true=>
    rcases ha m c hc e st1 _ _ r h1 with ⟨dv,st2,b,t2⟩ | ⟨e2,st2,b,t2⟩
    · refine .inl ⟨dv,st2,b,fun env A σ s Q E r o p k=>?_⟩
      refine wpAny_If (t1 env A σ s _ E r o p fun v σ' h' tk' o' rv g=>?_)
      subst rv
      exact t2 env A σ' _ Q E r o' (Ag.stays _ _ _ _ _ _ o o' g p) fun f σ'' h'' tk'' o'' q' g'=>k _ σ'' h'' tk'' o'' q' (g.any.trans g')
    · refine .inr ⟨e2,st2,b,fun env A σ s Q E r o p k=>?_⟩
      refine wpAny_If (t1 env A σ s _ E r o p fun v σ' h' tk' o' rv g=>?_)
      subst rv
      exact t2 env A σ' _ Q E r o' (Ag.stays _ _ _ _ _ _ o o' g p) fun f σ'' h'' tk'' o'' q' g'=>k _ σ'' h'' tk'' o'' q' (g.any.trans g')
  | false=>
    rcases hb m c hc e st1 _ _ r h1 with ⟨dv,st2,b,t2⟩ | ⟨e2,st2,b,t2⟩
    · refine .inl ⟨dv,st2,b,fun env A σ s Q E r o p k=>?_⟩
      refine wpAny_If (t1 env A σ s _ E r o p fun v σ' h' tk' o' rv g=>?_)
      subst rv
      exact t2 env A σ' _ Q E r o' (Ag.stays _ _ _ _ _ _ o o' g p) fun f σ'' h'' tk'' o'' q' g'=>k _ σ'' h'' tk'' o'' q' (g.any.trans g')
    · refine .inr ⟨e2,st2,b,fun env A σ s Q E r o p k=>?_⟩
      refine wpAny_If (t1 env A σ s _ E r o p fun v σ' h' tk' o' rv g=>?_)
      subst rv
      exact t2 env A σ' _ Q E r o' (Ag.stays _ _ _ _ _ _ o o' g p) fun f σ'' h'' tk'' o'' q' g'=>k _ σ'' h'' tk'' o'' q' (g.any.trans g')
theorem Af {x:Sm D} {ex:Expr} {pos} (hx:SX w nt x ex):SS w nt (Bg x) (.Return (some ex) pos):=fun m c hc e st ret next r h=>by
  obtain ⟨dx,st1,h1,t1⟩:=hx m c hc e st _ r h
  exact .inl ⟨dx,st1,h1,fun env A σ s Q E r o p k=>wpAny_Return_some (t1 env A σ s _ E r o p fun v σ' h' tk' o' rv g=>k _ σ' h' tk' o' ⟨v,rfl,rv⟩ g.any)⟩
theorem Be {stm:Stmt}:SS w nt Db stm:=fun m c hc e st ret next r h=>by cases h
theorem B9 {x:Sm D} {ex:Expr} {pos} (hx:SX w nt x ex) (hs:autoParam (∀ env,swapsWith ex none pos.line env = pure false) tR) (hd:autoParam (dropValue ex pos .none = pure .next) tR):SS w nt (C0 x) (.Expr ex pos):=fun m c hc e st ret next r h=>by
  obtain ⟨dx,st1,h1,t1⟩:=hx m c hc e st _ r h
  obtain ⟨rfl,h2⟩:=T0.mp h1
  refine .inr ⟨_,st1,h2,fun env A σ s Q E r o p k=>?_⟩
  have hi:interactive env = false:=by unfold interactive; rw [p.kind]; rfl
  rw [arm_exec_Expr]
  refine wpAny_bind (wpAny_standAt ?_)
  rw [if_neg (by rw [hi]; exact Bool.false_ne_true),hs env]
  refine wpAny_bind (wpAny_pure ?_)
  rw [if_neg Bool.false_ne_true]
  refine (wpAny_bind (t1 env A σ s _ E r o p fun v σ' h' tk' o' rv g=>?_))
  cases rv
  rw [hd]
  exact wpAny_pure (k _ σ' h' tk' o' ⟨rfl,Ag.stays _ _ _ _ _ _ o o' g p⟩ g.any)
theorem Sq {et:Expr} {sb:List Stmt} {env:Env} {A:Around} {s:Shared} {R:Result→Shared→Prop}
    (h:wpAny (model pw w) A (isTrue et env (eval et env)) (fun b s₂=>if b then wpAny (model pw w) A (execs sb env) (fun f s₃=>match f with | .next | .cont=>codeAny (model pw w) A (.whileLoop et sb [] env) R s₃ | .brk=>R (.ok .next) s₃ | .ret v=>R (.ok (.ret v)) s₃) (notedBy (model pw w) A env fun e s'=>R (.error e) s') s₂
        else R (.ok .next) s₂) (notedBy (model pw w) A env fun e s'=>R (.error e) s') s):codeAny (model pw w) A (.whileLoop et sb [] env) R s:=by
  refine codeAny_of_tree ?_
  show wpAny _ A ((whileTurn et sb [] env).onRaise (fun x=>do noteFrame x env; theTreesLotGoes x)) _ _ s
  refine wpAny_noted ?_
  simp only [whileTurn]
  refine wpAny_bind (wpAny_mono h (fun b s₂ h₂=>?_) fun _ _ h'=>h')
  cases b with
  | false=>
    simp only [Bool.false_eq_true,if_false] at h₂ ⊢
    exact wpAny_bind (wpAny_pure (wpAny_pure h₂))
  | true=>
    simp only [if_true] at h₂ ⊢
    refine wpAny_bind (wpAny_mono h₂ (fun f s₃ h₃=>?_) fun _ _ h'=>h')
    cases f with
    | next=>exact wpAny_pure ⟨rfl,h₃⟩
    | cont=>exact wpAny_pure ⟨rfl,h₃⟩
    | brk=>exact wpAny_pure h₃
    | ret v=>exact wpAny_pure h₃
noncomputable def zuV (w:World) (nt:List (Str × NameKind)) (m:Nat) (e:Ax) (st:St) (code:Env→Code) (dv:D) (st':St):Prop:=
  ∀ env A σ s (R:Result→Shared→Prop),Rm A (2 * m + 3)→Ok w σ s.heap st→Ag w nt env e σ st s.heap→(∀ v σ' h' tk',Ok w σ' h' st'→Mine.R σ' st'.N h' v dv→Aw (E9 env) σ s.heap st σ' h' st'→R (.ok (.ret v)) { s with heap:=h',toks:=tk' })→codeAny (model pw w) A (code env) R s
noncomputable def zsu (w:World) (nt:List (Str × NameKind)) (m:Nat) (e:Ax) (st:St) (code:Env→Code) (e':Ax) (st':St):Prop:=
  ∀ env A σ s (R:Result→Shared→Prop),Rm A (2 * m + 3)→Ok w σ s.heap st→Ag w nt env e σ st s.heap→(∀ σ' h' tk',Ok w σ' h' st'→Ag w nt env e' σ' st' h'→Aw (E9 env) σ s.heap st σ' h' st'→R (.ok .next) { s with heap:=h',toks:=tk' })→codeAny (model pw w) A (code env) R s
theorem zgr {t:Sm Bool} {b:Sx} {et:Expr} {sb:List Stmt} (ht:ST w nt t et) (hb:SSs w nt b sb) (m:Nat) (c:Cal) (hc:Cx w m c) (ret:D→St→Ans) (next:Ax→St→Ans) (r:D × St):∀ (n:Nat) (e:Ax) (st:St),
    Nat.rec (motive:=fun _=>Ax→St→Ans) (fun _ _=>none) (fun _ ih e st=>t c e st fun r st=>ifB r (b c e st ret fun e st=>ih e st) (next e st)) n e st = some r →
    (E3 (fun dv st'=>ret dv st' = some r) fun dv st'=>zuV w nt m e st (fun env=>.whileLoop et sb [] env) dv st') ∨ (E3 (fun e' st'=>next e' st' = some r) fun e' st'=>zsu w nt m e st (fun env=>.whileLoop et sb [] env) e' st'):=by
  intro n
  induction n with
  | zero=>intro e st h; cases h
  | succ n ih=>
    intro e st h
    obtain ⟨q,st1,h1,t1⟩:=ht m c hc e st _ r h
    rw [C2] at h1
    cases q with
    | true=>
      rcases hb m c hc e st1 _ _ r h1 with ⟨dv,st2,a,t2⟩ | ⟨e2,st2,a,t2⟩
      · refine .inl ⟨dv,st2,a,fun env A σ s R r o p k=>Sq (t1 env A σ s _ _ r o p fun v σ' h' tk' o' rv g=>?_)⟩
        subst rv
        refine t2 env A σ' _ _ _ r o' (Ag.stays _ _ _ _ _ _ o o' g p) fun f σ'' h'' tk'' o'' q' g'=>?_
        obtain ⟨v,rfl,rv⟩:=q'
        exact k v σ'' h'' tk'' o'' rv (g.any.trans g')
      · rcases ih e2 st2 a with ⟨dv,st3,a3,t3⟩ | ⟨e3,st3,a3,t3⟩
        · refine .inl ⟨dv,st3,a3,fun env A σ s R r o p k=>Sq (t1 env A σ s _ _ r o p fun v σ' h' tk' o' rv g=>?_)⟩
          subst rv
          refine t2 env A σ' _ _ _ r o' (Ag.stays _ _ _ _ _ _ o o' g p) fun f σ'' h'' tk'' o'' q' g'=>?_
          obtain ⟨rfl,p'⟩:=q'
          exact t3 env A σ'' _ R r o'' p' fun v σ3 h3 tk3 o3 rv g3=>k v σ3 h3 tk3 o3 rv ((g.any.trans g').trans g3)
        · refine .inr ⟨e3,st3,a3,fun env A σ s R r o p k=>Sq (t1 env A σ s _ _ r o p fun v σ' h' tk' o' rv g=>?_)⟩
          subst rv
          refine t2 env A σ' _ _ _ r o' (Ag.stays _ _ _ _ _ _ o o' g p) fun f σ'' h'' tk'' o'' q' g'=>?_
          obtain ⟨rfl,p'⟩:=q'
          exact t3 env A σ'' _ R r o'' p' fun σ3 h3 tk3 o3 rv g3=>k σ3 h3 tk3 o3 rv ((g.any.trans g').trans g3)
    | false=>
      refine .inr ⟨e,st1,h1,fun env A σ s R r o p k=>Sq (t1 env A σ s _ _ r o p fun v σ' h' tk' o' rv g=>?_)⟩
      subst rv
      exact k σ' h' tk' o' (Ag.stays _ _ _ _ _ _ o o' g p) g.any
theorem U7 {t:Sm Bool} {b:Sx} {et:Expr} {sb:List Stmt} {pos} (ht:ST w nt t et) (hb:SSs w nt b sb):SS w nt (za2 t b) (.While et sb [] pos):=fun m c hc e st ret next r h=>by
  rcases zgr ht hb m c hc ret next r LF e st h with ⟨dv,st1,a,t1⟩ | ⟨e1,st1,a,t1⟩
  · exact .inl ⟨dv,st1,a,fun env A σ s Q E r o p k=>wpAny_While (t1 env A σ s _ r o p fun v σ' h' tk' o' rv g=>k _ σ' h' tk' o' ⟨v,rfl,rv⟩ g)⟩
  · exact .inr ⟨e1,st1,a,fun env A σ s Q E r o p k=>wpAny_While (t1 env A σ s _ r o p fun σ' h' tk' o' rv g=>k _ σ' h' tk' o' ⟨rfl,rv⟩ g)⟩
end
section
variable {w:World} {nt:List (Str × NameKind)}
set_option tactic.hygienic true in
theorem Ok.add {σ:Sg} {h h':Heap} {st:St} (x:Ok w σ h st) {o:Bb} {a:Addr} (b':st.N < 1000000) (hn:∀ n o,st.get n = some o→σ.a n ≠ a) (ht:(HT w.params).get? a = none) (k:∀ b o,h.get? b = some o→h'.get? b = some o)
    (r:Lo w (more σ st.N a) (st.N + 1) h' a o):Ok w (more σ st.N a) h' (st.new o):=by
  have b:st.N + 1 < 2 ^ Ee:=B7 (Nat.le_of_lt b')
  exact {
  top:=fun b o' e=>k _ _ (x.top b o' e)
  obj:=fun n o' e=>by
    rw [Ai n o b] at e
    split at e
    · rename_i q; subst q; cases e; rw [Bv]; exact r
    · rw [(An _ a).2 n (x.lt n o' e)]
      exact (x.obj n o' e).mono (An _ a) (Nat.le_succ _) (.all k) (fun o' e=>k _ _ e)
  lt:=fun n o' e=>by
    rw [Ai n o b] at e
    split at e
    · rename_i q; subst q; exact Nat.lt_succ_self _
    · exact Nat.lt_succ_of_lt (x.lt n o' e)
  inj:=fun n m o₁ o₂ e₁ e₂ q=>by
    rw [Ai n o b] at e₁
    rw [Ai m o b] at e₂
    split at e₁ <;> split at e₂
    · rename_i q1 q2; rw [q1,q2]
    · rename_i q1 q2
      subst q1
      rw [Bv,(An _ a).2 m (x.lt m o₂ e₂)] at q
      exact absurd q.symm (hn _ _ e₂)
    · rename_i q1 q2
      subst q2
      rw [Bv,(An _ a).2 n (x.lt n o₁ e₁)] at q
      exact absurd q (hn _ _ e₁)
    · rw [(An _ a).2 m (x.lt m o₂ e₂),(An _ a).2 n (x.lt n o₁ e₁)] at q
      exact x.inj n m o₁ o₂ e₁ e₂ q
  new:=fun n o' e=>by
    rw [Ai n o b] at e
    split at e
    · rename_i q
      subst q
      rw [Bv]
      exact ht
    · rw [(An _ a).2 n (x.lt n o' e)]
      exact x.new n o' e
  bN:=Nat.le_succ_of_le x.bN
  sz:=b' }
set_option tactic.hygienic true in
theorem Aw.add {X:Addr→Prop} {σ₀ σ:Sg} {h₀ h h':Heap} {st₀ st:St} (y:Aw X σ₀ h₀ st₀ σ h st) (x:Ok w σ h st) {o:Bb} {a:Addr} (b':st.N < 1000000) (hn:h₀.get? a = none) (b0:st₀.base ≤ st₀.N) (k:∀ b o,h.get? b = some o→h'.get? b = some o):
    Aw X σ₀ h₀ st₀ (more σ st.N a) h' (st.new o):=by
  have b:st.N + 1 < 2 ^ Ee:=B7 (Nat.le_of_lt b')
  exact {
  le:=Nat.le_succ_of_le y.le
  same:=⟨y.same.1,fun n l=>((An _ a).2 n (Nat.lt_of_lt_of_le l y.le)).trans (y.same.2 n l)⟩
  dom:=fun b o e=>by obtain ⟨o',e'⟩:=y.dom b o e; exact ⟨o',k _ _ e'⟩
  keptB:=fun b o e q z=>k _ _ (y.keptB b o e q z)
  fresh:=fun n o' l e=>by
    rw [Ai n o b] at e
    split at e
    · rename_i q; subst q; rw [Bv]; exact hn
    · rw [(An _ a).2 n (x.lt n o' e)]; exact y.fresh n o' l e
  old:=fun n o' l e=>by
    rw [Ai n o b,if_neg (Nat.ne_of_lt (Nat.lt_of_lt_of_le l y.le))] at e
    exact y.old n o' l e
  low:=⟨y.low.1,fun n l=>by rw [Ai n o b,if_neg (Nat.ne_of_lt (Nat.lt_of_lt_of_le l (Nat.le_trans b0 y.le)))]; exact y.low.2 n l⟩ }
theorem En {α:Type}:∀ l:List α,len l = l.length
  | []=>rfl
  | _ :: r=>congrArg Nat.succ (En r)
theorem Qu {α:Type}:∀ x y:List α,app x y = x ++ y
  | [],y=>rfl
  | a :: r,y=>congrArg (a :: ·) (Qu r y)
theorem zg8 {α β:Type} (f:α→β):∀ x:List α,ziw f x = x.map f
  | []=>rfl
  | a :: r=>congrArg (f a :: ·) (zg8 f r)
theorem Ze {α:Type}:∀ (n:Nat) (l:List α),zdg n l = l.drop n
  | 0,[]=>rfl
  | 0,a :: r=>rfl
  | n + 1,[]=>rfl
  | n + 1,a :: r=>by rw [List.drop_succ_cons]; exact Ze n r
theorem Zz {α:Type}:∀ n:Nat,(nones n:List (Option α)) = List.replicate n none
  | 0=>rfl
  | n + 1=>congrArg (none :: ·) (Zz n)
theorem Y7 {α:Type}:∀ x y:List α,zab x y = x.reverse ++ y
  | [],y=>rfl
  | a :: r,y=>by
    show zab r (a :: y) = _
    rw [Y7 r (a :: y),List.reverse_cons,List.append_assoc]; rfl
theorem zg9 (cl:List Nat) {d:D}:∀ (vals:List (Option D)) (i j:Nat),Bi (List.rec (motive:=fun _=>Nat→List (Option D)) (fun _=>[]) (fun v _ ih i=>ifB (zql cl i) none v :: ih (Nat.succ i)) vals j) i = some d→Bi vals i = some d
  | [],i,j,h=>h
  | v :: r,0,j,h=>by
    have h':ifB (zql cl j) none v = some d:=h
    rw [C2] at h'
    split at h'
    · cases h'
    · exact h'
  | v :: r,i + 1,j,h=>zg9 cl r i (j + 1) h
theorem zbd {kindOf:Str→Option NameKind} {x:Str}:∀ (ns:List Str) (vs:List Value) (m:Str→Option Value),x ∉ ns→bindL kindOf (ns.zip vs) m x = m x
  | [],vs,m,_=>rfl
  | n :: r,[],m,_=>rfl
  | n :: r,v :: vs,m,h=>by
    rw [List.zip_cons_cons,bindL,zbd r vs _ fun q=>h (List.mem_cons_of_mem _ q)]
    split
    · exact if_neg (fun e:x = n=>h (e ▸ List.mem_cons_self))
    · rfl
theorem zfi {kindOf:Str→Option NameKind} {x:Str} {v:Value} (hk:kindOf x = some .local):∀ (ns:List Str) (vs:List Value) (m:Str→Option Value) (i:Nat),ns.Nodup→ns[i]? = some x→vs[i]? = some v→bindL kindOf (ns.zip vs) m x = some v
  | [],vs,m,i,_,h,_=>by simp at h
  | n :: r,[],m,i,_,_,h=>by simp at h
  | n :: r,v' :: vs,m,0,hn,h1,h2=>by
    cases h1; cases h2
    rw [List.zip_cons_cons,bindL,zbd r vs _ (List.nodup_cons.mp hn).1,if_pos hk]; exact if_pos rfl
  | n :: r,v' :: vs,m,i + 1,hn,h1,h2=>by
    rw [List.zip_cons_cons,bindL]
    exact zfi hk r vs _ i (List.nodup_cons.mp hn).2 (by simpa using h1) (by simpa using h2)
theorem V0 {kindOf:Str→Option NameKind} {x:Str}:∀ (ns:List Str) (vs:List Value) (m:Str→Option Value),x ∉ ns→bindC kindOf (ns.zip vs) m x = m x
  | [],vs,m,_=>rfl
  | n :: r,[],m,_=>rfl
  | n :: r,v :: vs,m,h=>by
    rw [List.zip_cons_cons,bindC,V0 r vs _ fun q=>h (List.mem_cons_of_mem _ q)]
    split
    · rfl
    · exact if_neg (fun e:x = n=>h (e ▸ List.mem_cons_self))
theorem ze4 {kindOf:Str→Option NameKind} {x:Str} {v:Value} (hk:kindOf x = some .cell):∀ (ns:List Str) (vs:List Value) (m:Str→Option Value) (i:Nat),ns.Nodup→ns[i]? = some x→vs[i]? = some v→bindC kindOf (ns.zip vs) m x = some v
  | [],vs,m,i,_,h,_=>by simp at h
  | n :: r,[],m,i,_,_,h=>by simp at h
  | n :: r,v' :: vs,m,0,hn,h1,h2=>by
    cases h1; cases h2
    rw [List.zip_cons_cons,bindC,V0 r vs _ (List.nodup_cons.mp hn).1,if_neg (by rw [hk]; exact fun e=>nomatch e)]; exact if_pos rfl
  | n :: r,v' :: vs,m,i + 1,hn,h1,h2=>by
    rw [List.zip_cons_cons,bindC]
    exact ze4 hk r vs _ i (List.nodup_cons.mp hn).2 (by simpa using h1) (by simpa using h2)
theorem Qo {x:Str}:∀ (names:List (Str × NameKind)) (n:Nat) (acc:List (Str × Addr)),(∃ c,acc.lookup x = some c)→∃ c,(cellsFrom n names acc).lookup x = some c
  | [],n,acc,h=>h
  | (y,k) :: r,n,acc,h=>by
    unfold cellsFrom
    split
    · refine Qo r _ _ ?_
      rw [List.lookup_cons]
      cases x == y with
      | true=>exact ⟨_,rfl⟩
      | false=>exact h
    · exact Qo r _ _ h
theorem O5 {x:Str}:∀ (names:List (Str × NameKind)) (n:Nat) (acc:List (Str × Addr)),(x,NameKind.cell) ∈ names→∃ c,(cellsFrom n names acc).lookup x = some c
  | (y,k) :: r,n,acc,h=>by
    unfold cellsFrom
    rcases List.mem_cons.mp h with e | h
    · cases e
      rw [if_pos (show (NameKind.cell == NameKind.cell) = true from rfl)]
      exact Qo r _ _ ⟨n,by simp⟩
    · split <;> exact O5 r _ _ h
inductive MkC (vals:List (Option D)):List Nat→St→List (Nat × Nat)→St→Prop
  | nil {st:St}:MkC vals [] st [] st
  | cons {i:Nat} {cl:List Nat} {st st':St} {cs:List (Nat × Nat)}:st.N < 1000000→MkC vals cl (st.new (.cell (Bi vals i))) cs st'→MkC vals (i :: cl) st ((i,st.N) :: cs) st'
theorem ziO {vals:List (Option D)} {r:D × St}:∀ (cl:List Nat) (st:St) (k:List (Nat × Nat)→St→Ans),Qb vals cl st k = some r→∃ cs st',k cs st' = some r ∧ MkC vals cl st cs st'
  | [],st,k,h=>⟨_,_,h,.nil⟩
  | i :: cl,st,k,h=>by
    have h:Dg st (.cell (Bi vals i)) (fun n st=>Qb vals cl st fun cs st=>k ((i,n) :: cs) st) = some r:=h
    obtain ⟨hN,h1⟩:=Dm.mp h
    obtain ⟨cs,st',h2,x⟩:=ziO cl _ _ h1
    exact ⟨_,_,h2,.cons hN x⟩
set_option tactic.hygienic true in
theorem zfP {vals:List (Option D)} {ca:Nat→Addr} {h₀ h':Heap} {σ₀:Sg} {st₀:St} (b0:st₀.base ≤ st₀.N) (hca:∀ i,h₀.get? (ca i) = none) {cl:List Nat} {st:St} {cs:List (Nat × Nat)} {st':St} (x:MkC vals cl st cs st'):
    (∀ i ∈ cl,∀ j ∈ cl,ca i = ca j→i = j)→cl.Nodup→∀ σ,Ok w σ h' st→Aw NoX σ₀ h₀ st₀ σ h' st →
        (∀ i ∈ cl,(HT w.params).get? (ca i) = none ∧ (∀ n o,st.get n = some o→σ.a n ≠ ca i) ∧ ∃ ov,h'.IsCell (ca i) ov ∧ RO σ st.N h' ov (Bi vals i)) →
        ∃ σ',Ok w σ' h' st' ∧ Aw NoX σ₀ h₀ st₀ σ' h' st' ∧ zdB st.N σ σ' ∧ st.N ≤ st'.N ∧ (∀ i c,lk cs i = some c→c < st'.N ∧ i ∈ cl ∧ σ'.a c = ca i) ∧ (∀ n o,st'.get n = some o→(∃ o',st.get n = some o' ∧ σ'.a n = σ.a n) ∨ ∃ i ∈ cl,σ'.a n = ca i):=by
  induction x with
  | nil=>exact fun _ _ σ o g _=>⟨σ,o,g,.refl _ _,Nat.le_refl _,(fun i c (e:(none:Option Nat) = some c)=>nomatch e),fun n o' e=>Or.inl ⟨o',e,rfl⟩⟩
  | @cons i cl st st' cs hN x ih=>
    intro hinj hnd σ o g hc
    have hh:=ih (fun a ha b hb=>hinj a (List.mem_cons_of_mem _ ha) b (List.mem_cons_of_mem _ hb)) (List.nodup_cons.mp hnd).2
    obtain ⟨ht,hnew,ov,hcell,hro⟩:=hc i List.mem_cons_self
    have o1:Ok w (more σ st.N (ca i)) h' (st.new (.cell (Bi vals i))):=o.add hN hnew ht (fun _ _ e=>e) ⟨ov,hcell,hro.mono (An _ _) (Nat.le_succ _) (.all fun _ _ e=>e)⟩
    have g1:Aw NoX σ₀ h₀ st₀ (more σ st.N (ca i)) h' (st.new (.cell (Bi vals i))):=g.add o hN (hca i) b0 (fun _ _ e=>e)
    have bN:st.N + 1 < 2 ^ Ee:=B7 (Nat.le_of_lt hN)
    obtain ⟨σ',o',g',sm,le,hlk,hget⟩:=hh _ o1 g1 fun j hj=>by
      obtain ⟨htj,hnj,ovj,hcj,hrj⟩:=hc j (List.mem_cons_of_mem _ hj)
      refine ⟨htj,fun n ob e=>?_,ovj,hcj,hrj.mono (An _ _) (Nat.le_succ _) (.all fun _ _ e=>e)⟩
      rw [Ai n _ bN] at e
      split at e
      · rename_i q
        subst q
        rw [Bv]
        intro z
        have:=hinj i List.mem_cons_self j (List.mem_cons_of_mem _ hj) z
        subst this
        exact (List.nodup_cons.mp hnd).1 hj
      · rw [(An _ _).2 n (o.lt n ob e)]
        exact hnj n ob e
    have le':st.N + 1 ≤ st'.N:=le
    refine ⟨σ',o',g',⟨sm.1,fun n l=>(sm.2 n (Nat.lt_succ_of_lt l)).trans ((An _ _).2 n l)⟩,Nat.le_of_succ_le le',fun j c e=>?_,fun n ob e=>?_⟩
    · have e':ifB (Nat.beq i j) (some st.N) (lk cs j) = some c:=e
      rw [C2] at e'
      split at e'
      · rename_i q
        have:=Nat.eq_of_beq_eq_true q
        subst this
        cases e'
        exact ⟨le',List.mem_cons_self,(sm.2 _ (Nat.lt_succ_self _)).trans (Bv _ _)⟩
      · obtain ⟨a,b,c⟩:=hlk j c e'
        exact ⟨a,List.mem_cons_of_mem _ b,c⟩
    · rcases hget n ob e with ⟨o2,e2,z⟩ | ⟨j,hj,z⟩
      · rw [Ai n _ bN] at e2
        split at e2
        · rename_i q; subst q; exact .inr ⟨i,List.mem_cons_self,z.trans (Bv _ _)⟩
        · exact .inl ⟨o2,e2,z.trans ((An _ _).2 n (o.lt n o2 e2))⟩
      · exact .inr ⟨j,List.mem_cons_of_mem _ hj,z⟩
end
section
variable {w:World}
structure zuG (w:World) (a:Addr) (F:Fn) (o:Obj) (fd:FuncData) (body:List Stmt) (dvs:List Value):Prop where
  at_:(HT w.params).get? a = some o
  data:o.data = .func fd
  bodyIs:fd.body = .stmts body
  clos:fd.closure = []
  co:fd.scope.isCoroutine = false
  gen:fd.scope.isGenerator = false
  kind:fd.scope.kind = .function
  globals:fd.globals = mainGlobals
  builtins:fd.builtins = builtinsNs
  code:(HT w.params).CodeRec fd.code fd.qualname
  names:Ae fd.scope.names
  np:F.np ≤ fd.scope.names.length
  nn:F.nn = fd.scope.names.length
  cl:∀ i x,(fd.scope.names[i]? = some (x,.cell)→i ∈ F.cl) ∧ (i ∈ F.cl→∃ x,fd.scope.names[i]? = some (x,.cell))
  clNd:F.cl.Nodup
  kinds:∀ i x k,i < F.np→fd.scope.names[i]? = some (x,k)→k = .local ∨ k = .cell
  dlen:dvs.length = F.dfl.length
  dfl:∀ σ N h,(∀ b ob,(HT w.params).get? b = some ob→h.get? b = some ob)→RL σ N h dvs F.dfl
  binds:∀ (s:Shared) (vals:List Value),(∀ b ob,(HT w.params).get? b = some ob→s.heap.get? b = some ob)→vals.length ≤ F.np→F.np ≤ vals.length + dvs.length →
    BindsTo s fd ⟨vals,[]⟩ (((fd.scope.names.take F.np).map (·.1)).zip (vals ++ dvs.drop (vals.length + dvs.length - F.np)))
  body:SSs w fd.scope.names F.body body
noncomputable def Br (w:World) (f:Nat) (F:Fn):Prop:=∃ o fd body dvs,zuG w (fnA f) F o fd body dvs
noncomputable def zjp (w:World):Prop:=(HT w.params).NoLimit
theorem RL.drop {σ:Sg} {N:Nat} {h:Heap} {vs:List Value} {ds:List D} (n:Nat) (r:RL σ N h vs ds):RL σ N h (vs.drop n) (ds.drop n):=
  RL.ind (P:=fun vs ds=>∀ n,RL σ N h (vs.drop n) (ds.drop n)) (fun n=>by rw [List.drop_nil,List.drop_nil]; exact .nil) (fun a b ih n=>by
    cases n with
    | zero=>exact .cons a b
    | succ n=>exact ih n) r n
theorem RL.at_ {σ:Sg} {N:Nat} {h:Heap} {vs:List Value} {ds:List D} (r:RL σ N h vs ds):∀ (i:Nat),(∃ v d,vs[i]? = some v ∧ ds[i]? = some d ∧ R σ N h v d) ∨ (vs[i]? = none ∧ ds[i]? = none):=
  RL.ind (P:=fun vs ds=>∀ (i:Nat),(∃ v d,vs[i]? = some v ∧ ds[i]? = some d ∧ R σ N h v d) ∨ (vs[i]? = none ∧ ds[i]? = none)) (fun i=>.inr ⟨rfl,rfl⟩) (fun {v vs d ds} a b ih i=>by
    cases i with
    | zero=>exact .inl ⟨_,_,rfl,rfl,a⟩
    | succ i=>exact ih i) r
set_option tactic.hygienic true in
theorem zdq (lim:zjp w) {f:Nat} {F:Fn} (fo:Br w f F) {m:Nat} {c:Cal} (hc:Cx w m c) {ds:List D} {st:St} {k:D→St→Ans} {r:D × St}
    (h:V9 F ds st (fun e st=>F.body c e st k fun _ st=>k .none st) = some r):
    E3 (fun dv st'=>k dv st' = some r) fun dv st'=>Hi w (2 * (m + 1) + 2) st (fnA f) ds dv st':=by
  obtain ⟨o,fd,body,dvs,fa⟩:=fo
  obtain ⟨hl1,h⟩:=Ar.mp h
  obtain ⟨hl2,h⟩:=Ar.mp h
  have hl1:ds.length ≤ F.np:=by have:=Nat.le_of_ble_eq_true hl1; rwa [Mine.En] at this
  have hl2:F.np ≤ ds.length + F.dfl.length:=by have:=Nat.le_of_ble_eq_true hl2; rwa [Mine.En,Mine.En] at this
  have vals_eq:app (ziw some (app ds (zdg (len ds + len F.dfl - F.np) F.dfl))) (nones (F.nn - F.np)) = (ds ++ F.dfl.drop (ds.length + F.dfl.length - F.np)).map some ++ List.replicate (F.nn - F.np) none:=by
    rw [Qu,zg8,Qu,Ze,Zz,Mine.En,Mine.En]
  rw [vals_eq] at h
  generalize hargs:ds ++ F.dfl.drop (ds.length + F.dfl.length - F.np) = args at h
  have alen:args.length = F.np:=by rw [← hargs,List.length_append,List.length_drop]; omega
  generalize hvals:args.map some ++ List.replicate (F.nn - F.np) none = vals at h
  have vat:∀ i d,Bi vals i = some d→args[i]? = some d:=fun i d e=>by
    rw [Rk,← hvals] at e
    by_cases q:i < args.length
    · rw [List.getElem?_append_left (by rw [List.length_map]; exact q),List.getElem?_map] at e
      cases z:args[i]? with
      | none=>rw [z] at e; cases e
      | some x=>rw [z] at e; cases e; rfl
    · rw [List.getElem?_append_right (by rw [List.length_map]; exact Nat.not_lt.mp q)] at e
      rw [List.getElem?_replicate] at e
      split at e <;> cases e
  have vat':∀ i,Bi vals i = none→args[i]? = none:=fun i e=>by
    rw [Rk,← hvals] at e
    cases z:args[i]? with
    | none=>rfl
    | some x=>
      have q:i < args.length:=(List.getElem?_eq_some_iff.mp z).1
      rw [List.getElem?_append_left (by rw [List.length_map]; exact q),List.getElem?_map,z] at e
      cases e
  obtain ⟨vals',hv',hb⟩:∃ vals',(∀ i d,Bi vals' i = some d→Bi vals i = some d) ∧ Qb vals F.cl st (fun cs st=>F.body c ⟨vals',cs⟩ st k fun _ st=>k .none st) = some r:=by
    unfold zeJ at h
    cases hcl:F.cl with
    | nil=>rw [hcl] at h; exact ⟨vals,fun _ _ e=>e,h⟩
    | cons a b=>rw [hcl] at h; exact ⟨_,fun i d e=>zg9 _ _ _ _ e,h⟩
  obtain ⟨cs,st1,hb,mk⟩:=ziO _ _ _ hb
  have out:E3 (fun dv st'=>k dv st' = some r) fun dv st'=>∀ env,Tr w (2 * m + 3) (E9 env) st1 (Ag w fd.scope.names env ⟨vals',cs⟩) (execs body env) (fun σ st h f=>R σ st.N h (match f with | .ret v=>v | _=>.none) dv) st':=by
    rcases fa.body m c hc _ _ _ _ _ hb with ⟨dv,st',a,t⟩ | ⟨e',st',a,t⟩
    · exact ⟨dv,st',a,fun env=>(t env).post fun σ st h f q=>by obtain ⟨v,rfl,rv⟩:=q; exact rv⟩
    · exact ⟨.none,st',a,fun env=>(t env).post fun σ st h f q=>by obtain ⟨rfl,_⟩:=q; exact .none⟩
  obtain ⟨dv,st',hk,tb⟩:=out
  refine ⟨dv,st',hk,fun vs A σ s RR rm o rl kk=>?_⟩
  have top:=o.top
  have vlen:vs.length = ds.length:=rl.length
  refine codeAny_call_function rm.room (top _ _ fa.at_) fa.data fa.co fa.gen fa.bodyIs (fa.code.keeps top) ?_
  refine fa.binds s vs top (by omega) (by rw [fa.dlen]; omega) _ _ _ _ ?_
  rw [fa.clos,fa.globals,fa.builtins]
  generalize hnames:(fd.scope.names.take F.np).map (·.1) = pn
  have hpn:∀ i x,pn[i]? = some x→i < F.np ∧ ∃ kd,fd.scope.names[i]? = some (x,kd):=fun i x e=>by
    rw [← hnames,List.getElem?_map] at e
    cases z:(fd.scope.names.take F.np)[i]? with
    | none=>rw [z] at e; cases e
    | some y=>
      rw [z] at e
      have zl:=(List.getElem?_eq_some_iff.mp z).1
      rw [List.length_take] at zl
      have hi:i < F.np:=by omega
      rw [List.getElem?_take_of_lt hi] at z
      obtain ⟨y1,y2⟩:=y
      cases e
      exact ⟨hi,y2,z⟩
  have hpn':∀ i x kd,i < F.np→fd.scope.names[i]? = some (x,kd)→pn[i]? = some x:=fun i x kd hi e=>by
    rw [← hnames,List.getElem?_map,List.getElem?_take_of_lt hi,e]; rfl
  have pnd:pn.Nodup:=by
    rw [← hnames,List.map_take]
    exact fa.names.apart.sublist (List.take_sublist _ _)
  generalize hall:vs ++ dvs.drop (vs.length + dvs.length - F.np) = allv
  have rall:RL σ st.N s.heap allv args:=by
    rw [← hall,← hargs,vlen,fa.dlen]
    exact RL.app ((fa.dfl σ st.N s.heap top).drop _) rl
  refine wpAny_newFunctionEnv_cells fa.kind (fun x hx=>?_) fun env he s' x=>?_
  · obtain ⟨i,hi⟩:=List.mem_iff_getElem?.mp hx
    have:=List.getElem?_zip_eq_some.mp hi
    obtain ⟨hi',kd,hkd⟩:=hpn i _ this.1
    rcases fa.kinds i _ _ hi' hkd with rfl | rfl
    · exact .inl (Nx fa.names.apart hkd)
    · refine .inr ⟨Nx fa.names.apart hkd,?_⟩
      obtain ⟨cc,hcc⟩:=O5 fd.scope.names (s.heap.objs.size + 1) [] (List.mem_of_getElem? hkd)
      rw [hcc]; rfl
  · have keep:=x.toInCall.keep
    refine ⟨(lim.keeps top).keeps keep,codeAny_func ?_⟩
    have ekind:env.scope = fd.scope:=by rw [he]; rfl
    have ecells:env.cells = cellsFrom (s.heap.objs.size + 1) fd.scope.names []:=by rw [he]; rfl
    have kindOf:∀ i y kd,fd.scope.names[i]? = some (y,kd)→env.kindOf y = some kd:=fun i y kd e=>by
      unfold Env.kindOf; rw [ekind]; exact Nx fa.names.apart e
    have Lnew:s.heap.get? env.locals = none:=by
      cases z:s.heap.get? env.locals with
      | none=>rfl
      | some ob=>exact absurd (Heap.lt_size z) (Nat.not_lt.mpr x.toInCall.fresh)
    have notTop:∀ a,s.heap.get? a = none→(HT w.params).get? a = none:=fun a e=>by
      cases z:(HT w.params).get? a with
      | none=>rfl
      | some ob=>rw [top _ _ z] at e; cases e
    have notSlot:∀ a,s.heap.get? a = none→∀ n ob,st.get n = some ob→σ.a n ≠ a:=fun a e n ob en z=>by
      obtain ⟨ob',h'⟩:=(o.obj n ob en).there
      rw [z,e] at h'; cases h'
    let ca:Nat→Addr:=fun i=>match fd.scope.names[i]? with
      | some (y,.cell)=>(env.cells.lookup y).getD env.locals
      | _=>env.locals
    have caAt:∀ i y,fd.scope.names[i]? = some (y,.cell)→env.cells.lookup y = some (ca i):=fun i y e=>by
      obtain ⟨cc,hcc⟩:=O5 fd.scope.names (s.heap.objs.size + 1) [] (List.mem_of_getElem? e)
      rw [← ecells] at hcc
      show _ = some (match fd.scope.names[i]? with | some (y,.cell)=>(env.cells.lookup y).getD env.locals | _=>env.locals)
      rw [e]
      show _ = some ((env.cells.lookup y).getD env.locals)
      rw [hcc]; rfl
    have cellNew:∀ y cc,env.cells.lookup y = some cc→s.heap.get? cc = none ∧ cc ≠ env.locals:=fun y cc e=>by
      have:=x.above _ _ (mem_of_lookup e)
      refine ⟨?_,Nat.ne_of_gt this⟩
      cases z:s.heap.get? cc with
      | none=>rfl
      | some ob=>exact absurd (Nat.lt_of_le_of_lt x.toInCall.fresh this) (Nat.not_lt.mpr (Nat.le_of_lt (Heap.lt_size z)))
    have caNew:∀ i,s.heap.get? (ca i) = none:=fun i=>by
      show s.heap.get? (match fd.scope.names[i]? with | some (y,.cell)=>(env.cells.lookup y).getD env.locals | _=>env.locals) = none
      split
      · rename_i y e
        have:=caAt i y e
        rw [this]
        exact (cellNew y _ this).1
      · exact Lnew
    have o1:Ok w σ s'.heap st:=o.grow keep
    have g1:Aw NoX σ s.heap st σ s'.heap st:=Aw.grow o keep
    have rall':RL σ st.N s'.heap allv args:=rall.mono (.refl _ _) (Nat.le_refl _) (.all keep)
    obtain ⟨σ',o2,g2,sm,le,hlk,hget⟩:=zfP (w:=w) (ca:=ca) o.bN caNew mk (fun i hi j hj e=>by
        obtain ⟨y,hy⟩:=(fa.cl i "").2 hi
        obtain ⟨z,hz⟩:=(fa.cl j "").2 hj
        have a1:=mem_of_lookup (caAt i y hy)
        have a2:=mem_of_lookup (caAt j z hz)
        rw [← e] at a2
        have:=name_of_addr x.apart a1 a2
        subst this
        exact zdn fa.names.apart hy hz) fa.clNd σ o1 g1 fun i hi=>by
      obtain ⟨y,hy⟩:=(fa.cl i "").2 hi
      have hl:=caAt i y hy
      refine ⟨notTop _ (caNew i),notSlot _ (caNew i),_,x.cell y _ hl,?_⟩
      by_cases q:i < F.np
      · rcases rall'.at_ i with ⟨v,d,e1,e2,rv⟩ | ⟨e1,e2⟩
        · have:Bi vals i = some d:=by
            cases z:Bi vals i with
            | none=>rw [vat' i z] at e2; cases e2
            | some d'=>rw [vat i d' z] at e2; rw [e2]
          rw [this]
          exact ⟨v,ze4 (kindOf i y _ hy) pn allv _ i pnd (hpn' i y _ q hy) e1,rv⟩
        · exact absurd ((List.getElem?_eq_none_iff.mp e2)) (by omega)
      · have:Bi vals i = none:=by
          cases z:Bi vals i with
          | none=>rfl
          | some d'=>have:=(List.getElem?_eq_some_iff.mp (vat i d' z)).1; omega
        rw [this]
        show bindC env.kindOf (pn.zip allv) (fun _=>none) y = none
        refine V0 pn allv _ fun hm=>?_
        obtain ⟨j,hj⟩:=List.mem_iff_getElem?.mp hm
        obtain ⟨hj',kd,hkd⟩:=hpn j y hj
        exact q (zdn fa.names.apart hy hkd ▸ hj')
    have er:Ag w fd.scope.names env ⟨vals',cs⟩ σ' st1 s'.heap:=by
      refine ⟨by rw [ekind]; exact fa.kind,by rw [ekind],⟨_,x.toInCall.ns,fun i y d e1 e2=>?_⟩,fun n ob e=>?_,notTop _ Lnew,fun i cc e=>?_,by rw [he]; rfl,by rw [he]; rfl⟩
      · have e3:=vat i d (hv' i d e2)
        rcases rall'.at_ i with ⟨v,d',e4,e5,rv⟩ | ⟨_,e5⟩
        · rw [e3] at e5; cases e5
          have hi:i < F.np:=by have:=(List.getElem?_eq_some_iff.mp e3).1; omega
          exact ⟨v,zfi (kindOf i y _ e1) pn allv _ i pnd (hpn' i y _ hi e1) e4,rv.mono sm le (.all fun _ _ e=>e)⟩
        · rw [e3] at e5; cases e5
      · rcases hget n ob e with ⟨o',e',z⟩ | ⟨i,hi,z⟩
        · rw [z]; exact notSlot _ Lnew n o' e'
        · rw [z]
          obtain ⟨y,hy⟩:=(fa.cl i "").2 hi
          exact (cellNew y _ (caAt i y hy)).2
      · obtain ⟨a,b,c'⟩:=hlk i cc e
        obtain ⟨y,hy⟩:=(fa.cl i "").2 b
        refine ⟨a,y,hy,?_⟩
        rw [c']; exact caAt i y hy
    obtain ⟨hx,tk,hs'⟩:=x.toInCall.same
    refine tb env (A.deeper env) σ' s' _ _ (rm.deeper env) o2 er fun fl σ3 h3 tk3 o3 rv g3=>?_
    rw [hs'] at g2 g3 ⊢
    refine kk _ σ3 h3 tk3 o3 rv ?_
    exact (g2.any.trans g3).less fun b ob e e'=>by rw [show b = env.locals from e,Lnew] at e'; cases e'
theorem zdQ (lim:zjp w) {FN:T Fn} (all:∀ f F,FN.get f = some F→Br w f F):∀ d,Cx w d (run FN d)
  | 0=>fun f ds st k r h=>by cases h
  | d + 1=>fun f ds st k r h=>by
    obtain ⟨F,h1,h2⟩:=Bf.mp h
    exact zdq lim (all f F h1) (zdQ lim all d) h2
end
section
variable {w:World}
set_option tactic.hygienic true in
theorem zfd (a b:Int):X9 a b = (a == b):=by
  cases a <;> cases b <;> simp only [X9]
  · rename_i m n
    show Nat.beq m n = _
    rw [Bool.eq_iff_iff,Nat.beq_eq,beq_iff_eq]; exact ⟨fun e=>by rw [e],fun e=>Int.ofNat.inj e⟩
  · simp
  · simp
  · rename_i m n
    show Nat.beq m n = _
    rw [Bool.eq_iff_iff,Nat.beq_eq]; simp [Int.negSucc_inj]
set_option tactic.hygienic true in
theorem Dw (a b:Int):D4 a b = decide (a < b):=by
  cases a <;> cases b <;> simp only [D4]
  · rename_i m n
    show Nat.blt m n = _
    rw [Bool.eq_iff_iff,Nat.blt_eq]; simp
  · rename_i m n
    symm
    rw [decide_eq_false_iff_not]
    have:(Int.negSucc n) < 0:=Int.negSucc_lt_zero n
    have:(0:Int) ≤ Int.ofNat m:=Int.natCast_nonneg m
    lia
  · rename_i m n
    symm
    rw [decide_eq_true_iff]
    have:(Int.negSucc m) < 0:=Int.negSucc_lt_zero m
    have:(0:Int) ≤ Int.ofNat n:=Int.natCast_nonneg n
    lia
  · rename_i m n
    show Nat.blt n m = _
    rw [Bool.eq_iff_iff,Nat.blt_eq,decide_eq_true_iff]
    rw [Int.negSucc_eq,Int.negSucc_eq]
    lia
theorem zk5 (b:Bool):b2i b = if b then 1 else 0:=by cases b <;> rfl
theorem zag:∀ x y:List Nat,Eu x y = true ↔ x = y
  | [],[]=>by simp [Eu]
  | [],_ :: _=>by simp [Eu]
  | _ :: _,[]=>by simp [Eu]
  | a :: x,b :: y=>by
    show ifB (Nat.beq a b) (Eu x y) false = true ↔ _
    rw [C2]
    by_cases q:a = b
    · subst q; simp [zag x y]
    · have:Nat.beq a b = false:=by
        cases z:Nat.beq a b with
        | false=>rfl
        | true=>exact absurd (Nat.eq_of_beq_eq_true z) q
      rw [this]; simp [q]
noncomputable def Dp (nm:Str) (st:St):Nat→D→Option PyData
  | 0,_=>none
  | n + 1,d=>match d with
    | .none=>some .none
    | .bool b=>some (.bool b)
    | .int i=>some (.int i)
    | .str l=>some (.str ⟨l.toArray⟩)
    | .sym=>some (.str nm)
    | .tup xs=>(xs.mapM (Dp nm st n)).map .tuple
    | .ref i=>match st.get i with
      | some (.list xs)=>(xs.mapM (Dp nm st n)).map .list
      | _=>none
    | _=>none
theorem zhL {α:Type} (f:α→Bool) (a:α) (r:List α):allB f (a :: r) = true ↔ f a = true ∧ allB f r = true:=by
  show ifB (f a) (allB f r) false = true ↔ _
  rw [C2]; cases f a <;> simp
theorem Va {α β:Type} {f:α→Option β} {a:α} {r:List α} {b:β} {bs:List β} (h1:f a = some b) (h2:r.mapM f = some bs):(a :: r).mapM f = some (b :: bs):=by
  rw [List.mapM_cons,h1]; show (List.mapM f r >>= fun l=>Pure.pure (b :: l)) = _; rw [h2]; rfl
theorem Ej {α β:Type} {f:α→Option β} {a:α} {r:List α} {ys:List β} (h:(a :: r).mapM f = some ys):∃ b bs,ys = b :: bs ∧ f a = some b ∧ r.mapM f = some bs:=by
  rw [List.mapM_cons] at h
  cases e:f a with
  | none=>rw [e] at h; cases h
  | some b=>
    rw [e] at h
    have h:(List.mapM f r >>= fun l=>Pure.pure (b :: l)) = some ys:=h
    cases e2:List.mapM f r with
    | none=>rw [e2] at h; cases h
    | some bs=>rw [e2] at h; cases h; exact ⟨b,bs,rfl,rfl,rfl⟩
theorem Zj {σ:Sg} {st:St} {h:Heap} (o:Ok w σ h st):∀ (n:Nat) (d:D) (v:Value),isD st n d = true→R σ st.N h v d→∃ pd as,Dp σ.nm st n d = some pd ∧ Reads h v pd as ∧ pd.canLay0 = true ∧ pd.depth ≤ n:=by
  intro n
  induction n with
  | zero=>intro d v hd _; cases hd
  | succ n ih=>
    have all:∀ (xs:List D) (vs:List Value),allB (isD st n) xs = true→RL σ st.N h vs xs→∃ pds as,xs.mapM (Dp σ.nm st n) = some pds ∧ ReadsAll h vs pds as ∧ PyData.canLayAll0 pds = true ∧ PyData.depthAll pds ≤ n:=by
      intro xs
      induction xs with
      | nil=>intro vs _ r; cases r; exact ⟨[],[],rfl,.nil,rfl,Nat.zero_le _⟩
      | cons x xs ihx=>
        intro vs hd r
        cases r with
        | cons r1 r2=>
          obtain ⟨a,b⟩:=(zhL _ _ _).mp hd
          obtain ⟨pd,as,e1,e2,e3,e4⟩:=ih x _ a r1
          obtain ⟨pds,bs,f1,f2,f3,f4⟩:=ihx _ b r2
          refine ⟨pd :: pds,as ++ bs,Va e1 f1,.cons e2 f2,?_,?_⟩
          · simp only [PyData.canLayAll0,e3,f3,Bool.and_self]
          · simp only [PyData.depthAll]; exact Nat.max_le.mpr ⟨e4,f4⟩
    intro d v hd r
    cases r with
    | none=>exact ⟨_,_,rfl,.none,rfl,by simp [PyData.depth]⟩
    | bool b=>exact ⟨_,_,rfl,.bool b,rfl,by simp [PyData.depth]⟩
    | int i t=>exact ⟨_,_,rfl,.int i t,rfl,by simp [PyData.depth]⟩
    | str s t q=>exact ⟨_,_,rfl,.str s t,by simp only [PyData.canLay0]; exact q,by simp [PyData.depth]⟩
    | sym t q=>exact ⟨_,_,rfl,.str _ t,by simp only [PyData.canLay0]; exact q,by simp [PyData.depth]⟩
    | tup h1 h2 h3 rl=>
      obtain ⟨pds,as,e1,e2,e3,e4⟩:=all _ _ hd rl
      refine ⟨.tuple pds,as,?_,.tuple h1 h2 h3 e2,by simp only [PyData.canLay0]; exact e3,by simp only [PyData.depth]; lia⟩
      show Option.map _ _ = _
      rw [e1]; rfl
    | ref i hi=>
      have hd:Option.rec (motive:=fun _=>Bool) false (fun o=>Bb.rec (motive:=fun _=>Bool) (fun xs=>allB (isD st n) xs) (fun _=>false) (fun _=>false) (fun _=>false) o) (st.get i) = true:=hd
      cases e:st.get i with
      | none=>rw [e] at hd; cases hd
      | some ob=>
        rw [e] at hd
        cases ob with
        | list xs=>
          obtain ⟨vs,hpl,rl⟩:=o.obj i _ e
          obtain ⟨ob',ho,hc,k,hdt⟩:=hpl.isList
          obtain ⟨pds,as,e1,e2,e3,e4⟩:=all _ _ hd rl
          refine ⟨.list pds,σ.a i :: as,?_,.list ho hc hdt e2,by simp only [PyData.canLay0]; exact e3,by simp only [PyData.depth]; lia⟩
          show (match st.get i with | some (.list xs)=>(xs.mapM (Dp σ.nm st n)).map PyData.list | _=>none) = _
          rw [e]
          show Option.map _ _ = _
          rw [e1]; rfl
        | dict _=>cases hd
        | ns _=>cases hd
        | cell _=>cases hd
    | obj C i hC hi h1=>cases hd
theorem zdv {st:St} {nm:Str} {n:Nat} (ih:∀ a b pa pb q,Dp nm st n a = some pa→Dp nm st n b = some pb→eqS st n a b = some q→q = PyData.eqv pa pb):
    ∀ (xs ys:List D) (ps qs:List PyData) (q:Bool),xs.mapM (Dp nm st n) = some ps→ys.mapM (Dp nm st n) = some qs→R7 (eqS st n) xs ys = some q→q = PyData.eqvAll ps qs
  | [],[],ps,qs,q,e1,e2,h=>by
    cases e1; cases e2; cases h; simp [PyData.eqvAll]
  | [],y :: ys,ps,qs,q,e1,e2,h=>by
    cases e1; obtain ⟨b,bs,rfl,_,_⟩:=Ej e2; cases h; simp [PyData.eqvAll]
  | x :: xs,[],ps,qs,q,e1,e2,h=>by
    cases e2; obtain ⟨b,bs,rfl,_,_⟩:=Ej e1; cases h; simp [PyData.eqvAll]
  | x :: xs,y :: ys,ps,qs,q,e1,e2,h=>by
    obtain ⟨p,ps,rfl,f1,f2⟩:=Ej e1
    obtain ⟨p',ps',rfl,g1,g2⟩:=Ej e2
    have h:ob (eqS st n x y) (fun q=>ifB q (R7 (eqS st n) xs ys) (some false)) = some q:=h
    obtain ⟨q1,h1,h2⟩:=Bf.mp h
    have:=ih _ _ _ _ _ f1 g1 h1
    rw [C2] at h2
    rw [PyData.eqvAll,← this]
    cases q1 with
    | true=>rw [if_pos rfl] at h2; rw [Bool.true_and]; exact zdv ih xs ys _ _ _ f2 g2 h2
    | false=>rw [if_neg Bool.false_ne_true] at h2; cases h2; rfl
theorem zmO (x y:List Nat):Eu x y = ((⟨x.toArray⟩:Str) == ⟨y.toArray⟩):=by
  rw [Bool.eq_iff_iff,zag,beq_iff_eq]
  constructor
  · intro e; rw [e]
  · intro e; have:=congrArg (fun s:Str=>s.cps.toList) e; simpa using this
theorem no1 {α:Type} {a:α} {P:Prop} (h:none = some a):P:=by cases h
theorem zfJ {pa pb A B:PyData} {q r:Bool} (h1:some A = some pa) (h2:some B = some pb) (h:some r = some q) (e:r = PyData.eqv A B):q = PyData.eqv pa pb:=by
  cases h1; cases h2; cases h; exact e
theorem zjG {st:St} {nm:Str}:∀ (n:Nat) (a b:D) (pa pb:PyData) (q:Bool),Dp nm st n a = some pa→Dp nm st n b = some pb→eqS st n a b = some q→q = PyData.eqv pa pb:=by
  intro n
  induction n with
  | zero=>intro a b pa pb q h; cases h
  | succ n ih=>
    have lst:∀ {i xs},st.get i = some (.list xs)→∀ {p},Dp nm st (n + 1) (.ref i) = some p→∃ ps,xs.mapM (Dp nm st n) = some ps ∧ p = .list ps:=fun {i xs} e {p} h=>by
      have h:(match st.get i with | some (.list xs)=>(xs.mapM (Dp nm st n)).map PyData.list | _=>none) = some p:=h
      rw [e] at h
      have h:(xs.mapM (Dp nm st n)).map PyData.list = some p:=h
      cases z:xs.mapM (Dp nm st n) with
      | none=>rw [z] at h; cases h
      | some ps=>rw [z] at h; cases h; exact ⟨ps,rfl,rfl⟩
    have isl:∀ {i p},Dp nm st (n + 1) (.ref i) = some p→∃ xs,st.get i = some (.list xs):=fun {i p} h=>by
      have h:(match st.get i with | some (.list xs)=>(xs.mapM (Dp nm st n)).map PyData.list | _=>none) = some p:=h
      cases z:st.get i with
      | none=>rw [z] at h; cases h
      | some o=>cases o <;> first | exact ⟨_,rfl⟩ | (rw [z] at h; cases h)
    have tupl:∀ {xs p},Dp nm st (n + 1) (.tup xs) = some p→∃ ps,xs.mapM (Dp nm st n) = some ps ∧ p = .tuple ps:=fun {xs p} h=>by
      have h:(xs.mapM (Dp nm st n)).map PyData.tuple = some p:=h
      cases z:xs.mapM (Dp nm st n) with
      | none=>rw [z] at h; cases h
      | some ps=>rw [z] at h; cases h; exact ⟨ps,rfl,rfl⟩
    intro a b pa pb q h1 h2 h
    cases a <;> cases b
    all_goals first
      | exact no1 h1
      | exact no1 h2
      | exact no1 h
      | (refine zfJ h1 h2 h ?_; simp only [PyData.eqv]; done)
      | (refine zfJ h1 h2 h ?_; simp only [PyData.eqv,Ri,zfd,zk5,zmO]; done)
      | (refine zfJ h1 h2 h ?_; simp only [PyData.eqv]; simp; done)
      | skip
    all_goals first
      | (obtain ⟨xs,e⟩:=isl h1; obtain ⟨ps,f1,rfl⟩:=lst e h1)
      | (obtain ⟨ps,f1,rfl⟩:=tupl h1)
      | skip
    all_goals first
      | (obtain ⟨ys,e'⟩:=isl h2; obtain ⟨qs,f2,rfl⟩:=lst e' h2)
      | (obtain ⟨qs,f2,rfl⟩:=tupl h2)
      | skip
    all_goals first
      | (refine zfJ rfl rfl h ?_; simp only [PyData.eqv]; done)
      | (refine zfJ h1 rfl h ?_; simp only [PyData.eqv]; done)
      | (refine zfJ rfl h2 h ?_; simp only [PyData.eqv]; done)
      | skip
    · have h:R7 (eqS st n) _ _ = some q:=h
      rw [PyData.eqv]
      exact zdv ih _ _ _ _ _ f1 f2 h
    · have h:Au st _ (fun xs=>Au st _ fun ys=>R7 (eqS st n) xs ys) = some q:=h
      obtain ⟨xs',e1,h⟩:=B0.mp h
      obtain ⟨ys',e2,h⟩:=B0.mp h
      rw [e] at e1; cases e1
      rw [e'] at e2; cases e2
      rw [PyData.eqv]
      exact zdv ih _ _ _ _ _ f1 f2 h
theorem Vz {pd:PyData} (h1:pd.canLay0 = true) (h2:pd.depth ≤ Nq):SeqAt.shaped pd = true:=by
  unfold SeqAt.shaped
  rw [h1,Bool.true_and,decide_eq_true_iff]
  have:Nq = 14:=rfl
  lia
theorem ze6 {st:St} {a b:D} {q:Bool}:Cy st a b = some q ↔ isD st Nq a = true ∧ isD st Nq b = true ∧ eqS st Nq a b = some q:=by
  unfold Cy; rw [Ar,Ar]
theorem zaB {A:Around} {σ:Sg} {s:Shared} {st:St} {a b:D} {va vb:Value} {q:Bool} {d:Nat} (h:Cy st a b = some q) (r:Rm A d) (o:Ok w σ s.heap st) (ra:R σ st.N s.heap va a) (rb:R σ st.N s.heap vb b) {Q:Value→Shared→Prop} {E:Value→Shared→Prop}:
    (Q (.bool q) s→wpAny (model pw w) A (compareOp .Eq va vb) Q E s) ∧ (Q (.bool (!q)) s→wpAny (model pw w) A (compareOp .NotEq va vb) Q E s):=by
  obtain ⟨h1,h2,h3⟩:=ze6.mp h
  obtain ⟨pa,as,e1,e2,e3,e4⟩:=Zj o Nq a va h1 ra
  obtain ⟨pb,bs,f1,f2,f3,f4⟩:=Zj o Nq b vb h2 rb
  have:=zjG Nq _ _ _ _ _ e1 f1 h3
  subst this
  exact ⟨fun k=>eq_dataH e2 f2 (Vz e3 e4) (Vz f3 f4) r.units64 k,fun k=>ne_dataH e2 f2 (Vz e3 e4) (Vz f3 f4) r.units64 k⟩
end
section
variable {w:World}
theorem zit {A:Around} {σ:Sg} {s:Shared} {st:St} {a b:D} {va vb:Value} {q:Bool} {d:Nat} (h:eqD st a b = some q) (r:Rm A d) (o:Ok w σ s.heap st) (ra:R σ st.N s.heap va a) (rb:R σ st.N s.heap vb b) {Q:Value→Shared→Prop} {E:Value→Shared→Prop}:
    (Q (.bool q) s→wpAny (model pw w) A (compareOp .Eq va vb) Q E s) ∧ (Q (.bool (!q)) s→wpAny (model pw w) A (compareOp .NotEq va vb) Q E s):=by
  by_cases hr:∃ i,a = .ref i
  · obtain ⟨i,rfl⟩:=hr
    have h:Mb b (fun j=>Au st i fun xs=>Au st j fun ys=>List.rec (motive:=fun _=>Option Bool) (List.rec (motive:=fun _=>Option Bool) (Cy st (.ref i) b) (fun _ _ _=>some false) xs) (fun _ _ _=>Cy st (.ref i) b) ys) = some q:=h
    obtain ⟨j,rfl,h⟩:=Bt.mp h
    obtain ⟨xs,e1,h⟩:=B0.mp h
    obtain ⟨ys,e2,h⟩:=B0.mp h
    cases ys with
    | cons _ _=>exact zaB h r o ra rb
    | nil=>
      cases xs with
      | nil=>exact zaB h r o ra rb
      | cons x xs=>
        cases h
        obtain ⟨vs,hl,rl⟩:=o.obj _ _ e1
        obtain ⟨us,hl',rl'⟩:=o.obj _ _ e2
        have hl:=hl.isList
        have hl':=hl'.isList
        have l1:=rl.length
        have l2:=rl'.length
        have hsz:(vs.size != us.size) = true:=by
          have a1:vs.size = xs.length + 1:=by simpa using l1
          have a2:us.size = 0:=by simpa using l2
          rw [a1,a2]; simp
        cases ra with
        | ref _ _=>
          cases rb with
          | ref _ _=>
            exact ⟨fun k=>SeqAt.eq_list_lengthsAt hl hl' hsz r.units k,fun k=>cmp_ofNotEq (SeqAt.RcNeAt.lists_lengths hl hl' hsz r.units _ _ _ _ k)⟩
  · have h:Cy st a b = some q:=by
      cases a <;> first | exact h | (exact absurd ⟨_,rfl⟩ hr) | cases h
    exact zaB h r o ra rb
theorem By:zbI (w:=w) cEq .Eq:=fun st a b r h d va vb A σ s Q E rm o p k=>(zit h rm o p.1 p.2).1 (k _ σ s.heap s.toks o rfl o.refl)
theorem T1:zbI (w:=w) cNe .NotEq:=fun st a b r h d va vb A σ s Q E rm o p k=>by
  obtain ⟨q,h1,h2⟩:=Bf.mp h
  cases h2
  exact (zit h1 rm o p.1 p.2).2 (k _ σ s.heap s.toks o (by rw [Nu]) o.refl)
theorem zeh {f:Int→Int→Bool} {st:St} {a b:D} {r:Bool} (h:Eh a (fun i=>Eh b fun j=>some (f i j)) = some r):∃ i j,a = .int i ∧ b = .int j ∧ r = f i j:=by
  obtain ⟨i,e1,h1⟩:=Bh.mp h
  obtain ⟨j,e2,h2⟩:=Bh.mp h1
  exact ⟨i,j,e1,e2,(Option.some.inj h2).symm⟩
theorem ziE:zbI (w:=w) cLt .Lt:=fun st a b r h d va vb A σ s Q E rm o p k=>by
  obtain ⟨i,j,rfl,rfl,rfl⟩:=zeh (st:=st) h
  obtain ⟨p1,p2⟩:=p; obtain ⟨_,rfl⟩:=p1.inv; obtain ⟨_,rfl⟩:=p2.inv
  exact lt_int (k _ σ s.heap s.toks o (by rw [Dw]) o.refl)
theorem zgy:zbI (w:=w) cGt .Gt:=fun st a b r h d va vb A σ s Q E rm o p k=>by
  obtain ⟨i,j,rfl,rfl,rfl⟩:=zeh (f:=fun i j=>D4 j i) (st:=st) h
  obtain ⟨p1,p2⟩:=p; obtain ⟨_,rfl⟩:=p1.inv; obtain ⟨_,rfl⟩:=p2.inv
  exact gt_int (k _ σ s.heap s.toks o (by rw [Dw]) o.refl)
theorem zt4:zbI (w:=w) cLe .LtE:=fun st a b r h d va vb A σ s Q E rm o p k=>by
  obtain ⟨i,j,rfl,rfl,rfl⟩:=zeh (f:=fun i j=>Rv (D4 j i)) (st:=st) h
  obtain ⟨p1,p2⟩:=p; obtain ⟨_,rfl⟩:=p1.inv; obtain ⟨_,rfl⟩:=p2.inv
  exact le_int (k _ σ s.heap s.toks o (by rw [Dw,Nu,← decide_not]; congr 1; simp) o.refl)
theorem zrW:zbI (w:=w) cGe .GtE:=fun st a b r h d va vb A σ s Q E rm o p k=>by
  obtain ⟨i,j,rfl,rfl,rfl⟩:=zeh (f:=fun i j=>Rv (D4 i j)) (st:=st) h
  obtain ⟨p1,p2⟩:=p; obtain ⟨_,rfl⟩:=p1.inv; obtain ⟨_,rfl⟩:=p2.inv
  exact ge_int (k _ σ s.heap s.toks o (by rw [Dw,Nu,← decide_not]; congr 1; simp) o.refl)
theorem zd7 {σ:Sg} {N:Nat} {h:Heap} {v:Value} {d:D} (r:R σ N h v d):Pv d = (v == .none):=by
  cases r <;> rfl
theorem zby:zbI (w:=w) cIs .Is:=fun st a b r h d va vb A σ s Q E rm o p k=>by
  obtain ⟨e1,h1⟩:=T0.mp h
  subst e1
  cases h1
  obtain ⟨p1,p2⟩:=p; obtain rfl:=p2.inv
  exact PySem.is_none (k _ σ s.heap s.toks o (by rw [zd7 p1]) o.refl)
theorem zbZ:zbI (w:=w) zcL .IsNot:=fun st a b r h d va vb A σ s Q E rm o p k=>by
  obtain ⟨e1,h1⟩:=T0.mp h
  subst e1
  cases h1
  obtain ⟨p1,p2⟩:=p; obtain rfl:=p2.inv
  exact PySem.isNot_none (k _ σ s.heap s.toks o (by rw [zd7 p1,Nu]) o.refl)
theorem zem {st:St} {x c:D} {xs:List D} {q:Bool}:W2 st x c xs = some q ↔ isD st Nq c = true ∧ isD st Nq x = true ∧ zhj (eqS st Nq) x xs = some q:=by
  unfold W2; rw [Ar,Ar]
theorem ze3 {st:St} {nm:Str} {n m:Nat} {x:D} {px:PyData}:∀ (xs:List D) (ps:List PyData) (q:Bool),(∀ y py q,Dp nm st n y = some py→eqS st m y x = some q→q = PyData.eqv py px)→xs.mapM (Dp nm st n) = some ps→zhj (eqS st m) x xs = some q→q = ps.any fun y=>PyData.eqv y px
  | [],ps,q,hh,e1,h=>by cases e1; cases h; rfl
  | y :: ys,ps,q,hh,e1,h=>by
    obtain ⟨p,ps,rfl,f1,f2⟩:=Ej e1
    have h:ob (eqS st m y x) (fun q=>ifB q (some true) (zhj (eqS st m) x ys)) = some q:=h
    obtain ⟨q1,h1,h2⟩:=Bf.mp h
    have:=hh _ _ _ f1 h1
    rw [C2] at h2
    rw [List.any_cons,← this]
    cases q1 with
    | true=>rw [if_pos rfl] at h2; cases h2; rfl
    | false=>rw [if_neg Bool.false_ne_true] at h2; rw [Bool.false_or]; exact ze3 ys ps q hh f2 h2
theorem zil {nm:Str} {st:St}:∀ (n:Nat) (d:D) (p:PyData),Dp nm st n d = some p→Dp nm st (n + 1) d = some p:=by
  intro n
  induction n with
  | zero=>intro d p h; cases h
  | succ n ih=>
    have all:∀ (xs:List D) (ps:List PyData),xs.mapM (Dp nm st n) = some ps→xs.mapM (Dp nm st (n + 1)) = some ps:=by
      intro xs
      induction xs with
      | nil=>intro ps h; cases h; rfl
      | cons x xs ihx=>
        intro ps h
        obtain ⟨p,ps,rfl,f1,f2⟩:=Ej h
        exact Va (ih _ _ f1) (ihx _ f2)
    intro d p h
    cases d with
    | tup xs=>
      have h:(xs.mapM (Dp nm st n)).map PyData.tuple = some p:=h
      show (xs.mapM (Dp nm st (n + 1))).map PyData.tuple = some p
      cases z:xs.mapM (Dp nm st n) with
      | none=>rw [z] at h; cases h
      | some ps=>rw [all _ _ z]; rw [z] at h; exact h
    | ref i=>
      have h:(match st.get i with | some (.list xs)=>(xs.mapM (Dp nm st n)).map PyData.list | _=>none) = some p:=h
      show (match st.get i with | some (.list xs)=>(xs.mapM (Dp nm st (n + 1))).map PyData.list | _=>none) = some p
      cases z:st.get i with
      | none=>rw [z] at h; cases h
      | some o=>
        rw [z] at h
        cases o with
        | list xs=>
          have h:(xs.mapM (Dp nm st n)).map PyData.list = some p:=h
          show (xs.mapM (Dp nm st (n + 1))).map PyData.list = some p
          cases z:xs.mapM (Dp nm st n) with
          | none=>rw [z] at h; cases h
          | some ps=>rw [all _ _ z]; rw [z] at h; exact h
        | _=>cases h
    | _=>exact h
theorem zda {A:Around} {σ:Sg} {s:Shared} {st:St} {x c:D} {xs:List D} {vx vc:Value} {q:Bool} {d:Nat} (h:W2 st x c xs = some q) (hc:c = .tup xs ∨ ∃ i,c = .ref i ∧ st.get i = some (.list xs)) (r:Rm A d) (o:Ok w σ s.heap st) (rx:R σ st.N s.heap vx x) (rc:R σ st.N s.heap vc c) {Q:Value→Shared→Prop} {E:Value→Shared→Prop}:
    (Q (.bool q) s→wpAny (model pw w) A (compareOp .In vx vc) Q E s) ∧ (Q (.bool (!q)) s→wpAny (model pw w) A (compareOp .NotIn vx vc) Q E s):=by
  obtain ⟨h1,h2,h3⟩:=zem.mp h
  obtain ⟨pc,as,e1,e2,e3,e4⟩:=Zj o Nq c vc h1 rc
  obtain ⟨px,bs,f1,f2,f3,f4⟩:=Zj o Nq x vx h2 rx
  have hu:∀ {ps:List PyData},A.units + 1 + min (PyData.depthAll ps) px.depth < cLine:=fun {ps}=>by
    have:min (PyData.depthAll ps) px.depth ≤ px.depth:=Nat.min_le_right _ _
    have:Nq = 14:=rfl
    have:=r.units64
    lia
  have key:∀ {ps},xs.mapM (Dp σ.nm st 13) = some ps→q = ps.any fun y=>PyData.eqv y px:=fun {ps} e=>ze3 xs ps q (fun y py q hy hq=>zjG Nq _ _ _ _ _ (zil 13 _ _ hy) f1 hq) e h3
  rcases hc with rfl | ⟨i,rfl,hi⟩
  · have e1:(xs.mapM (Dp σ.nm st 13)).map PyData.tuple = some pc:=e1
    cases z:xs.mapM (Dp σ.nm st 13) with
    | none=>rw [z] at e1; cases e1
    | some ps=>
      rw [z] at e1; cases e1
      have:=key z
      subst this
      simp only [PyData.canLay0] at e3
      exact ⟨fun k=>SeqAt.in_tuple_reads e2 f2 e3 f3 hu k,fun k=>SeqAt.notIn_tuple_reads e2 f2 e3 f3 hu k⟩
  · have e1:(match st.get i with | some (.list xs)=>(xs.mapM (Dp σ.nm st 13)).map PyData.list | _=>none) = some pc:=e1
    rw [hi] at e1
    have e1:(xs.mapM (Dp σ.nm st 13)).map PyData.list = some pc:=e1
    cases z:xs.mapM (Dp σ.nm st 13) with
    | none=>rw [z] at e1; cases e1
    | some ps=>
      rw [z] at e1; cases e1
      have:=key z
      subst this
      simp only [PyData.canLay0] at e3
      exact ⟨fun k=>SeqAt.in_list_reads e2 f2 e3 f3 hu k,fun k=>SeqAt.notIn_list_reads e2 f2 e3 f3 hu k⟩
end
section
variable {w:World} {σ:Sg} {N:Nat} {h:Heap}
theorem zgR {x y:Str} (e:x.cps.toList = y.cps.toList):x = y:=by
  cases x; cases y; simp at e; rw [e]
theorem zd2 (x y:Str):Eu x.cps.toList y.cps.toList = decide (x = y):=by
  rw [Bool.eq_iff_iff,zag,decide_eq_true_iff]
  exact ⟨zgR,fun e=>by rw [e]⟩
theorem zjk (p:List Nat × D) (r:List (List Nat × D)) (i:List Nat):lkS (p :: r) i = if Eu p.1 i then some p.2 else lkS r i:=by
  show ifB (Eu p.1 i) (some p.2) (lkS r i) = _
  rw [C2]
theorem zhS (p:List Nat × D) (r:List (List Nat × D)) (i:List Nat) (v:D):zaz i v (p :: r) = if Eu p.1 i then (p.1,v) :: r else p :: zaz i v r:=by
  show ifB (Eu p.1 i) ((p.1,v) :: r) (p :: zaz i v r) = _
  rw [C2]
theorem RD.value (k:Str) {kvs:List (Str × Value)} {es:List (List Nat × D)} (x:RD σ N h kvs es):RO σ N h (valueAt kvs k) (lkS es k.cps.toList):=by
  induction x with
  | nil=>rfl
  | @cons k' v d r es q a b ih=>
    rw [zjk,zd2]
    unfold valueAt at ih ⊢
    rw [List.find?_cons]
    by_cases e:k' = k
    · subst e; simp; exact ⟨v,rfl,a⟩
    · simp [e]; exact ih
theorem zcN {k' k:Str} {v' v:Value} {r:List (Str × Value)} (e:k' ≠ k):stored ((k',v') :: r) k v = (k',v') :: stored r k v:=by
  unfold stored
  by_cases q:(r.any fun kv=>decide (kv.1 = k)) = true
  · simp [e,q]
  · simp [e,q]
theorem zd3 {k:Str} {v:Value}:∀ {r:List (Str × Value)},k ∉ r.map (·.1)→r.map (fun kv=>if kv.1 = k then (kv.1,v) else kv) = r
  | [],_=>rfl
  | p :: r,h=>by
    rw [List.map_cons] at h
    have h1:¬ p.1 = k:=fun e=>h (e ▸ List.mem_cons_self)
    rw [List.map_cons,if_neg h1,zd3 fun q=>h (List.mem_cons_of_mem _ q)]
theorem RD.store {k:Str} {v:Value} {d:D} (hk:PyData.strOk k = true) (hv:R σ N h v d) {kvs:List (Str × Value)} {es:List (List Nat × D)} (x:RD σ N h kvs es) (hn:(kvs.map (·.1)).Nodup):RD σ N h (stored kvs k v) (zaz k.cps.toList d es):=by
  induction x with
  | nil=>exact .cons hk hv .nil
  | @cons k' v' d' r es q a b ih=>
    rw [List.map_cons,List.nodup_cons] at hn
    rw [zhS,zd2]
    by_cases e:k' = k
    · subst e
      rw [if_pos (by simp)]
      have:stored ((k',v') :: r) k' v = (k',v) :: r:=by
        unfold stored
        rw [if_pos (by simp),List.map_cons,if_pos rfl,zd3 hn.1]
      rw [this]
      exact .cons q hv b
    · rw [if_neg (by simp [e]),zcN e]
      exact .cons q a (ih hn.2)
theorem RD.length {kvs:List (Str × Value)} {es:List (List Nat × D)} (x:RD σ N h kvs es):kvs.length = es.length:=by
  induction x with
  | nil=>rfl
  | cons _ _ _ ih=>rw [List.length_cons,List.length_cons,ih]
noncomputable def zcy (w:World):Prop:=∃ o,(HT w.params).get? sysModules = some o
theorem zaI (sys:zcy w) {st:St} (o:Ok w σ h st) {n:Nat} {ob:Bb} (e:st.get n = some ob):(σ.a n == sysModules) = false:=by
  rw [beq_eq_false_iff_ne]
  intro z
  obtain ⟨x,hx⟩:=sys
  have:=o.new n ob e
  rw [z,hx] at this; cases this
theorem zf2 (x:Str) (t:Tok):(PySem.strKind pw w).is x (.str x t) = true:=by
  show Value.isStrOf x (.str x t) = true
  unfold Value.isStrOf; simp
theorem zhM (sys:zcy w) {A:Around} {s:Shared} {st:St} {x:D} {i:Nat} {es:List (List Nat × D)} {vx:Value} {q:Bool} {d:Nat} (hh:zf7 es x = some q) (hi:st.get i = some (.dict es)) (r:Rm A d) (o:Ok w σ s.heap st) (rx:R σ st.N s.heap vx x) {Q:Value→Shared→Prop} {E:Value→Shared→Prop}:
    ((∀ tk,Q (.bool q) { s with toks:=tk })→wpAny (model pw w) A (compareOp .In vx (.ref (σ.a i))) Q E s) ∧ ((∀ tk,Q (.bool (!q)) { s with toks:=tk })→wpAny (model pw w) A (compareOp .NotIn vx (.ref (σ.a i))) Q E s):=by
  obtain ⟨l,rfl,h1⟩:=Dk.mp hh
  obtain ⟨kvs,hd,rd⟩:=o.obj _ _ hi
  cases rx with
  | str x t ok=>
    have v:=rd.value x
    have hq:q = (valueAt kvs x).isSome:=by
      cases z:lkS es x.cps.toList with
      | none=>rw [z] at h1 v; cases h1; have v:valueAt kvs x = none:=v; rw [v]; rfl
      | some dd=>rw [z] at h1 v; cases h1; obtain ⟨u,e,_⟩:=v; rw [e]; rfl
    subst hq
    exact ⟨fun k=>wpAny_in_of (zf2 x t) (zaI sys o hi) hd.mapOf (k _),fun k=>wpAny_notIn_of (zf2 x t) (zaI sys o hi) hd.mapOf (k _)⟩
theorem ziM (sys:zcy w) {A:Around} {s:Shared} {st:St} {x c:D} {vx vc:Value} {q:Bool} {d:Nat} (hh:inD st x c = some q) (r:Rm A d) (o:Ok w σ s.heap st) (rx:R σ st.N s.heap vx x) (rc:R σ st.N s.heap vc c) {Q:Value→Shared→Prop} {E:Value→Shared→Prop}:
    ((∀ tk,Q (.bool q) { s with toks:=tk })→wpAny (model pw w) A (compareOp .In vx vc) Q E s) ∧ ((∀ tk,Q (.bool (!q)) { s with toks:=tk })→wpAny (model pw w) A (compareOp .NotIn vx vc) Q E s):=by
  cases c with
  | tup xs=>
    have a:=zda (q:=q) hh (.inl rfl) r o rx rc (Q:=Q) (E:=E)
    exact ⟨fun k=>a.1 (k s.toks),fun k=>a.2 (k s.toks)⟩
  | ref i=>
    have hh:ob (T.get st.H i) (fun o=>Bb.rec (motive:=fun _=>Option Bool) (fun xs=>W2 st x (.ref i) xs) (fun es=>zf7 es x) (fun _=>none) (fun _=>none) o) = some q:=hh
    obtain ⟨ob,e,h2⟩:=Bf.mp hh
    cases ob with
    | list xs=>
      have a:=zda (q:=q) h2 (.inr ⟨i,rfl,e⟩) r o rx rc (Q:=Q) (E:=E)
      exact ⟨fun k=>a.1 (k s.toks),fun k=>a.2 (k s.toks)⟩
    | dict es=>cases rc with | ref _ _=>exact zhM sys h2 e r o rx
    | ns _=>cases h2
    | cell _=>cases h2
  | _=>cases hh
theorem zb7 (sys:zcy w):zbI (w:=w) cIn .In:=fun st a b r h d va vb A σ s Q E rm o p k=>(ziM sys h rm o p.1 p.2).1 fun tk=>k _ σ s.heap tk o rfl o.refl
theorem Qc (sys:zcy w):zbI (w:=w) Qd .NotIn:=fun st a b r h d va vb A σ s Q E rm o p k=>by
  obtain ⟨q,h1,h2⟩:=Bf.mp h
  cases h2
  exact (ziM sys h1 rm o p.1 p.2).2 fun tk=>k _ σ s.heap tk o (by rw [Nu]) o.refl
end
section
variable {w:World} {nt:List (Str × NameKind)}
theorem Cc {α β:Type} {xs:List α} {x:Option β} {y:β}:fit xs x = some y ↔ xs.length < 100000 ∧ x = some y:=by
  unfold fit; rw [Ar,Nat.blt_eq,Mine.En]
theorem Cd {n:Nat} (h:n < 100000):n ≤ sizeLine:=by
  have:sizeLine = 16777216:=rfl
  lia
theorem zt2 {σ:Sg} {h:Heap} {st:St} (o:Ok w σ h st) {X:Addr→Prop} {ob:Obj} {ao:Bb} (hN:st.N < 1000000) (r:Lo w (more σ st.N h.objs.size) (st.N + 1) (h.push ob) h.objs.size ao):
    Ok w (more σ st.N h.objs.size) (h.push ob) (st.new ao) ∧ Aw X σ h st (more σ st.N h.objs.size) (h.push ob) (st.new ao) ∧ R (more σ st.N h.objs.size) (st.N + 1) (h.push ob) (.ref h.objs.size) (.ref st.N):=by
  have k:∀ b o',h.get? b = some o'→(h.push ob).get? b = some o':=fun b o' e=>Heap.get?_push_of_some _ e
  refine ⟨o.fresh hN (B8 h) k r,Aw.fresh_ o hN (B8 h) k,?_⟩
  have:=R.ref (σ:=more σ st.N h.objs.size) (N:=st.N + 1) (h:=h.push ob) st.N (Nat.lt_succ_self _)
  rwa [Bv] at this
theorem Qw (h:Heap) (ob:Obj) (hf:autoParam (ob.isFreed = false) tR):(h.push ob).get? h.objs.size = some ob:=Heap.get?_push_size _ hf
theorem zeI (h:Heap) (vs:Array Value):(h.push { cls:=.type "list",data:=.seq vs }).PlainList h.objs.size vs:=⟨_,Qw h _⟩
theorem Nz {σ:Sg} {h:Heap} {st:St} (o:Ok w σ h st) {X:Addr→Prop} {vs:Array Value} {xs:List D} (hN:st.N < 1000000) (rl:RL σ st.N h vs.toList xs):
    Ok w (more σ st.N h.objs.size) (h.push { cls:=.type "list",data:=.seq vs }) (st.new (.list xs)) ∧ Aw X σ h st (more σ st.N h.objs.size) (h.push { cls:=.type "list",data:=.seq vs }) (st.new (.list xs)) ∧ R (more σ st.N h.objs.size) (st.new (.list xs)).N (h.push { cls:=.type "list",data:=.seq vs }) (.ref h.objs.size) (.ref st.N):=
  zt2 o hN ⟨vs,zeI _ _,rl.mono (An _ _) (Nat.le_succ _) (.all fun b o' e=>Heap.get?_push_of_some _ e)⟩
theorem Ak {xs:Sm (List D)} {es:List Expr} {kd pos} (hs:SL w nt xs es) (hn:autoParam (es.length ≤ sizeLine) tDe):SX w nt (B6 xs) (.Tuple es kd pos):=fun m c hc e st k r h=>by
  obtain ⟨ds,st1,h1,hl,t1⟩:=hs m c hc e st _ r h
  refine ⟨_,_,h1,fun env=>?_⟩
  rw [arm_eval_Tuple]
  refine Tr.at (Tr.bind (t1 env pos) Ag.stays fun vs A σ s Q E rm o p kk=>?_)
  have rl:=p.2
  refine wpAny_newTuple (kk _ σ _ s.toks (o.grow fun b o' e=>Heap.get?_push_of_some _ e) ?_ (Aw.grow o fun b o' e=>Heap.get?_push_of_some _ e)) (by rw [rl.length,hl]; exact hn)
  exact .tup (Qw _ _) rfl rfl (by simpa using rl.mono (.refl _ _) (Nat.le_refl _) (.all fun b o' e=>Heap.get?_push_of_some _ e))
theorem Ad {xs:Sm (List D)} {es:List Expr} {pos} (hs:SL w nt xs es) (hn:autoParam (es.length ≤ sizeLine) tDe):SX w nt (Al xs) (.List es pos):=fun m c hc e st k r h=>by
  obtain ⟨ds,st1,h1,hl,t1⟩:=hs m c hc e st _ r h
  obtain ⟨hN,h2⟩:=Dm.mp h1
  refine ⟨_,_,h2,fun env=>?_⟩
  rw [arm_eval_List]
  refine Tr.at (Tr.bind (t1 env pos) Ag.stays fun vs A σ s Q E rm o p kk=>?_)
  have rl:=p.2
  obtain ⟨o',g',r'⟩:=Nz (X:=NoX) o (vs:=vs.toArray) hN (by simpa using rl)
  exact wpAny_newList (kk _ _ _ s.toks o' r' g') (by rw [rl.length,hl]; exact hn)
theorem Fg {st:St} {xs:List D} {k:D→St→Ans} {r:D × St}:newList st xs k = some r ↔ xs.length < 100000 ∧ st.N < 1000000 ∧ k (.ref st.N) (st.new (.list xs)) = some r:=by
  unfold newList; rw [Cc,Dm]
theorem zeu {x y:Str} (h1:PyData.strOk x = true) (h2:PyData.strOk y = true):PyData.strOk (x ++ y) = true:=by
  unfold PyData.strOk at *
  show (x.cps ++ y.cps).all _ = true
  rw [Array.all_append,h1,h2]; rfl
theorem zgs (x y:Str):(x ++ y).cps.toList = x.cps.toList ++ y.cps.toList:=by
  show (x.cps ++ y.cps).toList = _
  simp
theorem ztU:zgp (w:=w) zti fun a b=>binaryOp .Sub a b:=fun st a b k r h=>by
  obtain ⟨i,rfl,h1⟩:=Bh.mp h
  obtain ⟨j,rfl,h2⟩:=Bh.mp h1
  refine ⟨_,_,h2,fun d va vb A σ s Q E rm o p kk=>?_⟩
  obtain ⟨p1,p2⟩:=p; obtain ⟨_,rfl⟩:=p1.inv; obtain ⟨_,rfl⟩:=p2.inv
  exact PyProof.Rows.sub_int (kk _ σ s.heap _ o (.int _ _) o.refl)
theorem zfK:zgp (w:=w) Zy fun a b=>binaryOp .Mod a b:=fun st a b k r h=>by
  obtain ⟨i,rfl,h1⟩:=Bh.mp h
  obtain ⟨j,rfl,h2⟩:=Bh.mp h1
  obtain ⟨hp,h3⟩:=Ar.mp h2
  rw [Dw,decide_eq_true_iff] at hp
  refine ⟨_,_,h3,fun d va vb A σ s Q E rm o p kk=>?_⟩
  obtain ⟨p1,p2⟩:=p; obtain ⟨_,rfl⟩:=p1.inv; obtain ⟨_,rfl⟩:=p2.inv
  exact PyProof.Rows.mod_int (by lia) (kk _ σ s.heap _ o (.int _ _) o.refl)
theorem zus:zgp (w:=w) znl fun a b=>binaryOp .Pow a b:=fun st a b k r h=>by
  obtain ⟨i,rfl,h1⟩:=Bh.mp h
  obtain ⟨j,rfl,h2⟩:=Bh.mp h1
  obtain ⟨n,rfl,h3⟩:=O0.mp h2
  obtain ⟨hp,h4⟩:=Ar.mp h3
  obtain ⟨hq,h4⟩:=Ar.mp h4
  rw [Nat.blt_eq] at hp hq
  refine ⟨_,_,h4,fun d va vb A σ s Q E rm o p kk=>?_⟩
  obtain ⟨p1,p2⟩:=p; obtain ⟨_,rfl⟩:=p1.inv; obtain ⟨_,rfl⟩:=p2.inv
  exact PyProof.Rows.pow_int_small (by exact Int.natCast_nonneg n) (by show (n:Int) ≤ _; lia) (by lia) (kk _ σ s.heap _ o (.int _ _) o.refl)
theorem zla:zgp (w:=w) zer fun a b=>binaryOp .Mult a b:=fun st a b k r h=>by
  obtain ⟨i,rfl,h1⟩:=Bh.mp h
  obtain ⟨j,rfl,h2⟩:=Bh.mp h1
  obtain ⟨b1,h2⟩:=Ar.mp h2
  obtain ⟨b2,h2⟩:=Ar.mp h2
  rw [Nat.blt_eq] at b1 b2
  refine ⟨_,_,h2,fun d va vb A σ s Q E rm o p kk=>?_⟩
  obtain ⟨p1,p2⟩:=p; obtain ⟨_,rfl⟩:=p1.inv; obtain ⟨_,rfl⟩:=p2.inv
  exact PyProof.Rows.mul_int (kk _ σ s.heap _ o (.int _ _) o.refl) (.of_left (intBits_le_64 (by lia) (by lia)))
theorem Et:zgp (w:=w) Eg fun a b=>binaryOp .Add a b:=fun st a b k r h=>by
  cases a with
  | int i=>
    have h:Eh b (fun j=>k (.int (i + j)) st) = some r:=h
    obtain ⟨j,rfl,h2⟩:=Bh.mp h
    refine ⟨_,_,h2,fun d va vb A σ s Q E rm o p kk=>?_⟩
    obtain ⟨p1,p2⟩:=p; obtain ⟨_,rfl⟩:=p1.inv; obtain ⟨_,rfl⟩:=p2.inv
    exact PyProof.Rows.add_int (kk _ σ s.heap _ o (.int _ _) o.refl)
  | str x=>
    have h:Wz b (fun y=>fit (app x y) (k (.str (app x y)) st)) = some r:=h
    obtain ⟨y,rfl,h2⟩:=Dk.mp h
    obtain ⟨hl,h3⟩:=Cc.mp h2
    rw [Qu] at hl h3
    refine ⟨_,_,h3,fun d va vb A σ s Q E rm o p kk=>?_⟩
    obtain ⟨p1,p2⟩:=p
    cases p1 with
    | str x tx ok1=>
      cases p2 with
      | str y ty ok2=>
        refine PyProof.Rows.add_str (fun t' tk=>kk _ σ s.heap tk o ?_ o.refl) (by rw [List.length_append] at hl; exact Cd hl)
        rw [← zgs]
        exact .str _ _ (zeu ok1 ok2)
  | tup x=>
    have h:zev b (fun y=>fit (app x y) (k (.tup (app x y)) st)) = some r:=h
    obtain ⟨y,rfl,h2⟩:=Vx.mp h
    obtain ⟨hl,h3⟩:=Cc.mp h2
    rw [Qu] at hl h3
    refine ⟨_,_,h3,fun d va vb A σ s Q E rm o p kk=>?_⟩
    obtain ⟨p1,p2⟩:=p
    cases p1 with
    | @tup l o1 vs n _ g1 c1 d1 r1=>
      cases p2 with
      | @tup b o2 us n2 _ g2 c2 d2 r2=>
        have rr:RL σ st.N s.heap (vs.toList ++ us.toList) (x ++ y):=RL.app r2 r1
        obtain ⟨cls,dd,data,sl⟩:=o1
        obtain ⟨cls2,dd2,data2,sl2⟩:=o2
        simp only at c1 d1 c2 d2
        subst c1 d1 c2 d2
        have hsz:vs.size + us.size ≤ sizeLine:=by
          have e1:vs.size = x.length:=by simpa using r1.length
          have e2:us.size = y.length:=by simpa using r2.length
          rw [List.length_append] at hl
          rw [e1,e2]; exact Cd hl
        by_cases q1:vs.isEmpty = true
        · have e1:vs = #[]:=by simpa using q1
          subst e1
          refine concat_meets ⟨_,g1,rfl⟩ ⟨_,g2,rfl⟩ noFill_tuple_add seq_tuple_add F.slot_tuple_add F.entry_tuple_add (F.args_tuple_add_2 _ _) (tuple_addW0 l b _ us n n2 dd dd2 sl sl2 q1) ⟨g1,g2,kk _ σ s.heap s.toks o (.tup g2 rfl rfl ?_) o.refl⟩
          simpa using rr
        · by_cases q2:us.isEmpty = true
          · have e1:us = #[]:=by simpa using q2
            subst e1
            refine concat_meets ⟨_,g1,rfl⟩ ⟨_,g2,rfl⟩ noFill_tuple_add seq_tuple_add F.slot_tuple_add F.entry_tuple_add (F.args_tuple_add_2 _ _) (tuple_addW1 l b vs _ n n2 dd dd2 sl sl2 q1 q2) ⟨g1,g2,kk _ σ s.heap s.toks o (.tup g1 rfl rfl ?_) o.refl⟩
            simpa using rr
          · refine concat_meets ⟨_,g1,rfl⟩ ⟨_,g2,rfl⟩ noFill_tuple_add seq_tuple_add F.slot_tuple_add F.entry_tuple_add (F.args_tuple_add_2 _ _) (tuple_addW2 l b vs us n n2 dd dd2 sl sl2 q1 q2 hsz) ⟨g1,g2,kk _ σ _ s.toks (o.grow fun b o' e=>Heap.get?_push_of_some _ e) (.tup (Qw _ _) rfl rfl ?_) (Aw.grow o fun b o' e=>Heap.get?_push_of_some _ e)⟩
            rw [Array.toList_append]
            exact rr.mono (.refl _ _) (Nat.le_refl _) (.all fun b o' e=>Heap.get?_push_of_some _ e)
  | ref i=>
    have h:Mb b (fun j=>Au st i fun x=>Au st j fun y=>newList st (app x y) k) = some r:=h
    obtain ⟨j,rfl,h2⟩:=Bt.mp h
    obtain ⟨x,e1,h3⟩:=B0.mp h2
    obtain ⟨y,e2,h4⟩:=B0.mp h3
    obtain ⟨hl,hN,h5⟩:=Fg.mp h4
    rw [Qu] at hl h5
    refine ⟨_,_,h5,fun d va vb A σ s Q E rm o p kk=>?_⟩
    obtain ⟨p1,p2⟩:=p; obtain ⟨rfl,_⟩:=p1.inv; obtain ⟨rfl,_⟩:=p2.inv
    obtain ⟨vs,hl1,r1⟩:=o.obj _ _ e1
    obtain ⟨us,hl2,r2⟩:=o.obj _ _ e2
    have hl1:=hl1.isList
    have hl2:=hl2.isList
    have rr:RL σ st.N s.heap (vs.toList ++ us.toList) (x ++ y):=RL.app r2 r1
    obtain ⟨⟨cls,dd,data,sl⟩,ho,hc,n,hd⟩:=id hl1
    obtain ⟨⟨cls2,dd2,data2,sl2⟩,ho2,hc2,n2,hd2⟩:=id hl2
    simp only at hc hd hc2 hd2
    subst hc hd hc2 hd2
    have hsz:vs.size + us.size ≤ sizeLine:=by
      have e1:vs.size = x.length:=by simpa using r1.length
      have e2:us.size = y.length:=by simpa using r2.length
      rw [List.length_append] at hl
      rw [e1,e2]; exact Cd hl
    obtain ⟨o',g',r'⟩:=Nz (X:=NoX) o (vs:=vs ++ us) hN (by rw [Array.toList_append]; exact rr)
    exact concat_meets ⟨_,ho,rfl⟩ ⟨_,ho2,rfl⟩ noFill_list_add seq_list_add F.slot_list_add F.entry_list_add (F.args_list_add_2 _ _) (list_addW _ _ vs us n n2 dd dd2 sl sl2 hsz) ⟨ho,ho2,kk _ _ _ s.toks o' r' g'⟩
  | _=>cases h
theorem zeN {n:Nat} {i:Int} {j:Nat}:zae n i = some j→n < 1000000 ∧ seqIndex? i n = some j ∧ -(n:Int) ≤ i ∧ i < n ∧ (0 ≤ i→j = i.toNat) ∧ (i < 0→j = (i + n).toNat):=fun h=>by
  obtain ⟨h1,h2⟩:=Ar.mp h
  rw [Nat.blt_eq] at h1
  cases i with
  | ofNat m=>
    obtain ⟨h3,h4⟩:=Ar.mp h2
    rw [Nat.blt_eq] at h3
    have h4:=Option.some.inj h4
    subst h4
    have e0:(Int.ofNat m) = (m:Int):=rfl
    refine ⟨h1,?_,by lia,by lia,fun _=>by simp,fun q=>by lia⟩
    unfold seqIndex?
    have c1:¬ (Int.ofNat m < 0):=by lia
    have c2:(decide (0 ≤ Int.ofNat m) && decide (Int.ofNat m < (n:Int))) = true:=by rw [Bool.and_eq_true,decide_eq_true_iff,decide_eq_true_iff]; lia
    simp only [c1,if_false]
    rw [if_pos c2]; rfl
  | negSucc m=>
    obtain ⟨h3,h4⟩:=Ar.mp h2
    rw [Nat.blt_eq] at h3
    have h4:=Option.some.inj h4
    subst h4
    have e0:(Int.negSucc m) = -((m:Int) + 1):=Int.negSucc_eq m
    refine ⟨h1,?_,by lia,by lia,fun q=>by lia,fun q=>by lia⟩
    unfold seqIndex?
    have c1:Int.negSucc m < 0:=by lia
    have c2:(decide (0 ≤ Int.negSucc m + (n:Int)) && decide (Int.negSucc m + (n:Int) < (n:Int))) = true:=by rw [Bool.and_eq_true,decide_eq_true_iff,decide_eq_true_iff]; lia
    simp only [c1,if_true]
    rw [if_pos c2]
    congr 1; lia
theorem Ff {β:Type} {st:St} {d:D} {k:List D→Option β} {r:β}:Dq st d k = some r ↔ ∃ xs,(d = .tup xs ∨ ∃ i,d = .ref i ∧ st.get i = some (.list xs)) ∧ k xs = some r:=by
  cases d with
  | tup xs=>exact ⟨fun h=>⟨xs,.inl rfl,h⟩,fun ⟨ys,q,h⟩=>by rcases q with e | ⟨i,e,_⟩ <;> cases e; exact h⟩
  | ref i=>
    have:Dq st (.ref i) k = Au st i k:=rfl
    rw [this,B0]
    exact ⟨fun ⟨x,a,b⟩=>⟨x,.inr ⟨i,rfl,a⟩,b⟩,fun ⟨ys,q,h⟩=>by rcases q with e | ⟨i,e,z⟩ <;> cases e; exact ⟨_,z,h⟩⟩
  | _=>exact ⟨fun h=>(by cases h),fun ⟨ys,q,h⟩=>by rcases q with e | ⟨i,e,z⟩ <;> cases e⟩
theorem RL.geto {σ:Sg} {N:Nat} {h:Heap} {vs:Array Value} {ds:List D} (x:RL σ N h vs.toList ds) {i:Nat} {d:D} (e:ds[i]? = some d):∃ v,vs[i]? = some v ∧ R σ N h v d:=by
  obtain ⟨v,a,b⟩:=x.get i d e
  exact ⟨v,by simpa using a,b⟩
theorem zlM {st:St} {a b:D} {k:D→St→Ans} {r:D × St} {ex ey:Expr} (h:A6 st a b k = some r) (hs:∀ o i,∃ ops,subscripted ey false o i = operate ops (getItem o i)):
    ∃ dr,k dr st = some r ∧ ∀ d va vb,Tr w (d + 1) NoX st (fun σ st h=>R σ st.N h va a ∧ R σ st.N h vb b) (subscriptTail ex ey va vb) (fun σ st h v=>R σ st.N h v dr) st:=by
  cases b with
  | int i=>
    have h:Dq st a (fun xs=>ob (zae (len xs) i) fun j=>ob (D0 xs j) fun d=>k d st) = some r:=h
    obtain ⟨xs,hx,h1⟩:=Ff.mp h
    obtain ⟨j,h2,h3⟩:=Bf.mp h1
    obtain ⟨dr,h4,h5⟩:=Bf.mp h3
    rw [Hr] at h4
    rw [Mine.En] at h2
    obtain ⟨l0,l1,l2,l3,l4,l5⟩:=zeN h2
    refine ⟨dr,h5,fun d va vb A σ s Q E rm o p kk=>?_⟩
    obtain ⟨ops,hops⟩:=hs va vb
    obtain ⟨p1,p2⟩:=p
    cases p2
    rcases hx with rfl | ⟨n,rfl,hn⟩
    · cases p1 with
      | @tup l o1 vs n _ g1 c1 d1 r1=>
        obtain ⟨v,e1,rv⟩:=r1.geto h4
        have sz:vs.size = xs.length:=by simpa using r1.length
        exact tail_any (T:="tuple") ⟨_,g1,c1⟩ F.slot_tuple_getitem.lookup (PyProof.Rows.getItem_tuple ⟨_,g1,c1,_,d1⟩ (by lia) (by lia) (by rw [sz]; exact l1) e1 (kk _ σ s.heap s.toks o rv o.refl)) hops
    · cases p1
      obtain ⟨vs,hl,rl⟩:=o.obj _ _ hn
      have hl:=hl.isList
      obtain ⟨v,e1,rv⟩:=rl.geto h4
      have sz:vs.size = xs.length:=by simpa using rl.length
      refine tail_any (T:="list") hl.typeIs F.slot_list_getitem.lookup ?_ hops
      by_cases q:0 ≤ i
      · exact wpAny_getItem_list hl q (by lia) (by rw [← l4 q]; exact e1) (kk _ σ s.heap s.toks o rv o.refl)
      · exact wpAny_getItem_list_neg hl (by lia) (by rw [sz]; lia) (by lia) (by rw [sz,← l5 (by lia)]; exact e1) (kk _ σ s.heap s.toks o rv o.refl)
  | str l=>
    have h:Mb a (fun n=>Np st n fun es=>ob (lkS es l) fun d=>k d st) = some r:=h
    obtain ⟨n,rfl,h1⟩:=Bt.mp h
    obtain ⟨es,hn,h2⟩:=Nr.mp h1
    obtain ⟨dr,h3,h4⟩:=Bf.mp h2
    refine ⟨dr,h4,fun d va vb A σ s Q E rm o p kk=>?_⟩
    obtain ⟨ops,hops⟩:=hs va vb
    obtain ⟨p1,p2⟩:=p
    cases p1
    cases p2 with
    | str x t ok=>
      obtain ⟨kvs,hd,rd⟩:=o.obj _ _ hn
      have v:=rd.value x
      rw [h3] at v
      obtain ⟨u,e,ru⟩:=v
      exact tail_any (T:="dict") hd.typeIs F.slot_dict_getitem.lookup (wpAny_getItem_of (zf2 x t) hd.mapOf e (kk _ σ s.heap _ o ru o.refl)) hops
  | _=>cases h
theorem A7 {x y:Sm D} {ex ey:Expr} {pos} (hx:SX w nt x ex) (hy:SX w nt y ey) (hs:autoParam (∀ o i,∃ ops,subscripted ey false o i = operate ops (getItem o i)) tE):SX w nt (x2 A6 x y) (.Subscript ex ey pos):=fun m c hc e st k r h=>by
  obtain ⟨dx,st1,h1,t1⟩:=hx m c hc e st _ r h
  obtain ⟨dy,st2,h2,t2⟩:=hy m c hc e st1 _ r h1
  obtain ⟨dr,h3,t3⟩:=zlM (w:=w) (ex:=ex) h2 hs
  refine ⟨_,_,h3,fun env=>?_⟩
  rw [arm_eval_Subscript]
  exact Tr.bind (t1 env) Ag.stays fun a=>Tr.bind (Tr.holding ((t2 env).pre fun _ _ _ p=>p.1)) (Ag.stays.and Ld.R) fun b=>Tr.at ((t3 (2 * m + 2) a b).pre fun _ _ _ p=>⟨p.1.2,p.2⟩)
end
noncomputable def zaH:List Nat:=[5,14,18,22,24,26,27,31,34,38,43,44,47,48,49,51,54,55,58,62,66,71,73,76,80,81,82]
noncomputable def zez (K:Frag) (C:Addr) (ms:List (Nat × Nat)):Bool:=
  findIn K (.ref C) "__getattribute__" == some (some (.builtin "object.__getattribute__")) && findIn K (.ref C) "__getattr__" == some none && findIn K (.ref C) "__setattr__" == some (some (.builtin "object.__setattr__")) &&
  hasDictIn K C && plainOver K C && makesIn K C && ms.all (fun p=>findIn K (.ref C) (AT.getD p.1 "") == some (some (.ref (FA.getD p.2 0))) && typeIn K (.ref (FA.getD p.2 0)) == some (.type "function") && takesIn K (.ref (FA.getD p.2 0)) == some false)
noncomputable def zep (K:Frag) (C:Addr) (l:List Nat):Bool:=l.all fun a=>findIn K (.ref C) (AT.getD a "") == some none
theorem zrw (P:Params):(List.zip CA CLS).all (fun p=>zez (KK P) p.1 p.2.ms) = true:=by kernel_rfl
theorem zot (P:Params):CA.all (fun C=>zep (KK P) C zaH) = true:=by kernel_rfl
theorem zl4 (P:Params):zep (KK P) (CA.getD 0 0) [28] = true:=by kernel_rfl
theorem zmd (P:Params):zep (KK P) (CA.getD 7 0) [69] = true:=by kernel_rfl
noncomputable def Xd (o:Obj):Bool:=match o.data with
  | .freed=>false
  | _=>true
theorem zjb (P:Params):(KK P).map (fun p=>(Rp P).get p.1) = (KK P).map (some ·.2):=by kernel_rfl
theorem zmB (P:Params):(KK P).all (fun p=>Nat.blt p.1 Zt && Xd p.2) = true:=by kernel_rfl
theorem zg0 {α β:Type} {f g:α→β}:∀ {l:List α},l.map f = l.map g→∀ x ∈ l,f x = g x
  | a :: r,h,x,m=>by
    rw [List.map_cons,List.map_cons] at h
    obtain ⟨h1,h2⟩:=List.cons.inj h
    rcases List.mem_cons.mp m with rfl | m
    · exact h1
    · exact zg0 h2 x m
set_option tactic.hygienic true in
theorem zqG (P:Params) (a:Addr) (o:Obj) (m:(a,o) ∈ KK P):(HT P).get? a = some o:=by
  have h1:=zg0 (zjb P) _ m
  have h2:=List.all_eq_true.mp (zmB P) _ m
  rw [Bool.and_eq_true,Nat.blt_eq] at h2
  unfold HT
  rw [abs_get h2.1 h1]
  obtain ⟨c,d,dt,sl⟩:=o
  have h3:=h2.2
  unfold alive
  unfold Xd at h3
  split
  · rename_i q; cases q; cases h3
  · rfl
theorem zca {K:Frag} {a:Addr} {o:Obj}:∀ {K:Frag},K.lookup a = some o→(a,o) ∈ K
  | (k,v) :: r,h=>by
    rw [List.lookup_cons] at h
    cases e:a == k with
    | true=>rw [e] at h; cases h; rw [beq_iff_eq.mp e]; exact List.mem_cons_self
    | false=>rw [e] at h; exact List.mem_cons_of_mem _ (zca (K:=K) h)
theorem zeU (P:Params) (h:Heap) (top:∀ b o,(HT P).get? b = some o→h.get? b = some o):Frag.In (KK P) h:=fun a o e=>top a o (zqG P a o (zca (K:=[]) e))
set_option tactic.hygienic true in
theorem C3 (w:World):zcy w:=by
  have:(HT w.params).get? 1 ≠ none:=by
    unfold HT
    intro e
    have e1:∃ o,(Rp w.params).get 1 = some o ∧ Xd o = true:=by
      have:((Rp w.params).get 1).any Xd = true:=by kernel_rfl
      cases q:(Rp w.params).get 1 with
      | none=>rw [q] at this; cases this
      | some o=>rw [q] at this; exact ⟨o,rfl,this⟩
    obtain ⟨o,e2,e3⟩:=e1
    rw [abs_get (by decide +kernel) e2] at e
    unfold alive at e
    unfold Xd at e3
    split at e
    · rename_i q; cases q; cases e3
    · cases e
  cases q:(HT w.params).get? 1 with
  | none=>exact absurd q this
  | some o=>exact ⟨o,q⟩
section
variable {w:World} {nt:List (Str × NameKind)}
theorem zkE (P:Params):∀ C,C < 8→∃ cl,D0 CLS C = some cl ∧ zez (KK P) (Hp C) cl.ms = true:=
  have q:∀ {C:Nat} {cl:Cl},D0 CLS C = some cl→(CA.zip CLS)[C]? = some (Hp C,cl)→∃ cl,D0 CLS C = some cl ∧ zez (KK P) (Hp C) cl.ms = true:=fun {C cl} a b=>⟨cl,a,List.all_eq_true.mp (zrw P) (Hp C,cl) (List.mem_of_getElem? (i:=C) b)⟩
  bel (bel (bel (bel (bel (bel (bel (bel Xx (q rfl rfl)) (q rfl rfl)) (q rfl rfl)) (q rfl rfl)) (q rfl rfl)) (q rfl rfl)) (q rfl rfl)) (q rfl rfl)
theorem zfp:∀ C,C < 8→Hp C ∈ CA:=
  bel (bel (bel (bel (bel (bel (bel (bel Xx (List.mem_of_getElem? (i:=0) rfl)) (List.mem_of_getElem? (i:=1) rfl)) (List.mem_of_getElem? (i:=2) rfl)) (List.mem_of_getElem? (i:=3) rfl)) (List.mem_of_getElem? (i:=4) rfl)) (List.mem_of_getElem? (i:=5) rfl)) (List.mem_of_getElem? (i:=6) rfl)) (List.mem_of_getElem? (i:=7) rfl)
structure zsL (K:Frag) (C:Addr) (ms:List (Nat × Nat)):Prop where
  ga:findIn K (.ref C) "__getattribute__" = some (some (.builtin "object.__getattribute__"))
  gh:findIn K (.ref C) "__getattr__" = some none
  sa:findIn K (.ref C) "__setattr__" = some (some (.builtin "object.__setattr__"))
  hd:hasDictIn K C = true
  po:plainOver K C = true
  mks:makesIn K C = true
  ms:∀ p ∈ ms,findIn K (.ref C) (AT.getD p.1 "") = some (some (.ref (fnA p.2))) ∧ typeIn K (.ref (fnA p.2)) = some (.type "function") ∧ takesIn K (.ref (fnA p.2)) = some false
theorem zek (P:Params) (C:Nat) (hC:C < 8):∃ cl,D0 CLS C = some cl ∧ zsL (KK P) (Hp C) cl.ms:=by
  obtain ⟨cl,h1,h2⟩:=zkE P C hC
  unfold zez at h2
  simp only [Bool.and_eq_true,beq_iff_eq,List.all_eq_true] at h2
  obtain ⟨⟨⟨⟨⟨⟨a,b⟩,c⟩,d⟩,e⟩,f⟩,g⟩:=h2
  exact ⟨cl,h1,a,b,c,d,e,f,fun p hp=>⟨(g p hp).1.1,(g p hp).1.2,(g p hp).2⟩⟩
noncomputable def zcv (P:Params) (C a:Nat):Prop:=findIn (KK P) (.ref (Hp C)) (AT.getD a "") = some none
theorem zdw (P:Params) {C a:Nat} (hC:C < 8) (ha:a ∈ zaH):zcv P C a:=by
  have h1:=List.all_eq_true.mp (zot P) _ (zfp C hC)
  have h2:=List.all_eq_true.mp h1 a ha
  exact beq_iff_eq.mp h2
theorem zcD (P:Params):zcv P 0 28:=by
  have h:=zl4 P
  exact beq_iff_eq.mp (List.all_eq_true.mp h 28 (by decide))
theorem zcK (P:Params):zcv P 7 69:=by
  have h:=zmd P
  exact beq_iff_eq.mp (List.all_eq_true.mp h 69 (by decide))
theorem zhX {h:Heap} {a:Addr} {m:Str→Option Value} {o:Obj} (x:h.Ns a m) (e:h.get? a = some o) (name:Str):lookIn name o = some (m name):=by
  obtain ⟨o',es,ep,ho,hd,hk,hf⟩:=x
  rw [e] at ho; cases ho
  unfold lookIn
  rw [hd]
  simp only
  have h1:=hf name
  unfold nsFind findBy at h1
  rw [← Array.find?_toList] at h1
  have nr:es.toList.any (·.refKey) = false:=by
    rw [List.any_eq_false]
    intro en hen
    obtain ⟨n,t,q⟩:=hk en (Array.mem_toList_iff.mp hen)
    unfold DictEntry.refKey
    rw [q]; exact Bool.false_ne_true
  cases q:es.toList.find? (fun e=>e.key.isStr name) with
  | none=>rw [q] at h1; simp only [nr]; rw [← h1]; rfl
  | some en=>rw [q] at h1; rw [← h1]; rfl
theorem zkC {σ:Sg} {N:Nat} {h:Heap} {v:Value} {d:D} (r:R σ N h v d):handedIn v = true:=by
  cases r <;> rfl
theorem zfW {ai:Nat} {name:Str} (e:AT[ai]? = some name):AT.getD ai "" = name:=by
  rw [List.getD_eq_getElem?_getD,e]; rfl
section
variable {σ:Sg} {s:Shared} {st:St} {A:Around} {E:Value→Shared→Prop}
theorem zeO {C n:Nat} {a:Addr} {h:Heap} {m:Str→Option Value} (ha:h.get? a = some (instObj (Hp C) (σ.a n))) (hn:h.Ns (σ.a n) m):∃ od,InstAt h a (instObj (Hp C) (σ.a n)) (Hp C) (some od) ∧ ∀ name,lookIn name od = some (m name):=by
  obtain ⟨od,es,ep,ho,r⟩:=id hn
  exact ⟨od,⟨ha,rfl,rfl,ho⟩,fun name=>zhX hn ho name⟩
theorem zj0 {C n ai:Nat} {es:List (Nat × D)} {d:D} {a:Addr} {name:Str} {expr:Bool} (o:Ok w σ s.heap st) (hC:C < 8) (ha:s.heap.get? a = some (instObj (Hp C) (σ.a n))) (hn:st.get n = some (.ns es)) (hl:lk es ai = some d)
    (hat:AT[ai]? = some name) (hf:zcv w.params C ai) {Q:Value→Shared→Prop} (k:∀ v tk,R σ st.N s.heap v d→Q v { s with toks:=tk }):wpAny (model pw w) A (getAttr (.ref a) name expr) Q E s:=by
  obtain ⟨m,hns,_,hm⟩:=o.obj _ _ hn
  obtain ⟨od,I,hlk⟩:=zeO ha hns
  have hr:=hm ai name hat
  rw [hl] at hr
  obtain ⟨v,e1,rv⟩:=hr
  obtain ⟨cl,_,ci⟩:=zek w.params C hC
  unfold zcv at hf
  rw [zfW hat] at hf
  exact get_value (zeU _ _ o.top) I ci.ga (findObj_own ci.hd hf rfl (by rw [hlk,e1])) (zkC rv) (k v _ rv)
theorem Nm {α:Type} (p:Nat × α) (r:List (Nat × α)) (i:Nat):lk (p :: r) i = if p.1 = i then some p.2 else lk r i:=by
  show ifB (Nat.beq p.1 i) (some p.2) (lk r i) = _
  rw [C2]
  by_cases q:p.1 = i
  · rw [if_pos q,if_pos (by rw [q]; exact Nat.beq_refl i)]
  · rw [if_neg q,if_neg (fun z=>q (Nat.eq_of_beq_eq_true z))]
theorem zkJ {i:Nat} {v:D}:∀ (l:List (Nat × D)) (j:Nat),lk (Gr i v l) j = if i = j then some v else lk l j
  | [],j=>by
    show lk [(i,v)] j = _
    rw [Nm]
  | p :: r,j=>by
    have:Gr i v (p :: r) = ifB (Nat.beq p.1 i) ((i,v) :: r) (p :: Gr i v r):=rfl
    rw [this,C2]
    by_cases q:p.1 = i
    · rw [if_pos (by rw [q]; exact Nat.beq_refl i),Nm,Nm]
      by_cases z:i = j
      · rw [if_pos z,if_pos z]
      · rw [if_neg z,if_neg z,if_neg (by rw [q]; exact z)]
    · rw [if_neg (fun z=>q (Nat.eq_of_beq_eq_true z)),Nm,Nm,zkJ r j]
      by_cases z:p.1 = j
      · rw [if_pos z,if_pos z,if_neg (fun e=>q (z.trans e.symm))]
      · rw [if_neg z,if_neg z]
theorem zdl (i:Nat) (v:D):∀ l:List (Nat × D),(Gr i v l).length = if (lk l i).isSome then l.length else l.length + 1
  | []=>rfl
  | p :: r=>by
    have:Gr i v (p :: r) = ifB (Nat.beq p.1 i) ((i,v) :: r) (p :: Gr i v r):=rfl
    rw [this,C2,Nm]
    by_cases q:p.1 = i
    · rw [if_pos (by rw [q]; exact Nat.beq_refl i),if_pos q]; rfl
    · rw [if_neg (fun z=>q (Nat.eq_of_beq_eq_true z)),if_neg q,List.length_cons,zdl i v r]
      split <;> rfl
theorem zoZ {h:Heap} {a:Addr} {m:Str→Option Value} {name:Str} {v:Value} {hs:Int} {tk:Tok} {n:Nat} {o:Obj} (hn:h.Ns a m) (hz:h.DictLe a n) (ho:h.get? a = some o):
    (h.update a (Obj.putName name hs (.str name tk) v)).Ns a (fun x=>if x = name then some v else m x) ∧
    ∃ o' es ep,(h.update a (Obj.putName name hs (.str name tk) v)).get? a = some o' ∧ o'.data = .dict es ep ∧ es.size ≤ (if (m name).isSome then n else n + 1):=by
  obtain ⟨o1,es,ep,ho1,hd,hk,hm⟩:=hn
  rw [ho] at ho1; cases ho1
  have hsz:es.size ≤ n:=hz o es ep ho hd
  have e0:m name = nsFind es name:=(hm name).symm
  obtain ⟨c,d,dt,sl⟩:=o
  subst hd
  cases hi:es.findIdx? (·.key.isStr name) with
  | some i=>
    have g:(h.update a (Obj.putName name hs (.str name tk) v)).get? a = some ⟨c,d,.dict (es.modify i fun e=>{ e with val:=v }) ep,sl⟩:=by
      rw [Heap.get?_update_self _ ho (by simp only [Obj.putName_eq,Obj.putNameByArray,hi]; rfl)]
      simp only [Obj.putName_eq,Obj.putNameByArray,hi]
    have e1:(m name).isSome = true:=by
      rw [e0]; unfold nsFind
      rw [findBy_of_findIdx?]
      have:es.findIdx? (fun e=>(fun n (v:Value)=>v.isStr n) name e.key) = some i:=hi
      rw [this]
      have:i < es.size:=(Array.findIdx?_eq_some_iff_getElem.mp hi).1
      simp [this]
    refine ⟨⟨_,_,ep,g,rfl,hk.modify _ _,fun x=>?_⟩,_,_,_,g,rfl,by rw [if_pos e1,Array.size_modify]; exact hsz⟩
    show _ = if x = name then some v else m x
    rw [← hm]; exact findBy_modify (fun n v=>v.isStr n) Value.isStr_inj es name x v i hi
  | none=>
    have g:(h.update a (Obj.putName name hs (.str name tk) v)).get? a = some ⟨c,d,.dict (es.push ⟨hs,.str name tk,v⟩) (ep + 1),sl⟩:=by
      rw [Heap.get?_update_self _ ho (by simp only [Obj.putName_eq,Obj.putNameByArray,hi]; rfl)]
      simp only [Obj.putName_eq,Obj.putNameByArray,hi]
    have e1:(m name).isSome = false:=by
      rw [e0]; unfold nsFind
      rw [findBy_of_findIdx?]
      have:es.findIdx? (fun e=>(fun n (v:Value)=>v.isStr n) name e.key) = none:=hi
      rw [this]; rfl
    refine ⟨⟨_,_,ep + 1,g,rfl,hk.push _ _ _ _,fun x=>?_⟩,_,_,_,g,rfl,by rw [if_neg (by rw [e1]; exact Bool.false_ne_true),Array.size_push]; lia⟩
    show _ = if x = name then some v else m x
    rw [← hm]
    exact findBy_push (fun n v=>v.isStr n) es name x _ _ v (fun y=>by
      show (name == y) = decide (y = name)
      by_cases h:y = name
      · subst h; simp
      · have:¬ name = y:=fun e=>h e.symm
        simp [h,this]) hi
theorem zpz:∀ (i j:Nat) (x:Str),AT[i]? = some x→AT[j]? = some x→i = j:=by
  have nd:AT.Nodup:=by decide +kernel
  exact fun i j x a b=>(List.getElem?_inj (List.getElem?_eq_some_iff.mp a).1 nd).mp (a.trans b.symm)
theorem zkz {C n ai:Nat} {es:List (Nat × D)} {d:D} {v:Value} {a:Addr} {name:Str} (o:Ok w σ s.heap st) (hC:C < 8) (ha:s.heap.get? a = some (instObj (Hp C) (σ.a n))) (hn:st.get n = some (.ns es))
    (hat:AT[ai]? = some name) (hf:zcv w.params C ai) (rv:R σ st.N s.heap v d) (hb:st.base ≤ n) (hfit:es.length < 100000) {Q:Unit→Shared→Prop}
    (k:∀ h' tk,Ok w σ h' (st.put n (.ns (Gr ai d es)))→Aw NoX σ s.heap st σ h' (st.put n (.ns (Gr ai d es)))→Q () { s with heap:=h',toks:=tk }):wpAny (model pw w) A (setAttr (.ref a) name v) Q E s:=by
  obtain ⟨m,hns,hz,hm⟩:=o.obj _ _ hn
  obtain ⟨od,I,hlk⟩:=zeO ha hns
  obtain ⟨cl,_,ci⟩:=zek w.params C hC
  unfold zcv at hf
  rw [zfW hat] at hf
  have X:=zeU w.params _ o.top
  refine set_plain X I ci.sa ?_
  have tk:takerIn (KK w.params) (Hp C) name = some none:=by unfold takerIn; rw [hf]; rfl
  refine osa_open (s:={ s with toks:=s.toks + 1 }) X I ci.po tk fun b=>?_
  obtain ⟨cd,hc,hd'⟩:=any_some ci.hd
  have hx:=I.at_
  refine wpAny_bind (wpAny_pure (wpAny_bind (wpAny_bind (wpAny_loadPart hx (wpAny_bind ((looks_clsIn X hc).here (s:={ s with toks:=s.toks + 1 }) ?_))))))
  rw [hd']
  refine wpAny_pure (a:=some (σ.a n)) (wpAny_bind (wpAny_pure (wpAny_bind ?_)))
  obtain ⟨od2,hod⟩:=(o.obj _ _ hn).there
  obtain ⟨h',hH,hs,hns',od3,es3,ep3,g3,d3,z3⟩:∃ h',h' = s.heap.update (σ.a n) (Obj.putName name (PyData.keyHash w.params name) (.str name (s.toks + 1)) v) ∧ Heap.SameBut (σ.a n) s.heap h' ∧ h'.Ns (σ.a n) (fun x=>if x = name then some v else m x) ∧
      ∃ o' es ep,h'.get? (σ.a n) = some o' ∧ o'.data = .dict es ep ∧ es.size ≤ (if (m name).isSome then _ else _):=⟨_,rfl,Heap.SameBut.update ..,zoZ (name:=name) (v:=v) (hs:=PyData.keyHash w.params name) (tk:=s.toks + 1) hns hz hod⟩
  unfold nsSet
  refine wpAny_bind (wpAny_bind (wpAny_askSetting (wpAny_pure (wpAny_bind (wpAny_mkText (wpAny_bind (wpAny_loadPart hod ?_)))))))
  obtain ⟨_,es0,ep0,ho0,hd0,hk0,_⟩:=id hns
  rw [hod] at ho0; cases ho0
  rw [hd0]
  dsimp only
  have hany:es0.any (·.refKey) = false:=by
    rw [Array.any_eq_false']; intro e he; obtain ⟨n,t,h⟩:=hk0 e he; simp [DictEntry.refKey,h]
  rw [aRefKeyMayBeTheName_at,hany,Bool.and_false]
  have hr:=hm ai name hat
  have z4:es3.size ≤ (Gr ai d es).length:=by
    rw [zdl]
    cases q:lk es ai with
    | none=>rw [q] at hr; have hr:m name = none:=hr; rw [hr] at z3; exact z3
    | some dd=>rw [q] at hr; obtain ⟨u,e1,_⟩:=hr; rw [e1] at z3; exact z3
  have z5:(Gr ai d es).length ≤ es.length + 1:=by rw [zdl]; split <;> lia
  refine wpAny_updatePart hod ?_
  refine wpAny_bind (wpAny_lookBehind (o:=od3) (by show (s.heap.update (σ.a n) (Obj.putName name (PyData.keyHash w.params name) (.str name (s.toks + 1)) v)).get? _ = _; rw [← hH]; exact g3) (by rw [d3]; exact pastItsLine_dict (by have:sizeLine = 16777216:=rfl; lia)) ?_)
  refine wpAny_pure ?_
  show Q () { s with heap:=s.heap.update (σ.a n) (Obj.putName name (PyData.keyHash w.params name) (.str name (s.toks + 1)) v),toks:=s.toks + 1 + 1 }
  rw [← hH]
  have kI:Dy s.heap h':=fun b' o' i' e'=>(hs.2 b' fun z=>by subst z; exact (o.obj _ _ hn).notImm e' i').trans e'
  have ob:Lo w σ st.N h' (σ.a n) (.ns (Gr ai d es)):=by
    refine ⟨_,hns',fun o' es' ep' e1 e2=>(by rw [g3] at e1; cases e1; rw [d3] at e2; cases e2; exact z4),fun i x hi=>?_⟩
    rw [zkJ]
    by_cases q:ai = i
    · subst q
      rw [hat] at hi; cases hi
      show RO σ st.N h' (if name = name then some v else m name) (if ai = ai then some d else lk es ai)
      rw [if_pos rfl,if_pos rfl]
      exact ⟨v,rfl,rv.mono (.refl _ _) (Nat.le_refl _) kI⟩
    · have:¬ x = name:=fun e=>q (zpz ai i name hat (e ▸ hi))
      show RO σ st.N h' (if x = name then some v else m x) (if ai = i then some d else lk es i)
      rw [if_neg q,if_neg this]
      exact (hm i x hi).mono (.refl _ _) (Nat.le_refl _) kI
  exact k h' _ (o.upd hn hs ob) (Aw.upd_ o hb hn hs ob)
end
theorem zpp {st:St} {dx:D} {ai:Nat} {k:D→St→Ans} {r:D × St} (h:zax dx (fun _ n=>C9 st n fun es=>ob (lk es ai) fun r=>k r st) = some r):∃ C n es d,dx = .obj C n ∧ st.get n = some (.ns es) ∧ lk es ai = some d ∧ k d st = some r:=by
  obtain ⟨C,n,e1,h1⟩:=Re.mp h
  obtain ⟨es,e2,h2⟩:=O1.mp h1
  obtain ⟨d,e3,h3⟩:=Bf.mp h2
  exact ⟨C,n,es,d,e1,e2,e3,h3⟩
theorem zbc {x:Sm D} {ex:Expr} {pos} {ai:Nat} {name:Str} (hat:AT[ai]? = some name) (he:∀ env,attributeBase ex name env (eval ex env) = eval ex env) {m:Nat} {e:Ax} {st st1:St} {C n:Nat} {es:List (Nat × D)} {d:D}
    (t1:∀ env,Tr w (2 * m + 3) NoX st (Ag w nt env e) (eval ex env) (fun σ st h v=>R σ st.N h v (.obj C n)) st1) (hn:st1.get n = some (.ns es)) (hl:lk es ai = some d) (hf:C < 8→zcv w.params C ai) (env:Env):
    Tr w (2 * m + 3) NoX st (Ag w nt env e) (eval (.Attribute ex name pos) env) (fun σ st h v=>R σ st.N h v d) st1:=by
  rw [arm_eval_Attribute,he]
  refine Tr.bind (t1 env) Ag.stays fun a=>Tr.at fun A σ s Q E rm o p kk=>?_
  have p2:=p.2
  cases p2 with
  | obj _ _ hC hlt ha=>
    refine wpAny_bind (wpAny_holding (zj0 o hC ha hn hl hat (hf hC) fun v tk rv=>wpAny_bind (wpAny_letTemporaryGo (wpAny_pure (kk v σ s.heap tk o rv o.refl)))))
theorem zpE {x:Sm D} {ex:Expr} {pos} {ai:Nat} {name:Str} (hx:SX w nt x ex) (hat:AT[ai]? = some name) (hp:autoParam (ai ∈ zaH) tDe) (he:autoParam (∀ env,attributeBase ex name env (eval ex env) = eval ex env) tR):
    SX w nt (Ah ai x) (.Attribute ex name pos):=fun m c hc e st k r h=>by
  obtain ⟨dx,st1,h1,t1⟩:=hx m c hc e st _ r h
  obtain ⟨C,n,es,d,rfl,hn,hl,h2⟩:=zpp h1
  exact ⟨d,st1,h2,zbc (x:=x) hat he t1 hn hl fun hC=>zdw w.params hC hp⟩
theorem zhm {C:Nat} {x:Sm D} {ex:Expr} {pos} {ai:Nat} {name:Str} (hx:SX w nt x ex) (hat:AT[ai]? = some name) (hp:∀ P,zcv P C ai) (he:autoParam (∀ env,attributeBase ex name env (eval ex env) = eval ex env) tR):
    SX w nt (Mh C ai x) (.Attribute ex name pos):=fun m c hc e st k r h=>by
  obtain ⟨dx,st1,h1,t1⟩:=hx m c hc e st _ r h
  obtain ⟨C',n,e1,h7⟩:=Re.mp h1
  subst e1
  obtain ⟨q,h8⟩:=Ar.mp h7
  have:=Nat.eq_of_beq_eq_true q
  subst this
  obtain ⟨es,hn,h2⟩:=O1.mp h8
  obtain ⟨d,hl,h3⟩:=Bf.mp h2
  exact ⟨d,st1,h3,zbc (x:=x) hat he t1 hn hl fun hC=>hp _⟩
theorem za5 {ex:Expr} {pos} {ai:Nat} {name:Str} (hat:AT[ai]? = some name) {m:Nat} {e:Ax} {st st1:St} {C n:Nat} {es:List (Nat × D)} {d:D}
    (t1:∀ env,Tr w (2 * m + 3) NoX st (Ag w nt env e) (eval ex env) (fun σ st h v=>R σ st.N h v (.obj C n)) st1) (hn:st1.get n = some (.ns es)) (hb:st1.base ≤ n) (hfit:es.length < 100000) (hf:C < 8→zcv w.params C ai) (env:Env) (v:Value):
    Tr w (2 * m + 3) (E9 env) st (fun σ st h=>Ag w nt env e σ st h ∧ R σ st.N h v d) (assign (.Attribute ex name pos) env v) (fun σ st h _=>Ag w nt env e σ st h) (st1.put n (.ns (Gr ai d es))):=by
  show Tr w _ _ st _ (holding [v] (eval ex env) >>= fun ov=>standAt pos.atName >>= fun _=>holding [v,ov] (setAttr ov name v) >>= fun _=>release [v,ov] []) _ _
  refine Tr.bind (Tr.holding ((t1 env).pre fun _ _ _ p=>p.1)) (Ag.stays.and Ld.R) fun a=>Tr.at fun A σ s Q E rm o p kk=>?_
  obtain ⟨⟨p1,p2⟩,p3⟩:=p
  cases p3 with
  | obj _ _ hC hlt ha=>
    refine wpAny_bind (wpAny_holding (zkz o hC ha hn hat (hf hC) p2 hb hfit fun h' tk o' g=>wpAny_release (kk () σ h' tk o' (Ag.stays _ _ _ _ _ _ o o' g p1) g.any)))
theorem zqH {x:Sm D} {ex:Expr} {pos} {ai:Nat} {name:Str} (hx:SX w nt x ex) (hat:AT[ai]? = some name) (hp:autoParam (ai ∈ zaH) tDe):SG w nt (Bj ai x) (.Attribute ex name pos):=fun m c hc e d st k r h=>by
  obtain ⟨dx,st1,h1,t1⟩:=hx m c hc e st _ r h
  obtain ⟨C,n,e1,h1⟩:=Re.mp h1
  subst e1
  obtain ⟨es,hn,h2⟩:=O1.mp h1
  obtain ⟨hfit,h2⟩:=Cc.mp h2
  obtain ⟨hb,h3⟩:=J5.mp h2
  exact ⟨e,_,h3,za5 hat t1 hn hb hfit fun hC=>zdw w.params hC hp⟩
theorem zg2 {C:Nat} {x:Sm D} {ex:Expr} {pos} {ai:Nat} {name:Str} (hx:SX w nt x ex) (hat:AT[ai]? = some name) (hp:∀ P,zcv P C ai):SG w nt (Si C ai x) (.Attribute ex name pos):=fun m c hc e d st k r h=>by
  obtain ⟨dx,st1,h1,t1⟩:=hx m c hc e st _ r h
  obtain ⟨C',n,e1,h7⟩:=Re.mp h1
  subst e1
  obtain ⟨q,h8⟩:=Ar.mp h7
  have:=Nat.eq_of_beq_eq_true q
  subst this
  obtain ⟨es,hn,h2⟩:=O1.mp h8
  obtain ⟨hfit,h2⟩:=Cc.mp h2
  obtain ⟨hb,h3⟩:=J5.mp h2
  exact ⟨e,_,h3,za5 hat t1 hn hb hfit fun hC=>hp _⟩
end
section
variable {w:World} {nt:List (Str × NameKind)}
theorem zhr (P:Params):(HT P).isNs mainGlobals = true:=by kernel_rfl
theorem zmz (P:Params):(HT P).isNs builtinsNs = true:=by kernel_rfl
abbrev zjQ (w:World) (h:Heap):Prop:=∀ b o,(HT w.params).get? b = some o→h.get? b = some o
theorem ziU {h h':Heap} {a:Addr} {m:Str→Option Value} (x:h.Ns a m) (k:∀ b o,h.get? b = some o→h'.get? b = some o):h'.Ns a m:=let ⟨o,es,ep,ho,r⟩:=x; ⟨o,es,ep,k _ _ ho,r⟩
noncomputable def Aj (P:Params) (x:Str) (v:Value):Prop:=(HT P).nsMap mainGlobals x = some v ∨ ((HT P).nsMap mainGlobals x = none ∧ (HT P).nsMap builtinsNs x = some v)
theorem Fh {A:Around} {σ:Sg} {s:Shared} {st:St} {env:Env} {e:Ax} {x:Str} {v:Value} {pos:Pos} {i:Nat} {Q:Value→Shared→Prop} {E:Value→Shared→Prop} (hn:Ae nt) (q:nt[i]? = some (x,.globalImplicit)) (g:Aj w.params x v)
    (o:Ok w σ s.heap st) (p:Ag w nt env e σ st s.heap) (k:Q v s):wpAny (model pw w) A (eval (.Name x pos) env) Q E s:=by
  have m1:s.heap.Ns env.globals ((HT w.params).nsMap mainGlobals):=by rw [p.globals]; exact ziU (Heap.Ns.of_isNs (zhr w.params)) o.top
  have m2:s.heap.Ns env.builtins ((HT w.params).nsMap builtinsNs):=by rw [p.builtins]; exact ziU (Heap.Ns.of_isNs (zmz w.params)) o.top
  refine Name_function_global p.kind (p.kindOf hn q) ?_ (hn.dbg _ _ _ q)
  rcases g with g | ⟨g1,g2⟩
  · exact loadGlobal_global m1 g k
  · exact loadGlobal_builtin m1 g1 m2 g2 k
noncomputable def zoc:Value→Bool
  | .type t=>t == "tuple"
  | _=>false
noncomputable def zfz (f:Value→D→Bool):List Value→List D→Bool
  | [],ds=>match ds with | []=>true | _=>false
  | v :: vs,ds=>match ds with | d :: ds=>f v d && zfz f vs ds | []=>false
noncomputable def zte (f:List Value→Bool):Option Obj→Bool
  | some o=>zoc o.cls && (match o.data with | .seq vs _=>f vs.toList | _=>false)
  | none=>false
noncomputable def E5 (h:Heap) (n:Nat):Value→D→Bool:=Nat.rec (motive:=fun _=>Value→D→Bool) (fun _ _=>false) (fun _ ih v d=>match v with
  | .none=>match d with | .none=>true | _=>false
  | .bool a=>match d with | .bool b=>a == b | _=>false
  | .int a _=>match d with | .int b=>a == b | _=>false
  | .str x _=>match d with | .str l=>x.cps.toList == l && PyData.strOk x | _=>false
  | .ref a=>match d with | .tup ds=>zte (fun vs=>zfz ih vs ds) (h.get? a) | _=>false
  | _=>false) n
theorem zjH {v:Value} (h:zoc v = true):v = .type "tuple":=by
  cases v with
  | type t=>exact congrArg Value.type (beq_iff_eq.mp (show (t == "tuple") = true from h))
  | _=>exact absurd h Bool.false_ne_true
theorem ze9 {h₀ h:Heap} {σ:Sg} {N:Nat} (k:∀ b o,h₀.get? b = some o→h.get? b = some o):∀ (n:Nat) (v:Value) (d:D),E5 h₀ n v d = true→R σ N h v d:=by
  intro n
  induction n with
  | zero=>exact fun _ _ h=>absurd h Bool.false_ne_true
  | succ n ih=>
    have all:∀ (vs:List Value) (ds:List D),zfz (E5 h₀ n) vs ds = true→RL σ N h vs ds:=by
      intro vs
      induction vs with
      | nil=>intro ds h; cases ds with | nil=>exact .nil | cons _ _=>exact absurd h Bool.false_ne_true
      | cons v vs ihv=>
        intro ds h
        cases ds with
        | nil=>exact absurd h Bool.false_ne_true
        | cons d ds=>
          have h:=Bool.and_eq_true_iff.mp (show (E5 h₀ n v d && zfz (E5 h₀ n) vs ds) = true from h)
          exact .cons (ih _ _ h.1) (ihv _ h.2)
    intro v d h
    cases v with
    | none=>cases d with | none=>exact .none | _=>exact absurd h Bool.false_ne_true
    | bool a=>cases d with | bool b=>rw [← beq_iff_eq.mp (show (a == b) = true from h)]; exact .bool a | _=>exact absurd h Bool.false_ne_true
    | int a t=>cases d with | int b=>rw [← beq_iff_eq.mp (show (a == b) = true from h)]; exact .int a t | _=>exact absurd h Bool.false_ne_true
    | str x t=>
      cases d with
      | str l=>
        have h:=Bool.and_eq_true_iff.mp (show (x.cps.toList == l && PyData.strOk x) = true from h)
        rw [← beq_iff_eq.mp h.1]; exact .str x t h.2
      | _=>exact absurd h Bool.false_ne_true
    | ref a=>
      cases d with
      | tup ds=>
        have h:zte (fun vs=>zfz (E5 h₀ n) vs ds) (h₀.get? a) = true:=h
        cases e:h₀.get? a with
        | none=>rw [e] at h; exact absurd h Bool.false_ne_true
        | some o=>
          rw [e] at h
          obtain ⟨cls,dict,data,ws⟩:=o
          have h:=Bool.and_eq_true_iff.mp h
          cases data with
          | seq vs c=>exact .tup (k _ _ e) (zjH h.1) rfl (all _ _ h.2)
          | _=>exact absurd h.2 Bool.false_ne_true
      | _=>exact absurd h Bool.false_ne_true
    | _=>exact absurd h Bool.false_ne_true
theorem zqj (hn:Ae nt) {i:Nat} {x:Str} {v:Value} {d:D} {pos} (q:nt[i]? = some (x,.globalImplicit)) (g:Aj w.params x v) (hd:E5 (HT w.params) 9 v d = true):SX w nt (A3 d) (.Name x pos):=fun m c _ e st k r h=>
  ⟨_,_,h,fun env A σ s Q E rm o p kk=>Fh hn q g o p (kk v σ s.heap s.toks o (ze9 o.top 9 v d hd) o.refl)⟩
theorem E8 {env:Env} {pos:Pos}:∀ {es:List Expr},Cj es = true→(backTo pos (starEach es env)).any (·.1) = false
  | [],_=>rfl
  | ex :: es,h=>by
    obtain ⟨a,b⟩:=Bool.and_eq_true_iff.mp h
    rw [L6 a]
    show (false || (backTo pos (starEach es env)).any (·.1)) = false
    rw [Bool.false_or]; exact E8 b
theorem Cz {M:Model} {A:Around} {s:Shared} {f:Value} {env:Env} {pos:Pos} {es:List Expr} {Q:Args→Shared→Prop} {E:Value→Shared→Prop} (hs:Cj es = true)
    (h:wpAny M A (spliced (backTo pos (starEach es env))) (fun vs s'=>Q ⟨vs,[]⟩ s') E s):wpAny M A (evalArgs f true (backTo pos (starEach es env)) []) Q E s:=by
  cases es with
  | nil=>
    have e:evalArgs f true (backTo pos (starEach [] env)) [] = (spliced (backTo pos (starEach [] env)) >>= fun vs=>pure ⟨vs,[]⟩):=by with_unfolding_all rfl
    rw [e]
    exact wpAny_bind (wpAny_mono h (fun vs s' q=>wpAny_pure q) fun _ _ x=>x)
  | cons ex es=>
    obtain ⟨a,b⟩:=Bool.and_eq_true_iff.mp hs
    rw [L6 a] at h ⊢
    exact Calls.evalArgs_plain h
theorem zhJ {a:Addr} {o:Obj} {fd:FuncData} (ha:(HT w.params).get? a = some o) (hd:o.data = .func fd):∀ h,zjQ w h→∃ k,(k = Keeper.frame ∨ k = Keeper.machine ∨ k = Keeper.boundFrame) ∧ Looks (model pw w) h (keeperOf (.ref a)) k:=fun h t=>by
  refine ⟨.frame,.inl rfl,?_⟩
  unfold keeperOf
  refine (Looks.ld (part:=none) (t _ _ ha)).andThen ?_
  rw [hd]; exact .now
noncomputable def zir (w:World) (f:Nat):Prop:=∃ o fd,(HT w.params).get? (fnA f) = some o ∧ o.data = .func fd
theorem zht {A:Around} {σ:Sg} {s:Shared} {st st1 st2:St} {env:Env} {e:Ax} {f m:Nat} {es:List Expr} {pos:Pos} {ds:List D} {dv:D} {first:List Value} {fds:List D} {Q:Value→Shared→Prop} {E:Value→Shared→Prop} (fn:zir w f) (hs:Cj es = true)
    (t1:Tr w (2 * m + 3) NoX st (Ag w nt env e) (spliced (backTo pos (starEach es env))) (fun σ st h v=>RL σ st.N h v ds) st1)
    (t2:Hi w (2 * m + 2) st1 (fnA f) (fds ++ ds) dv st2)
    (rm:Rm A (2 * m + 3)) (o:Ok w σ s.heap st) (p:Ag w nt env e σ st s.heap) (hf:RL σ st.N s.heap first fds)
    (k:∀ v σ' h' tk',Ok w σ' h' st2→R σ' st2.N h' v dv→Aw NoX σ s.heap st σ' h' st2→Q v { s with heap:=h',toks:=tk' }):
    wpAny (model pw w) A (callWith pos (.ref (fnA f)) first (backTo pos (starEach es env)) []) Q E s:=by
  obtain ⟨ob,fd,ha,hd⟩:=fn
  refine callWith_of (P:=zjQ w) (by rw [E8 hs]; rfl) (zhJ ha hd) (Cz hs ?_)
  refine t1 A σ s _ E rm o p fun vs σ' h' tk' o' rl g=>⟨o'.top,?_⟩
  have rm2:Rm A (2 * m + 2):=⟨rm.hd,by have:=rm.dp; lia,by have:=rm.un; lia⟩
  exact t2.tr _ A σ' _ Q E rm2 o' (RL.app rl (hf.goes o g)) fun v σ'' h'' tk'' o'' rv g'=>k v σ'' h'' tk'' o'' rv (g.trans g')
theorem zp6 (hn:Ae nt) {i f:Nat} {x:Str} {xs:Sm (List D)} {es:List Expr} {p1 pos} (q:nt[i]? = some (x,.globalImplicit)) (g:Aj w.params x (.ref (fnA f))) (fn:zir w f) (hx:SL w nt xs es) (hs:autoParam (Cj es = true) tR):
    SX w nt (Am f xs) (.Call (.Name x p1) es [] pos):=fun m c hc e st k r h=>by
  obtain ⟨ds,st1,h1,hl,t1⟩:=hx m c hc e st _ r h
  obtain ⟨dv,st2,h2,t2⟩:=hc f ds st1 k r h1
  refine ⟨dv,st2,h2,fun env A σ s Q E rm o p kk=>?_⟩
  refine Call_Name rfl (Fh hn q g o p ?_)
  exact zht (first:=[]) (fds:=[]) fn hs (t1 env pos) t2 rm o p .nil kk
set_option tactic.hygienic true in
theorem zfR {α:Type} {i:Nat} {v:α}:∀ {l:List (Nat × α)},lk l i = some v→(i,v) ∈ l
  | [],h=>by cases h
  | p :: r,h=>by
    rw [Nm] at h
    split at h
    · rename_i q; cases h; rw [← q]; exact List.mem_cons_self
    · exact List.mem_cons_of_mem _ (zfR h)
theorem zor {ai:Nat} {name:Str} {x:Sm D} {xs:Sm (List D)} {ex:Expr} {es:List Expr} {apos pos} (hx:SX w nt x ex) (hxs:SL w nt xs es) (hat:AT[ai]? = some name) (fns:∀ C f cl,D0 CLS C = some cl→lk cl.ms ai = some f→zir w f)
    (hs:autoParam (Cj es = true) tR) (he:autoParam (∀ env,∃ pl,eval (.Call (.Attribute ex name apos) es [] pos) env = (do let ov ← eval ex env; standAt apos.atName; let fx ← holding [ov] (getMethod ov name pl); callWith pos fx.1 fx.2 (backTo pos (starEach es env)) [])) tE):
    SX w nt (Az CLS ai x xs) (.Call (.Attribute ex name apos) es [] pos):=fun m c hc e st k r h=>by
  obtain ⟨dx,st1,h1,t1⟩:=hx m c hc e st _ r h
  obtain ⟨C,n,rfl,h3⟩:=Re.mp h1
  obtain ⟨es',hn',h4⟩:=O1.mp h3
  cases hlk:lk es' ai with
  | some _=>rw [hlk] at h4; cases h4
  | none=>
    rw [hlk] at h4
    obtain ⟨cl,hcl,h5⟩:=Bf.mp h4
    obtain ⟨f,hf,h6⟩:=Bf.mp h5
    obtain ⟨ds,st2,h2,hl,t2⟩:=hxs m c hc e st1 _ r h6
    obtain ⟨dv,st3,h7,t3⟩:=hc f (.obj C n :: ds) st2 k r h2
    refine ⟨dv,st3,h7,fun env A σ s Q E rm o p kk=>?_⟩
    obtain ⟨pl,hpl⟩:=he env
    rw [hpl]
    refine wpAny_bind (t1 env A σ s _ E rm o p fun ov σ1 h1' tk1 o1 r1 g1=>wpAny_bind (wpAny_standAt (wpAny_bind (wpAny_holding ?_))))
    cases r1 with
    | obj _ _ hC hlt ha=>
      obtain ⟨m',hns,_,hm⟩:=o1.obj _ _ hn'
      obtain ⟨od,I,hlk'⟩:=zeO ha hns
      have hr:=hm ai name hat
      rw [hlk] at hr
      have hr:m' name = none:=hr
      obtain ⟨cl',hcl',ci⟩:=zek w.params C hC
      rw [hcl] at hcl'; cases hcl'
      have mem:(ai,f) ∈ cl.ms:=zfR hf
      obtain ⟨f1,f2,_⟩:=ci.ms _ mem
      rw [zfW hat] at f1
      refine method_fn (zeU _ _ o1.top) I ci.ga ci.gh f1 f2 (by unfold shadowIn; simp only; rw [hlk',hr]; rfl) ?_
      exact zht (m:=m) (fns C f cl hcl hf) hs (t2 env pos) t3 rm o1 (Ag.stays _ _ _ _ _ _ o o1 g1 p) (.cons (.obj C n hC hlt ha) .nil) fun v σ' h' tk' o' rv g'=>kk v σ' h' tk' o' rv (g1.trans g')
theorem zki {A:Around} {d:Nat} {C:Addr} {rest:List Value} (r:Rm A (d + 1)):Rm (A.under (.builtin "type.__call__" ⟨.ref C :: rest,[]⟩)) d:=by
  refine ⟨r.hd,?_,?_⟩
  · show A.depth + (Code.builtin "type.__call__" ⟨.ref C :: rest,[]⟩).weight + d + 8 < _
    have:(Code.builtin "type.__call__" ⟨.ref C :: rest,[]⟩).weight = 1:=by rfl
    have:=r.dp
    lia
  · show A.units + (Code.builtin "type.__call__" ⟨.ref C :: rest,[]⟩).cUnits + 8 * d + 256 < _
    have:(Code.builtin "type.__call__" ⟨.ref C :: rest,[]⟩).cUnits = 1:=by rfl
    have:=r.un
    lia
theorem ztL (hn:Ae nt) {i C f:Nat} {x:Str} {xs:Sm (List D)} {es:List Expr} {p1 pos} (q:nt[i]? = some (x,.globalImplicit)) (g:Aj w.params x (.ref (Hp C))) (hC:C < 8) (hf:∀ cl,D0 CLS C = some cl→(0,f) ∈ cl.ms) (hkeep:keepIn (KK w.params) (.ref (Hp C)) = true) (hx:SL w nt xs es) (hs:autoParam (Cj es = true) tR):
    SX w nt (Ho C f xs) (.Call (.Name x p1) es [] pos):=fun m c hc e st k r h=>by
  obtain ⟨ds,st1,h1,hl,t1⟩:=hx m c hc e st _ r h
  obtain ⟨hN,h2⟩:=Dm.mp h1
  obtain ⟨dv,st2,h3,t2⟩:=hc f (.obj C st1.N :: ds) _ _ r h2
  obtain ⟨rfl,h4⟩:=T0.mp h3
  refine ⟨_,st2,h4,fun env A σ s Q E rm o p kk=>?_⟩
  refine Call_Name rfl (Fh hn q g o p ?_)
  refine callWith_of (P:=zjQ w) (by rw [E8 hs]; rfl) (fun h t=>keeps_K hkeep h (zeU _ _ t)) (Cz hs ?_)
  refine t1 env pos A σ s _ E rm o p fun vs σ1 h1' tk1 o1 rl g1=>⟨o1.top,wpAny_call ?_⟩
  obtain ⟨cl,hcl,ci⟩:=zek w.params C hC
  obtain ⟨f1,f2,_⟩:=ci.ms _ (hf cl hcl)
  have X:=zeU w.params _ o1.top
  have f1:findIn (KK w.params) (.ref (Hp C)) "__init__" = some (some (.ref (fnA f))):=f1
  obtain ⟨hh,gg,dd,tt,oo⟩:=s
  refine make_core (makes_of X ci.mks) (looks_findIn X f1) (fun self=>bind_fn X self f2) (.inl (by rfl)) ?_
  have k1:∀ b ob,h1'.get? b = some ob→(h1'.push emptyDict).get? b = some ob:=fun b ob e=>Heap.get?_push_of_some _ e
  have k2:∀ b ob,h1'.get? b = some ob→((h1'.push emptyDict).push (instObj (Hp C) h1'.objs.size)).get? b = some ob:=fun b ob e=>Heap.get?_push_of_some _ (k1 b ob e)
  have dic:((h1'.push emptyDict).push (instObj (Hp C) h1'.objs.size)).get? h1'.objs.size = some emptyDict:=Heap.get?_push_of_some _ (Heap.get?_push_size _ rfl)
  have ins:((h1'.push emptyDict).push (instObj (Hp C) h1'.objs.size)).get? (h1'.objs.size + 1) = some (instObj (Hp C) h1'.objs.size):=by
    have:=Qw (h1'.push emptyDict) (instObj (Hp C) h1'.objs.size)
    rwa [Heap.size_push] at this
  have o2:Ok w (more σ1 st1.N h1'.objs.size) ((h1'.push emptyDict).push (instObj (Hp C) h1'.objs.size)) (st1.new (.ns [])):=
    o1.fresh hN (B8 _) k2 ⟨fun _=>none,⟨_,#[],0,dic,rfl,fun e he=>by simp at he,fun _=>rfl⟩,fun ob es ep e1 e2=>by rw [dic] at e1; cases e1; cases e2; exact Nat.zero_le _,fun i x _=>rfl⟩
  have g2:Aw NoX σ1 h1' st1 (more σ1 st1.N h1'.objs.size) ((h1'.push emptyDict).push (instObj (Hp C) h1'.objs.size)) (st1.new (.ns [])):=Aw.fresh_ o1 hN (B8 _) k2
  have ro:R (more σ1 st1.N h1'.objs.size) (st1.new (.ns [])).N ((h1'.push emptyDict).push (instObj (Hp C) h1'.objs.size)) (.ref (h1'.objs.size + 1)) (.obj C st1.N):=
    .obj C st1.N hC (Nat.lt_succ_self _) (by rw [Bv]; exact ins)
  have rm2:Rm (A.under (.builtin "type.__call__" ⟨.ref (Hp C) :: ([] ++ vs),[]⟩)) (2 * m + 2):=zki rm
  exact t2 (.ref (h1'.objs.size + 1) :: vs) (A.under (.builtin "type.__call__" ⟨.ref (Hp C) :: ([] ++ vs),[]⟩)) _ ⟨(h1'.push emptyDict).push (instObj (Hp C) h1'.objs.size),gg,dd,tk1,oo⟩ _ rm2 o2 (.cons ro (rl.goes o1 g2)) fun v σ3 h3 tk3 o3 rv g3=>by
    obtain rfl:=rv.inv
    exact ⟨rfl,kk _ σ3 h3 tk3 o3 (ro.goes o2 g3) ((g1.trans g2).trans g3)⟩
end
section
variable {w:World} {nt:List (Str × NameKind)}
noncomputable def zad (w:World) (f:Op1) (id:Value):Prop:=∀ st a k r,f st a k = some r→E3 (fun dr st'=>k dr st' = some r) fun dr st'=>∀ d va,Tr w (d + 1) NoX st (fun σ st h=>R σ st.N h va a) (call id [va]) (fun σ st h v=>R σ st.N h v dr) st'
noncomputable def zfC (w:World) (f:Op2) (id:Value):Prop:=∀ st a b k r,f st a b k = some r→E3 (fun dr st'=>k dr st' = some r) fun dr st'=>∀ d va vb,Tr w (d + 1) NoX st (fun σ st h=>R σ st.N h va a ∧ R σ st.N h vb b) (call id [va,vb]) (fun σ st h v=>R σ st.N h v dr) st'
noncomputable def zcX:Value→Bool
  | .builtin _=>true
  | .type _=>true
  | _=>false
theorem Ea {M:Model} {v:Value} (hv:zcX v = true):∀ h:Heap,True→∃ k,(k = Keeper.frame ∨ k = Keeper.machine ∨ k = Keeper.boundFrame) ∧ Looks M h (keeperOf v) k:=fun h _=>by
  refine ⟨.machine,.inr (.inl rfl),?_⟩
  cases v <;> first | exact Looks.now | (exact absurd hv Bool.false_ne_true)
theorem zgE {x:Sm D} {ex:Expr} {f:D→St→Ans} (hx:SX w nt x ex) (hs:Ay ex = true) {m:Nat} {c:Cal} (hc:Cx w m c) {e:Ax} {st:St} {r:D × St} (h:x c e st f = some r):
    ∃ a st',f a st' = some r ∧ ∀ env pos,Tr w (2 * m + 3) NoX st (Ag w nt env e) (spliced (backTo pos (starEach [ex] env))) (fun σ st h v=>RL σ st.N h v [a]) st':=by
  obtain ⟨ds,st1,h1,hl,t1⟩:=(zey hx zkw hs) m c hc e st (fun ds st=>match ds with | [a]=>f a st | _=>none) r h
  match ds,hl,h1,t1 with
  | [a],_,h1,t1=>exact ⟨a,st1,h1,t1⟩
theorem zky {x y:Sm D} {ex ey:Expr} {f:D→D→St→Ans} (hx:SX w nt x ex) (hy:SX w nt y ey) (hs:Ay ex = true) (hs2:Ay ey = true) {m:Nat} {c:Cal} (hc:Cx w m c) {e:Ax} {st:St} {r:D × St} (h:x c e st (fun a st=>y c e st fun b st=>f a b st) = some r):
    ∃ a b st',f a b st' = some r ∧ ∀ env pos,Tr w (2 * m + 3) NoX st (Ag w nt env e) (spliced (backTo pos (starEach [ex,ey] env))) (fun σ st h v=>RL σ st.N h v [a,b]) st':=by
  obtain ⟨ds,st1,h1,hl,t1⟩:=(zey hx (zey hy zkw hs2) hs) m c hc e st (fun ds st=>match ds with | [a,b]=>f a b st | _=>none) r h
  match ds,hl,h1,t1 with
  | [a,b],_,h1,t1=>exact ⟨a,b,st1,h1,t1⟩
theorem zux (hn:Ae nt) {i:Nat} {g:Str} {id:Value} {f:Op1} {x:Sm D} {ex:Expr} {p1 pos} (q:nt[i]? = some (g,.globalImplicit)) (gl:Aj w.params g id) (hid:zcX id = true) (hf:zad w f id) (hx:SX w nt x ex) (hs:autoParam (Ay ex = true) tR):
    SX w nt (x1 f x) (.Call (.Name g p1) [ex] [] pos):=fun m c hc e st k r h=>by
  obtain ⟨dx,st1,h1,t1⟩:=zgE (f:=fun a st=>f st a k) hx hs hc h
  obtain ⟨dr,st2,h2,t2⟩:=hf st1 dx k r h1
  refine ⟨dr,st2,h2,fun env A σ s Q E rm o p kk=>?_⟩
  refine Call_Name rfl (Fh hn q gl o p ?_)
  have ns:Cj [ex] = true:=by show (Ay ex && true) = true; rw [hs]; rfl
  refine callWith_of (P:=fun _=>True) (by rw [E8 ns]; rfl) (Ea hid) (Cz ns ?_)
  refine t1 env pos A σ s _ E rm o p fun vs σ1 h1' tk1 o1 r1 g1=>⟨trivial,?_⟩
  cases r1 with
  | cons r1 r2=>
    cases r2
    exact t2 (2 * m + 2) _ A σ1 _ Q E rm o1 r1 fun v' σ2 h2' tk2 o2 r2 g2=>kk v' σ2 h2' tk2 o2 r2 (g1.trans g2)
theorem zuS (hn:Ae nt) {i:Nat} {g:Str} {id:Value} {f:Op2} {x y:Sm D} {ex ey:Expr} {p1 pos} (q:nt[i]? = some (g,.globalImplicit)) (gl:Aj w.params g id) (hid:zcX id = true) (hf:zfC w f id) (hx:SX w nt x ex) (hy:SX w nt y ey) (hs:autoParam (Ay ex = true) tR) (hs2:autoParam (Ay ey = true) tR):
    SX w nt (x2 f x y) (.Call (.Name g p1) [ex,ey] [] pos):=fun m c hc e st k r h=>by
  obtain ⟨dx,dy,st1,h1,t1⟩:=zky (f:=fun a b st=>f st a b k) hx hy hs hs2 hc h
  obtain ⟨dr,st3,h3,t3⟩:=hf st1 dx dy k r h1
  refine ⟨dr,st3,h3,fun env A σ s Q E rm o p kk=>?_⟩
  refine Call_Name rfl (Fh hn q gl o p ?_)
  have ns:Cj [ex,ey] = true:=by show (Ay ex && (Ay ey && true)) = true; rw [hs,hs2]; rfl
  refine callWith_of (P:=fun _=>True) (by rw [E8 ns]; rfl) (Ea hid) (Cz ns ?_)
  refine t1 env pos A σ s _ E rm o p fun vs σ1 h1' tk1 o1 r1 g1=>⟨trivial,?_⟩
  cases r1 with
  | cons r1 r2=>
    cases r2 with
    | cons r2 r3=>
      cases r3
      exact t3 (2 * m + 2) _ _ A σ1 _ Q E rm o1 ⟨r1,r2⟩ fun v' σ2 h2' tk2 o2 r2 g2=>kk v' σ2 h2' tk2 o2 r2 (g1.trans g2)
theorem Jf (sys:zcy w):zad w No (.builtin "len"):=fun st a k r h=>by
  refine bg fun bP bf=>?_
  cases a with
  | tup xs=>
    have h:fit xs (k (.int (.ofNat (len xs))) st) = some r:=h
    obtain ⟨hl,h2⟩:=Cc.mp h
    rw [Mine.En] at h2
    refine bf ⟨_,_,h2,fun d va A σ s Q E rm o p kk=>?_⟩
    cases p with
    | tup g1 c1 d1 r1=>
      have e:_ = xs.length:=r1.length
      rw [Array.length_toList] at e
      exact PyProof.Rows.len_tuple ⟨_,g1,c1,_,d1⟩ (by rw [e]; lia) (kk _ σ s.heap _ o (by rw [e]; exact .int _ _) o.refl)
  | ref i=>
    have h:ob (T.get st.H i) (fun o=>Bb.rec (motive:=fun _=>Ans) (fun xs=>fit xs (k (.int (.ofNat (len xs))) st)) (fun es=>fit es (k (.int (.ofNat (len es))) st)) (fun _=>none) (fun _=>none) o) = some r:=h
    obtain ⟨ob',e,h2⟩:=Bf.mp h
    cases ob' with
    | list xs=>
      obtain ⟨hl,h2⟩:=Cc.mp h2
      rw [Mine.En] at h2
      refine bf ⟨_,_,h2,fun d va A σ s Q E rm o p kk=>?_⟩
      obtain ⟨rfl,_⟩:=p.inv
      obtain ⟨vs,hv,rl⟩:=o.obj _ _ e
      have e:_ = xs.length:=rl.length
      rw [Array.length_toList] at e
      exact Calls.call_len_list hv.isList (by rw [e]; lia) (kk _ σ s.heap _ o (by rw [e]; exact .int _ _) o.refl)
    | dict es=>
      obtain ⟨hl,h2⟩:=Cc.mp h2
      rw [Mine.En] at h2
      refine bf ⟨_,_,h2,fun d va A σ s Q E rm o p kk=>?_⟩
      obtain ⟨rfl,_⟩:=p.inv
      obtain ⟨kvs,hv,rd⟩:=o.obj _ _ e
      have e':kvs.length = es.length:=rd.length
      exact call_len_dict (zaI sys o e) hv (by rw [e']; lia) (kk _ σ s.heap _ o (by rw [e']; exact .int _ _) o.refl)
    | ns _=>cases h2
    | cell _=>cases h2
  | _=>cases h
theorem Y6:zad w za6 (.type "list"):=fun st a k r h=>by
  obtain ⟨xs,hx,h1⟩:=Ff.mp h
  obtain ⟨hl,hN,h2⟩:=Fg.mp h1
  refine ⟨_,_,h2,fun d va A σ s Q E rm o p kk=>?_⟩
  have fin:∀ (a:Addr) (T:String) (ob:Obj) (vs:Array Value) (n:Nat),(T = "list" ∨ T = "tuple")→s.heap.get? a = some ob→ob.cls = .type T→ob.data = .seq vs n→RL σ st.N s.heap vs.toList xs→wpAny (model pw w) A (call (.type "list") [.ref a]) Q E s:=fun a T ob vs n hT g1 c1 d1 rl=>by
    have e:_ = xs.length:=rl.length
    rw [Array.length_toList] at e
    refine call_list_seq a hT g1 c1 d1 (fun h' c' hk hnew=>?_) (by rw [e]; exact Cd hl)
    have o':=o.fresh (o:=.list xs) hN (B8 _) hk ⟨vs,⟨_,hnew⟩,rl.mono (An _ _) (Nat.le_succ _) (.all hk)⟩
    have g':Aw NoX σ s.heap st _ h' (st.new (.list xs)):=Aw.fresh_ o hN (B8 _) hk
    refine kk _ _ _ s.toks o' ?_ g'
    have:=R.ref (σ:=more σ st.N s.heap.objs.size) (N:=st.N + 1) (h:=h') st.N (Nat.lt_succ_self _)
    rwa [Bv] at this
  rcases hx with rfl | ⟨i,rfl,hi⟩
  · cases p with | tup g1 c1 d1 r1=>exact fin _ "tuple" _ _ _ (.inr rfl) g1 c1 d1 r1
  · obtain ⟨rfl,_⟩:=p.inv
    obtain ⟨vs,hpl,rl⟩:=o.obj _ _ hi
    obtain ⟨ob,g1,c1,n,d1⟩:=hpl.isList
    exact fin _ "list" _ _ _ (.inl rfl) g1 c1 d1 rl
theorem zjV:zad w zdL (.type "int"):=fun st a k r h=>by
  cases a with
  | bool b=>
    have h:k (.int (b2i b)) st = some r:=h
    refine ⟨_,_,h,fun d va A σ s Q E rm o p kk=>?_⟩
    obtain rfl:=p.inv
    exact call_int_bool (kk _ σ s.heap _ o (by rw [zk5]; exact .int _ _) o.refl)
  | int i=>
    have h:k (.int i) st = some r:=h
    refine ⟨_,_,h,fun d va A σ s Q E rm o p kk=>?_⟩
    obtain ⟨_,rfl⟩:=p.inv
    exact call_int_int (kk _ σ s.heap s.toks o (.int _ _) o.refl)
  | _=>cases h
theorem ztF:zad w zkD (.builtin "abs"):=fun st a k r h=>by
  obtain ⟨i,rfl,h1⟩:=Bh.mp h
  refine ⟨_,_,h1,fun d va A σ s Q E rm o p kk=>?_⟩
  obtain ⟨_,rfl⟩:=p.inv
  refine call_abs_int fun u tk=>kk _ σ s.heap tk o ?_ o.refl
  have:(if i < 0 then -i else i) = Int.ofNat i.natAbs:=by split <;> simp <;> lia
  rw [this]; exact .int _ _
theorem ztd:zad w zsy (.type "str"):=fun st a k r h=>by
  obtain ⟨i,rfl,h1⟩:=Bh.mp h
  obtain ⟨n,rfl,h2⟩:=O0.mp h1
  obtain ⟨hl,h3⟩:=Ar.mp h2
  rw [Nat.blt_eq] at hl
  refine ⟨_,_,h3,fun d va A σ s Q E rm o p kk=>?_⟩
  obtain ⟨_,rfl⟩:=p.inv
  have lg:∀ n,n < 10→(Int.ofNat n).natAbs.log2 < 1920:=by decide +kernel
  refine P.str_of_int (lg n hl) (kk _ σ s.heap _ o ?_ o.refl)
  have key:∀ n,n < 10→(Str.ofString (toString (Int.ofNat n))).cps.toList = [48 + n] ∧ PyData.strOk (Str.ofString (toString (Int.ofNat n))) = true:=by decide +kernel
  obtain ⟨k1,k2⟩:=key n hl
  rw [← k1]; exact .str _ _ k2
theorem ztY:zfC w zsM (.builtin "min"):=fun st a b k r h=>by
  obtain ⟨i,rfl,h1⟩:=Bh.mp h
  obtain ⟨j,rfl,h2⟩:=Bh.mp h1
  refine ⟨_,_,h2,fun d va vb A σ s Q E rm o p kk=>?_⟩
  obtain ⟨p1,p2⟩:=p; obtain ⟨_,rfl⟩:=p1.inv; obtain ⟨_,rfl⟩:=p2.inv
  refine min_two_ints rm.hd fun h' tk hk=>kk _ σ h' tk (o.grow hk) ?_ (Aw.grow o hk)
  rw [C2,Dw]
  by_cases q:j < i
  · rw [if_pos q,if_pos (by simpa using q)]; exact .int _ _
  · rw [if_neg q,if_neg (by simpa using q)]; exact .int _ _
end
section
variable {w:World} {nt:List (Str × NameKind)}
noncomputable def Um (it:It) (i:Nat) (I:Addr) (σ:Sg) (st:St) (h:Heap):Prop:=match it with
  | .of (.ref n)=>n < st.N ∧ h.IsListIter I (σ.a n) i
  | .of (.tup xs)=>∃ t,R σ st.N h (.ref t) (.tup xs) ∧ h.IsTupleIter I t i
  | .of _=>False
  | .range n=>IsRangeIter h I i ((n:Int) - i) 1
  | .zip=>True
structure Gd (w:World) (I:Addr) (env:Env) (σ:Sg) (st:St) (h:Heap):Prop where
  free:∀ n o,st.get n = some o→σ.a n ≠ I
  top:(HT w.params).get? I = none
  loc:I ≠ env.locals
  cls:∃ o,h.get? I = some o ∧ (o.cls = .type "list_iterator" ∨ o.cls = .type "tuple_iterator" ∨ o.cls = .type "range_iterator") ∧ ∃ vs,o.data = .fields vs
theorem Gd.notImm {I:Addr} {env:Env} {σ:Sg} {st:St} {h:Heap} (x:Gd w I env σ st h):∀ o,h.get? I = some o→¬ Imm o:=fun o e=>by
  obtain ⟨o',e',_,vs,hd⟩:=x.cls
  rw [e] at e'; cases e'
  rintro (⟨_,_,_,q⟩ | q) <;> (rw [hd] at q; cases q)
theorem R.tuple {σ:Sg} {N:Nat} {h:Heap} {t:Addr} {xs:List D} (r:R σ N h (.ref t) (.tup xs)):∃ vs,h.IsTuple t vs ∧ RL σ N h vs.toList xs:=by
  cases r with | tup a b c d=>exact ⟨_,⟨_,a,b,_,c⟩,d⟩
theorem Gd.stays {I:Addr} {env:Env} {e:Ax} {σ σ':Sg} {st st':St} {h h':Heap} (x:Gd w I env σ st h) (o:Ok w σ h st) (p:Ag w nt env e σ st h) (g:Aw (E9 env) σ h st σ' h' st'):
    Gd w I env σ' st' h' ∧ (∀ ob,h.get? I = some ob→h'.get? I = some ob):=by
  have k:∀ ob,h.get? I = some ob→h'.get? I = some ob:=fun ob e=>g.kept _ _ e (fun z=>x.loc z) x.free
  refine ⟨⟨fun n ob e z=>?_,x.top,x.loc,?_⟩,k⟩
  · by_cases l:n < st.N
    · obtain ⟨o₀,e₀⟩:=g.old n ob l e
      exact x.free n o₀ e₀ ((g.same.2 n l).symm.trans z)
    · have:=g.fresh n ob (Nat.not_lt.mp l) e
      obtain ⟨ob',hob,_⟩:=x.cls
      rw [z,hob] at this; cases this
  · obtain ⟨ob,a,b⟩:=x.cls
    exact ⟨ob,k _ a,b⟩
theorem Um.stays {it:It} {i:Nat} {I:Addr} {env:Env} {e:Ax} {σ σ':Sg} {st st':St} {h h':Heap} (x:Um it i I σ st h) (o:Ok w σ h st) (p:Ag w nt env e σ st h) (g:Aw (E9 env) σ h st σ' h' st') (k:∀ ob,h.get? I = some ob→h'.get? I = some ob):Um it i I σ' st' h':=by
  have kI:=o.keepI g p.only
  cases it with
  | of d=>
    cases d with
    | ref n=>
      obtain ⟨a,ob,b,c⟩:=x
      refine ⟨Nat.lt_of_lt_of_le a g.le,ob,k _ b,?_⟩
      rw [g.same.2 n a]; exact c
    | tup xs=>obtain ⟨t,a,ob,b,c⟩:=x; exact ⟨t,a.mono g.same g.le kI,ob,k _ b,c⟩
    | _=>exact x.elim
  | range n=>exact k _ x
  | zip=>trivial
theorem zd4 {it:It} {i:Nat} {I:Addr} {env:Env} {e:Ax} {A:Around} {σ:Sg} {s:Shared} {st:St} {b:Nat} {k0:Ans} {k:D→Ans} {r:D × St} (hz:it ≠ .zip) (h:nth st it i k0 k = some r) (rm:Rm A b) (o:Ok w σ s.heap st) (p:Ag w nt env e σ st s.heap) (x:Um it i I σ st s.heap) (a:Gd w I env σ st s.heap):
    (k0 = some r ∧ ∀ (Q:Option Value→Shared→Prop) (E:Value→Shared→Prop),(∀ h' tk,Ok w σ h' st→Ag w nt env e σ st h'→(∀ b o,b ≠ I→s.heap.get? b = some o→h'.get? b = some o)→Q none { s with heap:=h',toks:=tk })→wpAny (model pw w) A (pyNext (.ref I)) Q E s) ∨
    (∃ d,k d = some r ∧ ∀ (Q:Option Value→Shared→Prop) (E:Value→Shared→Prop),(∀ v h' tk,Ok w σ h' st→Ag w nt env e σ st h'→Um it (i + 1) I σ st h'→Gd w I env σ st h'→R σ st.N h' v d→(∀ b o,b ≠ I→s.heap.get? b = some o→h'.get? b = some o)→Q (some v) { s with heap:=h',toks:=tk })→wpAny (model pw w) A (pyNext (.ref I)) Q E s):=by
  have moved:∀ h',(∀ b o,b ≠ I→s.heap.get? b = some o→h'.get? b = some o)→Ok w σ h' st ∧ Ag w nt env e σ st h' ∧ Dy s.heap h':=fun h' hk=>by
    have kI:Dy s.heap h':=fun b ob i' e'=>hk b ob (fun z=>by subst z; exact a.notImm _ e' i') e'
    have o':=o.aside a.notImm a.top a.free hk
    refine ⟨o',⟨p.kind,p.names,?_,p.free,p.top,p.cell,p.globals,p.builtins⟩,kI⟩
    obtain ⟨m,hm,hr⟩:=p.ns
    refine ⟨m,?_,fun j y d q1 q2=>?_⟩
    · obtain ⟨ob,es,ep,ho,r⟩:=hm
      exact ⟨ob,es,ep,hk _ _ a.loc.symm ho,r⟩
    · obtain ⟨v,e1,e2⟩:=hr j y d q1 q2
      exact ⟨v,e1,e2.mono (.refl _ _) (Nat.le_refl _) kI⟩
  cases it with
  | zip=>exact absurd rfl hz
  | range n=>
    have h:ifB (Nat.blt i n) (k (.int (.ofNat i))) k0 = some r:=h
    have x:IsRangeIter s.heap I i ((n:Int) - i) 1:=x
    rw [C2] at h
    by_cases q:i < n
    · rw [if_pos (by rw [Nat.blt_eq]; exact q)] at h
      refine .inr ⟨_,h,fun Q E kk=>wpAny_pyNext_range_item x (by lia) fun h' hx hs=>?_⟩
      have hk:∀ b o,b ≠ I→s.heap.get? b = some o→h'.get? b = some o:=fun b o z e=>(hs.2 b z).trans e
      obtain ⟨o',p',kI⟩:=moved h' hk
      refine kk _ h' _ o' p' ?_ ⟨a.free,a.top,a.loc,_,hx,.inr (.inr rfl),_,rfl⟩ (.int _ _) hk
      show IsRangeIter h' I ((i + 1:Nat):Int) ((n:Int) - ((i + 1:Nat):Int)) 1
      have e1:((i + 1:Nat):Int) = (i:Int) + 1:=by lia
      have e2:(n:Int) - ((i:Int) + 1) = (n:Int) - i - 1:=by lia
      rw [e1,e2]; exact hx
    · rw [if_neg (by rw [Nat.blt_eq]; exact q)] at h
      refine .inl ⟨h,fun Q E kk=>wpAny_pyNext_range_end rm.hd x (by lia) fun h' hs=>?_⟩
      have hk:∀ b o,b ≠ I→s.heap.get? b = some o→h'.get? b = some o:=fun b o z e=>hs b o z e
      obtain ⟨o',p',kI⟩:=moved h' hk
      exact kk h' s.toks o' p' hk
  | of d=>
    obtain ⟨xs,hx,h1⟩:=Ff.mp h
    rcases hx with rfl | ⟨n,rfl,hn⟩
    · obtain ⟨t,rt,ht⟩:=x
      obtain ⟨vs,ht',rl⟩:=rt.tuple
      rw [Hr] at h1
      cases z:xs[i]? with
      | none=>
        rw [z] at h1
        have zv:vs[i]? = none:=by
          have e:vs.size = xs.length:=by simpa using rl.length
          rw [Array.getElem?_eq_none_iff,e]; exact List.getElem?_eq_none_iff.mp z
        refine .inl ⟨h1,fun Q E kk=>wpAny_pyNext_tuple_end rm.hd ht ht' zv fun h' hs=>?_⟩
        have hk:∀ b o,b ≠ I→s.heap.get? b = some o→h'.get? b = some o:=fun b o z e=>hs b o z e
        obtain ⟨o',p',kI⟩:=moved h' hk
        exact kk h' s.toks o' p' hk
      | some d=>
        rw [z] at h1
        obtain ⟨v,zv,rv⟩:=rl.geto z
        refine .inr ⟨d,h1,fun Q E kk=>wpAny_pyNext_tuple_item ht ht' zv fun h' hx hs=>?_⟩
        have hk:∀ b o,b ≠ I→s.heap.get? b = some o→h'.get? b = some o:=fun b o z e=>(hs.2 b z).trans e
        obtain ⟨o',p',kI⟩:=moved h' hk
        obtain ⟨ob,f1,f2,f3⟩:=id hx
        exact kk v h' s.toks o' p' ⟨t,rt.mono (.refl _ _) (Nat.le_refl _) kI,hx⟩ ⟨a.free,a.top,a.loc,ob,f1,.inr (.inl f2),_,f3⟩ (rv.mono (.refl _ _) (Nat.le_refl _) kI) hk
    · obtain ⟨hlt,ht⟩:=x
      obtain ⟨vs,ht',rl⟩:=o.obj _ _ hn
      have ht':=ht'.isList
      rw [Hr] at h1
      cases z:xs[i]? with
      | none=>
        rw [z] at h1
        have zv:vs[i]? = none:=by
          have e:vs.size = xs.length:=by simpa using rl.length
          rw [Array.getElem?_eq_none_iff,e]; exact List.getElem?_eq_none_iff.mp z
        refine .inl ⟨h1,fun Q E kk=>wpAny_pyNext_list_end rm.hd ht ht' zv fun h' hs=>?_⟩
        have hk:∀ b o,b ≠ I→s.heap.get? b = some o→h'.get? b = some o:=fun b o z e=>hs b o z e
        obtain ⟨o',p',kI⟩:=moved h' hk
        exact kk h' s.toks o' p' hk
      | some d=>
        rw [z] at h1
        obtain ⟨v,zv,rv⟩:=rl.geto z
        refine .inr ⟨d,h1,fun Q E kk=>wpAny_pyNext_list_item ht ht' zv fun h' hx hs=>?_⟩
        have hk:∀ b o,b ≠ I→s.heap.get? b = some o→h'.get? b = some o:=fun b o z e=>(hs.2 b z).trans e
        obtain ⟨o',p',kI⟩:=moved h' hk
        obtain ⟨ob,f1,f2,f3⟩:=id hx
        exact kk v h' s.toks o' p' ⟨hlt,hx⟩ ⟨a.free,a.top,a.loc,ob,f1,.inl f2,_,f3⟩ (rv.mono (.refl _ _) (Nat.le_refl _) kI) hk
theorem zeZ {A:Around} {I:Addr} {env:Env} {σ:Sg} {st:St} {s:Shared} {target:Expr} {v:Value} {Q:Unit→Shared→Prop} {E:Value→Shared→Prop} (a:Gd w I env σ st s.heap) (k:Q () s):wpAny (model pw w) A (letOwnedTupleGo target (.ref I) v) Q E s:=by
  obtain ⟨o,ho,hc,vs,hd⟩:=a.cls
  unfold letOwnedTupleGo
  have body:wpAny (model pw w) A (do
      let (.ref r,.ref a):=((Value.ref I,v):Value × Value) | return
      let o ← load r
      match o.cls,o.data with
      | .type n,.fields vs=>
        if ["enumerate","zip","dict_itemiterator","dict_reverseitemiterator","odict_iterator","itertools.zip_longest","itertools.pairwise"].contains n && vs[0]? == some (rawInt a) then
          rule "for.unpacks-the-owned-tuple"
          updateField r 0 .none
      | _,_=>pure ()) Q E s:=by
    cases v with
    | ref b=>
      refine wpAny_bind (wpAny_load ho ?_)
      rw [hd]
      rcases hc with hc | hc | hc <;> rw [hc] <;> exact wpAny_pure k
    | _=>exact wpAny_pure k
  cases target with
  | Tuple _ _ _=>exact body
  | List _ _=>exact body
  | _=>exact wpAny_pure k
end
section
variable {w:World} {nt:List (Str × NameKind)}
noncomputable def SI (w:World) (nt:List (Str × NameKind)) (i:Sm It) (iter:Expr):Prop:=
  ∀ m c,Cx w m c→∀ e st k r,i c e st k = some r→E4 (fun it st'=>k it st' = some r) (fun it st'=>it ≠ .zip) fun it st'=>∀ env (A:Around) σ (s:Shared) (Q:Value→Shared→Prop) E,Rm A (2 * m + 3)→Ok w σ s.heap st→Ag w nt env e σ st s.heap →
    (∀ I σ2 h2 tk2,Ok w σ2 h2 st'→Ag w nt env e σ2 st' h2→Um it 0 I σ2 st' h2→Gd w I env σ2 st' h2→s.heap.get? I = none→Aw NoX σ s.heap st σ2 h2 st'→Q (.ref I) { s with heap:=h2,toks:=tk2 }) →
    wpAny (model pw w) A (eval iter env) (fun v s1=>wpAny (model pw w) A (pyIter v) Q E s1) E s
theorem U4 {I:Addr} {env:Env} {e:Ax} {σ:Sg} {st:St} {h h':Heap} {o:Obj} (ok:Ok w σ h st) (p:Ag w nt env e σ st h) (hI:I = h.objs.size) (hk:∀ b o,h.get? b = some o→h'.get? b = some o) (ho:h'.get? I = some o)
    (hc:o.cls = .type "list_iterator" ∨ o.cls = .type "tuple_iterator" ∨ o.cls = .type "range_iterator") (hd:∃ vs,o.data = .fields vs):Gd w I env σ st h':=by
  have hn:h.get? I = none:=by rw [hI]; exact B8 h
  refine ⟨fun n ob e z=>?_,?_,fun z=>?_,o,ho,hc,hd⟩
  · obtain ⟨ob',q⟩:=(ok.obj n ob e).there
    rw [z,hn] at q; cases q
  · cases q:(HT w.params).get? I with
    | none=>rfl
    | some ob=>rw [ok.top _ _ q] at hn; cases hn
  · obtain ⟨m,⟨ob,_,_,q,_⟩,_⟩:=p.ns
    rw [← z,hn] at q; cases q
noncomputable def znG (st:St) (it:It) (i:Nat) (d:D):Prop:=∀ (k0:Ans) (k:D→Ans),nth st it i k0 k = k d
noncomputable def ziH (st:St) (it:It) (i:Nat):Prop:=∀ (k0:Ans) (k:D→Ans),nth st it i k0 k = k0
theorem zdT {st:St} {it:It} {i:Nat} {k0:Ans} {k:D→Ans} {r:D × St} (h:nth st it i k0 k = some r):(ziH st it i ∧ k0 = some r) ∨ (∃ d,znG st it i d ∧ k d = some r):=by
  cases it with
  | zip=>exact .inl ⟨fun _ _=>rfl,h⟩
  | range n=>
    cases q:Nat.blt i n with
    | true=>
      have e:∀ (k0:Ans) (k:D→Ans),nth st (.range n) i k0 k = k (.int (.ofNat i)):=fun k0 k=>by
        show ifB (Nat.blt i n) _ _ = _
        rw [q]; rfl
      exact .inr ⟨_,e,by rw [e] at h; exact h⟩
    | false=>
      have e:∀ (k0:Ans) (k:D→Ans),nth st (.range n) i k0 k = k0:=fun k0 k=>by
        show ifB (Nat.blt i n) _ _ = _
        rw [q]; rfl
      exact .inl ⟨e,by rw [e] at h; exact h⟩
  | of d=>
    obtain ⟨xs,hx,h1⟩:=Ff.mp h
    have e:∀ (k0:Ans) (k:D→Ans),nth st (.of d) i k0 k = Option.rec (motive:=fun _=>Ans) k0 k (D0 xs i):=fun k0 k=>by
      show Dq st d _ = _
      rcases hx with rfl | ⟨n,rfl,hn⟩
      · rfl
      · show Au st n _ = _
        unfold Au
        have hn:T.get st.H n = some (.list xs):=hn
        rw [hn]; rfl
    cases q:D0 xs i with
    | none=>rw [q] at h1; exact .inl ⟨fun k0 k=>by rw [e,q],h1⟩
    | some d'=>rw [q] at h1; exact .inr ⟨d',fun k0 k=>by rw [e,q],h1⟩
theorem zfI {it:It} {i:Nat} {I:Addr} {env:Env} {e:Ax} {A:Around} {σ:Sg} {s:Shared} {st:St} {b:Nat} (hz:it ≠ .zip) (h:ziH st it i) (rm:Rm A b) (o:Ok w σ s.heap st) (p:Ag w nt env e σ st s.heap) (x:Um it i I σ st s.heap) (a:Gd w I env σ st s.heap) (Q:Option Value→Shared→Prop) (E:Value→Shared→Prop)
    (k:∀ h' tk,Ok w σ h' st→Ag w nt env e σ st h'→(∀ b o,b ≠ I→s.heap.get? b = some o→h'.get? b = some o)→Q none { s with heap:=h',toks:=tk }):wpAny (model pw w) A (pyNext (.ref I)) Q E s:=by
  rcases zd4 (k0:=some (.none,st)) (k:=fun _=>none) (r:=(.none,st)) hz (h _ _) rm o p x a with ⟨_,h2⟩ | ⟨d,h2,_⟩
  · exact h2 Q E k
  · cases h2
theorem zhk {it:It} {i:Nat} {I:Addr} {d:D} {env:Env} {e:Ax} {A:Around} {σ:Sg} {s:Shared} {st:St} {b:Nat} (hz:it ≠ .zip) (h:znG st it i d) (rm:Rm A b) (o:Ok w σ s.heap st) (p:Ag w nt env e σ st s.heap) (x:Um it i I σ st s.heap) (a:Gd w I env σ st s.heap) (Q:Option Value→Shared→Prop) (E:Value→Shared→Prop)
    (k:∀ v h' tk,Ok w σ h' st→Ag w nt env e σ st h'→Um it (i + 1) I σ st h'→Gd w I env σ st h'→R σ st.N h' v d→(∀ b o,b ≠ I→s.heap.get? b = some o→h'.get? b = some o)→Q (some v) { s with heap:=h',toks:=tk }):wpAny (model pw w) A (pyNext (.ref I)) Q E s:=by
  rcases zd4 (k0:=none) (k:=fun d=>some (d,st)) (r:=(d,st)) hz (h _ _) rm o p x a with ⟨h2,_⟩ | ⟨d',h2,h3⟩
  · cases h2
  · cases h2; exact h3 Q E k
theorem Cm {x:Sm D} {ex:Expr} (hx:SX w nt x ex):SI w nt (iOf x) ex:=fun m c hc e st k r h=>by
  obtain ⟨dx,st1,h1,t1⟩:=hx m c hc e st _ r h
  obtain ⟨xs,hxs,h2⟩:=Ff.mp h1
  refine ⟨.of dx,st1,h2,fun q=>It.noConfusion q,fun env A σ s Q E rm o p kk=>?_⟩
  refine t1 env A σ s _ E rm o p fun v σ1 h1' tk1 o1 r1 g1=>?_
  have p1:=Ag.stays _ _ _ _ _ _ o o1 g1 p
  have kp:∀ ob:Obj,∀ b o',h1'.get? b = some o'→(h1'.push ob).get? b = some o':=fun ob b o' e=>Heap.get?_push_of_some _ e
  have none0:∀ I,I = h1'.objs.size→s.heap.get? I = none:=fun I e=>by
    cases q:s.heap.get? I with
    | none=>rfl
    | some ob=>obtain ⟨o',e'⟩:=g1.dom _ _ q; rw [e,B8] at e'; cases e'
  rcases hxs with rfl | ⟨n,rfl,hn⟩
  · cases r1 with
    | @tup a ob vs kd _ e1 e2 e3 rl=>
      refine wpAny_pyIter_tuple ⟨ob,e1,e2,_,e3⟩ ?_
      have hp:=Qw h1' { cls:=.type "tuple_iterator",data:=.fields #[.ref a,.int 0 0] }
      exact kk _ σ1 _ tk1 (o1.grow (kp _)) (p1.grow o1 (kp _)) ⟨a,.tup (kp _ _ _ e1) e2 e3 (rl.mono (.refl _ _) (Nat.le_refl _) (.all (kp _))),_,hp,rfl,rfl⟩ (U4 o1 p1 rfl (kp _) hp (.inr (.inl rfl)) ⟨_,rfl⟩) (none0 _ rfl) (g1.trans (Aw.grow o1 (kp _)))
  · cases r1 with
    | ref _ hlt=>
      obtain ⟨vs,hl,rl⟩:=o1.obj _ _ hn
      have hl:=hl.isList
      refine wpAny_pyIter_list hl ?_
      have hp:=Qw h1' { cls:=.type "list_iterator",data:=.fields #[.ref (σ1.a n),.int 0 0] }
      exact kk _ σ1 _ tk1 (o1.grow (kp _)) (p1.grow o1 (kp _)) ⟨hlt,_,hp,rfl,rfl⟩ (U4 o1 p1 rfl (kp _) hp (.inl rfl) ⟨_,rfl⟩) (none0 _ rfl) (g1.trans (Aw.grow o1 (kp _)))
theorem R.intIs {σ:Sg} {N:Nat} {h:Heap} {v:Value} {i:Int} (r:R σ N h v (.int i)):∃ t,v = .int i t:=by cases r with | int _ t=>exact ⟨t,rfl⟩
theorem zlJ (hn:Ae nt) {i:Nat} {g:Str} {x:Sm D} {ex:Expr} {p1 pos} (q:nt[i]? = some (g,.globalImplicit)) (gl:Aj w.params g (.type "range")) (hx:SX w nt x ex) (hs:autoParam (Ay ex = true) tR):SI w nt (Pi x) (.Call (.Name g p1) [ex] [] pos):=fun m c hc e st k r h=>by
  obtain ⟨dx,st1,h1,t1⟩:=zgE (f:=fun d st=>Eh d fun i=>zbo i fun n=>Bk (Nat.blt n 100000) (k (.range n) st)) hx hs hc h
  obtain ⟨i,rfl,h2⟩:=Bh.mp h1
  obtain ⟨n,rfl,h3⟩:=O0.mp h2
  obtain ⟨hb,h4⟩:=Ar.mp h3
  rw [Nat.blt_eq] at hb
  refine ⟨.range n,st1,h4,fun q=>It.noConfusion q,fun env A σ s Q E rm o p kk=>?_⟩
  refine Call_Name rfl (Fh hn q gl o p ?_)
  have ns:Cj [ex] = true:=by show (Ay ex && true) = true; rw [hs]; rfl
  refine callWith_of (P:=fun _=>True) (by rw [E8 ns]; rfl) (Ea rfl) (Cz ns ?_)
  refine t1 env pos A σ s _ E rm o p fun vs σ1 h1' tk1 o1 r1 g1=>⟨trivial,?_⟩
  have p1:=Ag.stays _ _ _ _ _ _ o o1 g1 p
  cases r1 with
  | cons r1 r2=>
    cases r2
    obtain ⟨t,rfl⟩:=r1.intIs
    refine call_range_1 ?_
    have kp:∀ (h:Heap) (ob:Obj),∀ b o',h.get? b = some o'→(h.push ob).get? b = some o':=fun h ob b o' e=>Heap.get?_push_of_some _ e
    have rs:Builtin.Range.rangeSize 0 (Int.ofNat n) 1 = (n:Int):=by
      unfold Builtin.Range.rangeSize
      have e0:Int.ofNat n = (n:Int):=rfl
      rw [if_pos (by decide),e0]
      split <;> lia
    have sm:Builtin.Range.small 0 (Int.ofNat n) 1 = true:=by
      unfold Builtin.Range.small
      rw [rs]
      have e0:Int.ofNat n = (n:Int):=rfl
      rw [e0]
      simp [Builtin.Range.rangeFitsLong]
      lia
    have hr:=Qw h1' { cls:=Value.type "range",data:=Data.fields #[Value.int 0 tk1,Value.int (Int.ofNat n) t,Value.int 1 (tk1 + 1)] }
    refine wpAny_pyIter_range hr sm ?_
    rw [rs]
    have o2:=o1.grow (kp h1' { cls:=Value.type "range",data:=Data.fields #[Value.int 0 tk1,Value.int (Int.ofNat n) t,Value.int 1 (tk1 + 1)] })
    have p2:=p1.grow o1 (kp h1' { cls:=Value.type "range",data:=Data.fields #[Value.int 0 tk1,Value.int (Int.ofNat n) t,Value.int 1 (tk1 + 1)] })
    have g2:=g1.trans (Aw.grow o1 (kp h1' { cls:=Value.type "range",data:=Data.fields #[Value.int 0 tk1,Value.int (Int.ofNat n) t,Value.int 1 (tk1 + 1)] }))
    generalize h1'.push { cls:=Value.type "range",data:=Data.fields #[Value.int 0 tk1,Value.int (Int.ofNat n) t,Value.int 1 (tk1 + 1)] } = h2 at *
    have hp:=Qw h2 { cls:=.type "range_iterator",data:=.fields #[rawInt 0,rawInt (n:Int),rawInt 1] }
    refine kk _ σ1 _ (tk1 + 1 + 1) (o2.grow (kp _ _)) (p2.grow o2 (kp _ _)) ?_ (U4 o2 p2 rfl (kp _ _) hp (.inr (.inr rfl)) ⟨_,rfl⟩) ?_ (g2.trans (Aw.grow o2 (kp _ _)))
    · show IsRangeIter _ _ ((0:Nat):Int) ((n:Int) - ((0:Nat):Int)) 1
      have e1:((0:Nat):Int) = 0:=rfl
      rw [e1,Int.sub_zero]; exact hp
    · cases q:s.heap.get? h2.objs.size with
      | none=>rfl
      | some ob=>obtain ⟨o',e'⟩:=g2.dom _ _ q; rw [B8] at e'; cases e'
theorem zfq {target:Expr} {it:Value} {sb:List Stmt} {env:Env} {A:Around} {s:Shared} {R:Result→Shared→Prop}
    (h:wpAny (model pw w) A (pyNext it) (fun r s₁=>match r with
      | none=>R (.ok .next) s₁
      | some v=>wpAny (model pw w) A (letOwnedTupleGo target it v) (fun _ s₁'=>
          wpAny (model pw w) A (assign target env v) (fun _ s₂=>wpAny (model pw w) A (execs sb env) (fun f s₃=>match f with
            | .next | .cont=>codeAny (model pw w) A (.forLoop target it sb [] env) R s₃
            | .brk=>R (.ok .next) s₃
            | .ret v=>R (.ok (.ret v)) s₃) (notedBy (model pw w) A env fun e s'=>R (.error e) s') s₂) (notedBy (model pw w) A env fun e s'=>R (.error e) s') s₁') (notedBy (model pw w) A env fun e s'=>R (.error e) s') s₁) (notedBy (model pw w) A env fun e s'=>R (.error e) s') s):
    codeAny (model pw w) A (.forLoop target it sb [] env) R s:=by
  refine codeAny_of_tree ?_
  show wpAny _ A ((forTurn target it sb [] env).onRaise (fun x=>do noteFrame x env; theTreesLotGoes x)) _ _ s
  refine wpAny_noted ?_
  simp only [forTurn]
  refine wpAny_bind (wpAny_standAt (wpAny_bind (wpAny_onRaise (wpAny_mono h (fun r s₁ h₁=>?_) fun _ _ h'=>wpAny_standAt h'))))
  cases r with
  | none=>exact wpAny_pure ⟨rfl,codeAny_block (wpAny_pure h₁)⟩
  | some v=>
    refine wpAny_bind (wpAny_mono h₁ (fun _ s₁' h₁'=>?_) fun _ _ h'=>h')
    refine wpAny_bind (wpAny_mono h₁' (fun _ s₂ h₂=>wpAny_bind (wpAny_mono h₂ (fun f s₃ h₃=>?_) fun _ _ h'=>h')) fun _ _ h'=>h')
    cases f with
    | next=>exact wpAny_pure ⟨rfl,h₃⟩
    | cont=>exact wpAny_pure ⟨rfl,h₃⟩
    | brk=>exact wpAny_pure h₃
    | ret v=>exact wpAny_pure h₃
noncomputable def zsU (w:World) (nt:List (Str × NameKind)) (m:Nat) (e:Ax) (st:St) (it:It) (i:Nat) (body:(Env→Addr→Around→Sg→Shared→(Result→Shared→Prop)→Sg→Heap→St→Prop)):Prop:=
  ∀ env I A σ s (R:Result→Shared→Prop) σ₀ h₀ st₀,Rm A (2 * m + 3)→Ok w σ s.heap st→Ag w nt env e σ st s.heap→Um it i I σ st s.heap→Gd w I env σ st s.heap→h₀.get? I = none→Aw (E9 env) σ₀ h₀ st₀ σ s.heap st→body env I A σ s R σ₀ h₀ st₀
theorem ziI {t:Tg} {b:Sx} {target:Expr} {sb:List Stmt} (ht:SG w nt t target) (hb:SSs w nt b sb) (it:It) (hz:it ≠ .zip) (m:Nat) (c:Cal) (hc:Cx w m c) (ret:D→St→Ans) (next:Ax→St→Ans) (r:D × St):∀ (n i:Nat) (e:Ax) (st:St),
    Nat.rec (motive:=fun _=>Nat→Ax→St→Ans) (fun _ _ _=>none) (fun _ ih i e st=>nth st it i (next e st) fun d=>t c e d st fun e st=>b c e st ret fun e st=>ih (Nat.succ i) e st) n i e st = some r →
    (E3 (fun dv st'=>ret dv st' = some r) fun dv st'=>zsU w nt m e st it i fun env I A σ s R σ₀ h₀ st₀=>(∀ v σ' h' tk',Ok w σ' h' st'→Mine.R σ' st'.N h' v dv→Aw (E9 env) σ₀ h₀ st₀ σ' h' st'→R (.ok (.ret v)) { s with heap:=h',toks:=tk' })→codeAny (model pw w) A (.forLoop target (.ref I) sb [] env) R s) ∨
    (E3 (fun e' st'=>next e' st' = some r) fun e' st'=>zsU w nt m e st it i fun env I A σ s R σ₀ h₀ st₀=>(∀ σ' h' tk',Ok w σ' h' st'→Ag w nt env e' σ' st' h'→Aw (E9 env) σ₀ h₀ st₀ σ' h' st'→R (.ok .next) { s with heap:=h',toks:=tk' })→codeAny (model pw w) A (.forLoop target (.ref I) sb [] env) R s):=by
  intro n
  induction n with
  | zero=>intro i e st h; cases h
  | succ n ih=>
    intro i e st h
    rcases zdT h with ⟨hend,h1⟩ | ⟨d,his,h1⟩
    · refine .inr ⟨e,st,h1,fun env I A σ s R σ₀ h₀ st₀ rm o p x a hn g kk=>zfq ?_⟩
      refine zfI hz hend rm o p x a _ _ fun h' tk o' p' hk=>?_
      exact kk σ h' tk o' p' (g.aside_ hn hk)
    · obtain ⟨e1,st1,h2,t1⟩:=ht m c hc e d st _ r h1
      have step:∀ {env I A σ s R σ₀ h₀ st₀},Rm A (2 * m + 3)→Ok w σ s.heap st→Ag w nt env e σ st s.heap→Um it i I σ st s.heap→Gd w I env σ st s.heap→h₀.get? I = none→Aw (E9 env) σ₀ h₀ st₀ σ s.heap st →
          (∀ σ2 h2 tk2,Ok w σ2 h2 st1→Ag w nt env e1 σ2 st1 h2→Um it (i + 1) I σ2 st1 h2→Gd w I env σ2 st1 h2→Aw (E9 env) σ₀ h₀ st₀ σ2 h2 st1 →
            wpAny (model pw w) A (execs sb env) (fun f s₃=>match f with | .next | .cont=>codeAny (model pw w) A (.forLoop target (.ref I) sb [] env) R s₃ | .brk=>R (.ok .next) s₃ | .ret v=>R (.ok (.ret v)) s₃) (notedBy (model pw w) A env fun e s'=>R (.error e) s') { s with heap:=h2,toks:=tk2 }) →
          codeAny (model pw w) A (.forLoop target (.ref I) sb [] env) R s:=fun {env I A σ s R σ₀ h₀ st₀} rm o p x a hn g kk=>by
        refine zfq (zhk hz his rm o p x a _ _ fun v h' tk o' p' x' a' rv hk=>?_)
        refine zeZ a' ?_
        refine t1 env v A σ _ _ _ rm o' ⟨p',rv⟩ fun _ σ2 h2 tk2 o2 p2 g2=>?_
        obtain ⟨a2,k2⟩:=a'.stays o' p' g2
        exact kk σ2 h2 tk2 o2 p2 (x'.stays o' p' g2 k2) a2 ((g.aside_ hn hk).trans g2)
      rcases hb m c hc e1 st1 _ _ r h2 with ⟨dv,st2,h3,t2⟩ | ⟨e2,st2,h3,t2⟩
      · refine .inl ⟨dv,st2,h3,fun env I A σ s R σ₀ h₀ st₀ rm o p x a hn g kk=>step rm o p x a hn g fun σ2 h2 tk2 o2 p2 x2 a2 g2=>?_⟩
        refine t2 env A σ2 _ _ _ rm o2 p2 fun f σ3 h3 tk3 o3 q3 g3=>?_
        obtain ⟨v,rfl,rv⟩:=q3
        exact kk v σ3 h3 tk3 o3 rv (g2.trans g3)
      · rcases ih (Nat.succ i) e2 st2 h3 with ⟨dv,st3,h4,t3⟩ | ⟨e3,st3,h4,t3⟩
        · refine .inl ⟨dv,st3,h4,fun env I A σ s R σ₀ h₀ st₀ rm o p x a hn g kk=>step rm o p x a hn g fun σ2 h2 tk2 o2 p2 x2 a2 g2=>?_⟩
          refine t2 env A σ2 _ _ _ rm o2 p2 fun f σ3 h3 tk3 o3 q3 g3=>?_
          obtain ⟨rfl,p3⟩:=q3
          obtain ⟨a3,k3⟩:=a2.stays o2 p2 g3
          exact t3 env I A σ3 _ R σ₀ h₀ st₀ rm o3 p3 (x2.stays o2 p2 g3 k3) a3 hn (g2.trans g3) kk
        · refine .inr ⟨e3,st3,h4,fun env I A σ s R σ₀ h₀ st₀ rm o p x a hn g kk=>step rm o p x a hn g fun σ2 h2 tk2 o2 p2 x2 a2 g2=>?_⟩
          refine t2 env A σ2 _ _ _ rm o2 p2 fun f σ3 h3 tk3 o3 q3 g3=>?_
          obtain ⟨rfl,p3⟩:=q3
          obtain ⟨a3,k3⟩:=a2.stays o2 p2 g3
          exact t3 env I A σ3 _ R σ₀ h₀ st₀ rm o3 p3 (x2.stays o2 p2 g3 k3) a3 hn (g2.trans g3) kk
theorem Dh {t:Tg} {i:Sm It} {b:Sx} {target iter:Expr} {sb:List Stmt} {pos} (ht:SG w nt t target) (hi:SI w nt i iter) (hb:SSs w nt b sb) (hfs:autoParam (∀ env x,foldedSetIterable iter env x = pure x) tR):SS w nt (J3 t i b) (.For target iter sb [] pos):=fun m c hc e st ret next r h=>by
  obtain ⟨it,st1,h1,hz,t1⟩:=hi m c hc e st _ r h
  have front:∀ {env:Env} {A:Around} {σ:Sg} {s:Shared} {Q:Flow→Shared→Prop} {E:Value→Shared→Prop},Rm A (2 * m + 3)→Ok w σ s.heap st→Ag w nt env e σ st s.heap →
      (∀ I σ2 h2 tk2,Ok w σ2 h2 st1→Ag w nt env e σ2 st1 h2→Um it 0 I σ2 st1 h2→Gd w I env σ2 st1 h2→s.heap.get? I = none→Aw NoX σ s.heap st σ2 h2 st1→codeAny (model pw w) A (.forLoop target (.ref I) sb [] env) (fun r s'=>match r with | .ok f=>Q f s' | .error e=>cameBackBy (model pw w) A env E e s') { s with heap:=h2,toks:=tk2 }) →
      wpAny (model pw w) A (exec (.For target iter sb [] pos) env) Q E s:=fun {env A σ s Q E} rm o p kk=>by
    rw [exec_For]
    refine wpAny_bind (wpAny_standAt ?_)
    refine wpAny_bind (wpAny_mono (t1 env A σ s (fun it s2=>wpAny (model pw w) A (runOwn (Code.forLoop target it sb [] env) env) Q E s2) E rm o p fun I σ2 h2 tk2 o2 p2 x2 a2 hn g2=>wpAny_runOwn (kk I σ2 h2 tk2 o2 p2 x2 a2 hn g2)) (fun v s1 q=>?_) fun _ _ x=>x)
    rw [hfs]
    refine wpAny_bind (wpAny_pure (wpAny_bind (wpAny_standAt (wpAny_bind (wpAny_holding q)))))
  rcases ziI ht hb it hz m c hc ret next r LF 0 e st1 h1 with ⟨dv,st2,h2,t2⟩ | ⟨e2,st2,h2,t2⟩
  · refine .inl ⟨dv,st2,h2,fun env A σ s Q E rm o p kk=>front rm o p fun I σ2 h2' tk2 o2 p2 x2 a2 hn g2=>?_⟩
    exact t2 env I A σ2 _ _ σ s.heap st rm o2 p2 x2 a2 hn g2.any fun v σ' h' tk' o' rv g'=>kk _ σ' h' tk' o' ⟨v,rfl,rv⟩ g'
  · refine .inr ⟨e2,st2,h2,fun env A σ s Q E rm o p kk=>front rm o p fun I σ2 h2' tk2 o2 p2 x2 a2 hn g2=>?_⟩
    exact t2 env I A σ2 _ _ σ s.heap st rm o2 p2 x2 a2 hn g2.any fun σ' h' tk' o' p' g'=>kk _ σ' h' tk' o' ⟨rfl,p'⟩ g'
end
section
variable {w:World} {nt:List (Str × NameKind)}
noncomputable def Nt (ifs:List Expr) (env:Env) (b:Bool):Sem Bool:=forIn ifs b fun c r=>if r = true then do let ok ← isTrue c env (eval c env); pure (ForInStep.yield ok) else pure (ForInStep.yield r)
noncomputable def SF (w:World) (nt:List (Str × NameKind)) (t:Sm Bool) (ifs:List Expr):Prop:=
  ∀ m c,Cx w m c→∀ e st k r,t c e st k = some r→E3 (fun b st'=>k b st' = some r) fun b st'=>∀ env,Tr w (2 * m + 3) NoX st (Ag w nt env e) (Nt ifs env true) (fun σ st h v=>v = b) st'
theorem Ct:SF w nt (Bp true) []:=fun m c hc e st k r h=>⟨_,_,h,fun env A σ s Q E rm o p kk=>wpAny_pure (kk true σ s.heap s.toks o rfl o.refl)⟩
theorem zdG (ifs:List Expr) (env:Env):Nt ifs env false = pure false:=by
  unfold Nt
  induction ifs with
  | nil=>rfl
  | cons c r ih=>
    rw [List.forIn_cons,if_neg Bool.false_ne_true,pure_bind]
    exact ih
theorem zco {x xs:Sm Bool} {ex:Expr} {es:List Expr} (hx:ST w nt x ex) (hs:SF w nt xs es):SF w nt (B3 true x xs) (ex :: es):=fun m c hc e st k r h=>by
  obtain ⟨b,st1,h1,t1⟩:=hx m c hc e st _ r h
  rw [C2,Ri] at h1
  have eq:∀ env,Nt (ex :: es) env true = (isTrue ex env (eval ex env) >>= fun ok=>Nt es env ok):=fun env=>by
    unfold Nt
    rw [List.forIn_cons,if_pos rfl,bind_assoc]
    simp only [pure_bind]
  cases b with
  | true=>
    obtain ⟨b',st2,h2,t2⟩:=hs m c hc e st1 _ r h1
    refine ⟨b',st2,h2,fun env=>?_⟩
    rw [eq]
    exact Tr.bind (t1 env) Ag.stays fun a A σ s Q E rm o p kk=>by rw [p.2]; exact t2 env A σ s Q E rm o p.1 kk
  | false=>
    refine ⟨false,st1,h1,fun env=>?_⟩
    rw [eq]
    exact Tr.bind (t1 env) Ag.stays fun a A σ s Q E rm o p kk=>by rw [p.2,zdG]; exact wpAny_pure (kk _ σ s.heap s.toks o rfl o.refl)
noncomputable def SCb (w:World) (nt:List (Str × NameKind)) (cb:Cb) (T:Env→Value→Sem Unit):Prop:=
  ∀ m c,Cx w m c→∀ e acc st k r,cb c e acc st k = some r→E3 (fun e' st'=>k e' st' = some r) fun e' st'=>∀ env av,Tr w (2 * m + 3) (E9 env) st (fun σ st h=>Ag w nt env e σ st h ∧ R σ st.N h av (.ref acc)) (T env av) (fun σ st h _=>Ag w nt env e' σ st h) st'
noncomputable def zjS (full:Expr) (depth:Nat) (target:Expr) (ifs:List Expr) (T:Env→Value→Sem Unit):Prop:=∃ p:Pos,∀ it acc env,compTurn full depth it acc env = (do
      standAt p
      match ← pyNext it with
      | none=>pure (.done .next)
      | some v=>
        letOwnedTupleGo target it v
        assign target env v
        let ok ← Nt ifs env true
        if ok then
          T env acc
        again (.compLoop full depth it acc env))
noncomputable def Gi (elt:Expr) (env:Env) (acc:Value):Sem Unit:=do let _ ← call (.builtin "list.append") [acc,← eval elt env]
noncomputable def Yq (full:Expr) (depth:Nat) (iter:Expr) (env:Env) (acc:Value):Sem Unit:=do
  let x ← eval iter env
  standAt iter.pos
  let x ← foldedSetIterable iter env x
  let _ ← runOwn (.compStart full depth (← holding [x] (pyIter x)) acc env) env
theorem znS (elt target iter:Expr) (ifs:List Expr) (scope:Scope) (pos:Pos):zjS (.ListComp elt [⟨target,iter,ifs,0⟩] scope pos) 0 target ifs (Gi elt):=⟨iter.pos,fun _ _ _=>rfl⟩
theorem zqk (elt target iter target2 iter2:Expr) (ifs ifs2:List Expr) (scope:Scope) (pos:Pos):zjS (.ListComp elt [⟨target,iter,ifs,0⟩,⟨target2,iter2,ifs2,0⟩] scope pos) 0 target ifs (Yq (.ListComp elt [⟨target,iter,ifs,0⟩,⟨target2,iter2,ifs2,0⟩] scope pos) 1 iter2):=by
  refine ⟨iter.pos,fun it acc env=>?_⟩
  have e0:compTurn (.ListComp elt [⟨target,iter,ifs,0⟩,⟨target2,iter2,ifs2,0⟩] scope pos) 0 it acc env = (do
      standAt iter.pos
      match ← pyNext it with
      | none=>pure (.done .next)
      | some v=>
        letOwnedTupleGo target it v
        assign target env v
        let ok ← Nt ifs env true
        if ok then do
          let x ← eval iter2 env
          standAt iter2.pos
          let x ← foldedSetIterable iter2 env x
          let i ← holding [x] (pyIter x)
          let _ ← runOwn (.compStart (.ListComp elt [⟨target,iter,ifs,0⟩,⟨target2,iter2,ifs2,0⟩] scope pos) 1 i acc env) env
          again (.compLoop (.ListComp elt [⟨target,iter,ifs,0⟩,⟨target2,iter2,ifs2,0⟩] scope pos) 0 it acc env)
        else again (.compLoop (.ListComp elt [⟨target,iter,ifs,0⟩,⟨target2,iter2,ifs2,0⟩] scope pos) 0 it acc env)):=by with_unfolding_all rfl
  rw [e0]
  unfold Yq
  simp only [bind_assoc,pure_bind]
theorem zpI (elt target iter target2 iter2:Expr) (ifs ifs2:List Expr) (scope:Scope) (pos:Pos):zjS (.ListComp elt [⟨target,iter,ifs,0⟩,⟨target2,iter2,ifs2,0⟩] scope pos) 1 target2 ifs2 (Gi elt):=⟨iter2.pos,fun _ _ _=>rfl⟩
theorem zgW {x:Sm D} {elt:Expr} (hx:SX w nt x elt):SCb w nt (Bz x) (Gi elt):=fun m c hc e acc st k r h=>by
  obtain ⟨d,st1,h1,t1⟩:=hx m c hc e st _ r h
  obtain ⟨xs,hn,h2⟩:=B0.mp h1
  obtain ⟨hl,h3⟩:=Cc.mp h2
  obtain ⟨hb,h4⟩:=J5.mp h3
  rw [Qu] at h4
  refine ⟨e,_,h4,fun env av A σ s Q E rm o p kk=>?_⟩
  obtain ⟨p1,p2⟩:=p
  unfold Gi
  refine wpAny_bind (t1 env A σ s _ E rm o p1 fun v σ1 h1' tk1 o1 r1 g1=>?_)
  have p1':=Ag.stays _ _ _ _ _ _ o o1 g1 p1
  have p2':=p2.goes o g1
  cases p2' with
  | ref _ hlt=>
    obtain ⟨vs,hlist,rl⟩:=o1.obj _ _ hn
    have e1:vs.size = xs.length:=by simpa using rl.length
    refine wpAny_bind (wpAny_list_append_plain hlist (fun h' hl' hs=>wpAny_pure ?_) (by rw [e1]; exact Cd hl))
    have kI:Dy h1' h':=fun b' o' i' e'=>(hs.2 b' fun z=>by subst z; exact (o1.obj _ _ hn).notImm e' i').trans e'
    have ob:Lo w σ1 st1.N h' (σ1.a acc) (.list (xs ++ [d])):=⟨_,hl',by rw [Array.toList_push]; exact RL.app (.cons (r1.mono (.refl _ _) (Nat.le_refl _) kI) .nil) (rl.mono (.refl _ _) (Nat.le_refl _) kI)⟩
    have g2:Aw NoX σ1 h1' st1 σ1 h' (st1.put acc (.list (xs ++ [d]))):=Aw.upd_ o1 hb hn hs ob
    exact kk () σ1 h' tk1 (o1.upd hn hs ob) (Ag.stays _ _ _ _ _ _ o1 (o1.upd hn hs ob) g2 p1') (g1.trans g2).any
theorem zaK {full target:Expr} {depth:Nat} {ifs:List Expr} {T:Env→Value→Sem Unit} (hT:zjS full depth target ifs T) {it acc:Value} {env:Env} {A:Around} {s:Shared} {R:Result→Shared→Prop} (hfr:∀ it acc env,(Code.compLoop full depth it acc env).isFrame = false) (hq:∀ it acc env,(Code.compLoop full depth it acc env).quiet = true)
    (hden:A.under (.compLoop full depth it acc env) = A)
    (h:wpAny (model pw w) A (pyNext it) (fun r s₁=>match r with
      | none=>R (.ok .next) s₁
      | some v=>wpAny (model pw w) A (letOwnedTupleGo target it v) (fun _ s₁'=>
          wpAny (model pw w) A (assign target env v) (fun _ s₂=>wpAny (model pw w) A (Nt ifs env true) (fun ok s₃=>if ok then wpAny (model pw w) A (T env acc) (fun _ s₄=>codeAny (model pw w) A (.compLoop full depth it acc env) R s₄) (notedBy (model pw w) A env fun e s'=>R (.error e) s') s₃
            else codeAny (model pw w) A (.compLoop full depth it acc env) R s₃) (notedBy (model pw w) A env fun e s'=>R (.error e) s') s₂) (notedBy (model pw w) A env fun e s'=>R (.error e) s') s₁') (notedBy (model pw w) A env fun e s'=>R (.error e) s') s₁) (notedBy (model pw w) A env fun e s'=>R (.error e) s') s):
    codeAny (model pw w) A (.compLoop full depth it acc env) R s:=by
  refine codeAny_of_tree ?_
  rw [hden]
  have den:(model pw w).den (.compLoop full depth it acc env) = (compTurn full depth it acc env).onRaise (fun x=>do noteFrame x env; theTreesLotGoes x):=by
    show (if (Code.compLoop full depth it acc env).isFrame then _ else _) = _
    rw [hfr,if_neg Bool.false_ne_true]
  rw [den]
  refine wpAny_noted ?_
  obtain ⟨p,hp⟩:=hT
  rw [hp]
  refine wpAny_bind (wpAny_standAt (wpAny_bind (wpAny_mono h (fun r s₁ h₁=>?_) fun _ _ h'=>h')))
  cases r with
  | none=>exact wpAny_pure h₁
  | some v=>
    refine wpAny_bind (wpAny_mono h₁ (fun _ s₁' h₁'=>?_) fun _ _ h'=>h')
    refine wpAny_bind (wpAny_mono h₁' (fun _ s₂ h₂=>wpAny_bind (wpAny_mono h₂ (fun ok s₃ h₃=>?_) fun _ _ h'=>h')) fun _ _ h'=>h')
    cases ok with
    | false=>exact wpAny_pure ⟨hq _ _ _,h₃⟩
    | true=>exact wpAny_bind (wpAny_mono h₃ (fun _ s₄ h₄=>wpAny_pure ⟨hq _ _ _,h₄⟩) fun _ _ h'=>h')
noncomputable def zjY (w:World) (nt:List (Str × NameKind)) (m:Nat) (full:Expr) (depth:Nat) (it:It) (i:Nat) (e:Ax) (acc:Nat) (st:St) (e':Ax) (st':St):Prop:=
  ∀ env I av A σ s (R:Result→Shared→Prop) σ₀ h₀ st₀,Rm A (2 * m + 3)→Ok w σ s.heap st→Ag w nt env e σ st s.heap→Mine.R σ st.N s.heap av (.ref acc)→Um it i I σ st s.heap→Gd w I env σ st s.heap→h₀.get? I = none→Aw (E9 env) σ₀ h₀ st₀ σ s.heap st →
    (∀ σ' h' tk',Ok w σ' h' st'→Ag w nt env e' σ' st' h'→Mine.R σ' st'.N h' av (.ref acc)→Aw (E9 env) σ₀ h₀ st₀ σ' h' st'→R (.ok .next) { s with heap:=h',toks:=tk' })→codeAny (model pw w) A (.compLoop full depth (.ref I) av env) R s
structure Er (full:Expr) (depth:Nat):Prop where
  fr:∀ it acc env,(Code.compLoop full depth it acc env).isFrame = false
  qu:∀ it acc env,(Code.compLoop full depth it acc env).quiet = true
  un:∀ A it acc env,Around.under A (.compLoop full depth it acc env) = A
theorem Xm {t:Tg} {ts:Sm Bool} {cb:Cb} {target full:Expr} {depth:Nat} {ifs:List Expr} {T:Env→Value→Sem Unit} (hc0:Er full depth) (hT:zjS full depth target ifs T) (ht:SG w nt t target) (hs:SF w nt ts ifs) (hb:SCb w nt cb T) (it:It) (hz:it ≠ .zip) (m:Nat) (c:Cal) (hc:Cx w m c) (acc:Nat) (kk:Ax→St→Ans) (r:D × St):∀ (n i:Nat) (e:Ax) (st:St),
    Nat.rec (motive:=fun _=>Nat→Ax→St→Ans) (fun _ _ _=>none) (fun _ ih i e st=>nth st it i (kk e st) fun d=>t c e d st fun e st=>ts c e st fun ok st=>ifB ok (cb c e acc st fun e st=>ih (Nat.succ i) e st) (ih (Nat.succ i) e st)) n i e st = some r →
    E3 (fun e' st'=>kk e' st' = some r) fun e' st'=>zjY w nt m full depth it i e acc st e' st':=by
  intro n
  induction n with
  | zero=>intro i e st h; cases h
  | succ n ih=>
    intro i e st h
    rcases zdT h with ⟨hend,h1⟩ | ⟨d,his,h1⟩
    · refine ⟨e,st,h1,fun env I av A σ s R σ₀ h₀ st₀ rm o p ra x a hn g k=>zaK hT hc0.fr hc0.qu (hc0.un _ _ _ _) ?_⟩
      refine zfI hz hend rm o p x a _ _ fun h' tk o' p' hk=>?_
      exact k σ h' tk o' p' (ra.mono (.refl _ _) (Nat.le_refl _) fun b ob i' e'=>hk b ob (fun z=>by subst z; exact a.notImm _ e' i') e') (g.aside_ hn hk)
    · obtain ⟨e1,st1,h2,t1⟩:=ht m c hc e d st _ r h1
      obtain ⟨b,st2,h3,t2⟩:=hs m c hc e1 st1 _ r h2
      rw [C2] at h3
      have step:∀ {env I av A σ s R σ₀ h₀ st₀},Rm A (2 * m + 3)→Ok w σ s.heap st→Ag w nt env e σ st s.heap→Mine.R σ st.N s.heap av (.ref acc)→Um it i I σ st s.heap→Gd w I env σ st s.heap→h₀.get? I = none→Aw (E9 env) σ₀ h₀ st₀ σ s.heap st →
          (∀ σ2 h2 tk2,Ok w σ2 h2 st2→Ag w nt env e1 σ2 st2 h2→Mine.R σ2 st2.N h2 av (.ref acc)→Um it (i + 1) I σ2 st2 h2→Gd w I env σ2 st2 h2→Aw (E9 env) σ₀ h₀ st₀ σ2 h2 st2 →
            (if b then wpAny (model pw w) A (T env av) (fun _ s₄=>codeAny (model pw w) A (.compLoop full depth (.ref I) av env) R s₄) (notedBy (model pw w) A env fun e s'=>R (.error e) s') { s with heap:=h2,toks:=tk2 }
            else codeAny (model pw w) A (.compLoop full depth (.ref I) av env) R { s with heap:=h2,toks:=tk2 })) →
          codeAny (model pw w) A (.compLoop full depth (.ref I) av env) R s:=fun {env I av A σ s R σ₀ h₀ st₀} rm o p ra x a hn g k=>by
        refine zaK hT hc0.fr hc0.qu (hc0.un _ _ _ _) (zhk hz his rm o p x a _ _ fun v h' tk o' p' x' a' rv hk=>?_)
        refine zeZ a' ?_
        have ra':Mine.R σ st.N h' av (.ref acc):=ra.mono (.refl _ _) (Nat.le_refl _) fun b ob i' e'=>hk b ob (fun z=>by subst z; exact a.notImm _ e' i') e'
        refine t1 env v A σ _ _ _ rm o' ⟨p',rv⟩ fun _ σ2 h2 tk2 o2 p2 g2=>?_
        obtain ⟨a2,k2⟩:=a'.stays o' p' g2
        refine t2 env A σ2 _ _ _ rm o2 p2 fun ok σ3 h3' tk3 o3 q3 g3=>?_
        subst q3
        obtain ⟨a3,k3⟩:=a2.stays o2 p2 g3.any
        exact k σ3 h3' tk3 o3 (Ag.stays _ _ _ _ _ _ o2 o3 g3 p2) ((ra'.goesL p' o' g2).goes o2 g3) ((x'.stays o' p' g2 k2).stays o2 p2 g3.any k3) a3 (((g.aside_ hn hk).trans g2).trans g3.any)
      cases b with
      | false=>
        obtain ⟨e',st',h4,t4⟩:=ih (Nat.succ i) e1 st2 h3
        refine ⟨e',st',h4,fun env I av A σ s R σ₀ h₀ st₀ rm o p ra x a hn g k=>step rm o p ra x a hn g fun σ2 h2 tk2 o2 p2 ra2 x2 a2 g2=>?_⟩
        exact t4 env I av A σ2 _ R σ₀ h₀ st₀ rm o2 p2 ra2 x2 a2 hn g2 k
      | true=>
        obtain ⟨e3,st3,h4,t3⟩:=hb m c hc e1 acc st2 _ r h3
        obtain ⟨e',st',h5,t4⟩:=ih (Nat.succ i) e3 st3 h4
        refine ⟨e',st',h5,fun env I av A σ s R σ₀ h₀ st₀ rm o p ra x a hn g k=>step rm o p ra x a hn g fun σ2 h2 tk2 o2 p2 ra2 x2 a2 g2=>?_⟩
        refine t3 env av A σ2 _ _ _ rm o2 ⟨p2,ra2⟩ fun _ σ3 h3 tk3 o3 p3 g3=>?_
        obtain ⟨a3,k3⟩:=a2.stays o2 p2 g3
        exact t4 env I av A σ3 _ R σ₀ h₀ st₀ rm o3 p3 (ra2.goesL p2 o2 g3) (x2.stays o2 p2 g3 k3) a3 hn (g2.trans g3) k
end
section
variable {w:World} {nt:List (Str × NameKind)}
structure Gg (full:Expr) (depth:Nat):Prop where
  na:((clausesOf full)[depth]?).elim false (·.is_async != 0) = false
  fr:∀ it acc env,(Code.compStart full depth it acc env).isFrame = false
  un:∀ A it acc env,Around.under A (.compStart full depth it acc env) = A
theorem zaq {full:Expr} {depth:Nat} (hS:Gg full depth) (hc:Er full depth) {it acc:Value} {env:Env} {A:Around} {s:Shared} {R:Result→Shared→Prop}
    (h0:codeAny (model pw w) A (.compLoop full depth it acc env) R s) (h:wpAny (model pw w) A (pyIter it) (fun it' s'=>codeAny (model pw w) A (.compLoop full depth it' acc env) R s') (notedBy (model pw w) A env fun x s'=>R (.error x) s') s):
    codeAny (model pw w) A (.compStart full depth it acc env) R s:=by
  refine codeAny_of_tree ?_
  rw [hS.un]
  have den:(model pw w).den (.compStart full depth it acc env) = (compStart full depth it acc env).onRaise (fun x=>do noteFrame x env; standAt theWindowsPlace):=by
    show (if (Code.compStart full depth it acc env).isFrame then _ else _) = _
    rw [hS.fr,if_neg Bool.false_ne_true]
  rw [den]
  refine wpAny_notedAt ?_
  unfold compStart
  rw [hS.na,if_neg Bool.false_ne_true]
  show wpAny _ _ (ask >>= _) _ _ s
  refine wpAny_bind (wpAny_askSetting (wpAny_ite ?_))
  split
  · first
      | exact wpAny_bind (wpAny_pure (wpAny_pure (And.intro (hc.qu _ _ _) h0)))
      | exact wpAny_pure (And.intro (hc.qu _ _ _) h0)
  · refine wpAny_bind (wpAny_rule ?_)
    have tail:wpAny (model pw w) A (pyIter it >>= fun it'=>again (.compLoop full depth it' acc env)) (fun fin s'=>match fin with | .done f=>R (.ok f) s' | .again c'=>c'.quiet = true ∧ codeAny (model pw w) A c' R s') (notedBy (model pw w) A env fun x s'=>R (.error x) s') s:=
      wpAny_bind (wpAny_mono h (fun it' s' h'=>wpAny_pure (And.intro (hc.qu _ _ _) h')) fun _ _ x=>x)
    cases q:(clausesOf full)[depth]? with
    | none=>exact tail
    | some g=>exact wpAny_bind (wpAny_standAt tail)
theorem zd9 {it:It} {i:Nat} {I:Addr} {σ:Sg} {st:St} {s:Shared} {A:Around} {Q:Value→Shared→Prop} {E:Value→Shared→Prop} (hz:it ≠ .zip) (x:Um it i I σ st s.heap) (k:Q (.ref I) s):wpAny (model pw w) A (pyIter (.ref I)) Q E s:=by
  cases it with
  | zip=>exact absurd rfl hz
  | range n=>exact wpAny_pyIter_rangeiter x k
  | of d=>
    cases d with
    | ref n=>exact wpAny_pyIter_listiter x.2 k
    | tup xs=>obtain ⟨t,_,ht⟩:=x; exact wpAny_pyIter_tupleiter ht k
    | _=>exact x.elim
theorem zlR {i:Sm It} {l:It→Cb} {full iter:Expr} {depth:Nat} (hS:Gg full depth) (hC:Er full depth) (hi:SI w nt i iter) (hfs:∀ env x,foldedSetIterable iter env x = pure x)
    (hl:∀ (it:It),it ≠ .zip→∀ m c,Cx w m c→∀ e acc st k r,l it c e acc st k = some r→E3 (fun e' st'=>k e' st' = some r) fun e' st'=>zjY w nt m full depth it 0 e acc st e' st'):
    SCb w nt (zdU i l) (Yq full depth iter):=fun m c hc e acc st k r h=>by
  obtain ⟨it,st1,h1,hz,t1⟩:=hi m c hc e st _ r h
  obtain ⟨e',st',h2,t2⟩:=hl it hz m c hc e acc st1 k r h1
  refine ⟨e',st',h2,fun env av A σ s Q E rm o p kk=>?_⟩
  obtain ⟨p1,p2⟩:=p
  unfold Yq
  refine wpAny_bind (wpAny_mono (t1 env A σ s (fun iv s2=>wpAny (model pw w) A (runOwn (.compStart full depth iv av env) env >>= fun _=>pure ()) Q E s2) E rm o p1 fun I σ2 h2 tk2 o2 q2 x2 a2 hn g2=>?_) (fun v s1 q=>?_) fun _ _ x=>x)
  · have ra:=p2.goes o g2
    have loop:codeAny (model pw w) A (.compLoop full depth (.ref I) av env) (fun r s'=>match r with | .ok f=>wpAny (model pw w) A (pure ():Sem Unit) Q E s' | .error e=>cameBackBy (model pw w) A env E e s') { s with heap:=h2,toks:=tk2 }:=
      t2 env I av A σ2 _ _ σ s.heap st rm o2 q2 ra x2 a2 hn g2.any fun σ' h' tk' o' p' _ g'=>wpAny_pure (kk () σ' h' tk' o' p' g')
    exact wpAny_bind (wpAny_runOwn (zaq hS hC loop (zd9 hz x2 loop)))
  · refine wpAny_bind (wpAny_standAt ?_)
    rw [hfs]
    exact wpAny_bind (wpAny_pure (wpAny_bind (wpAny_holding q)))
theorem U3 {env:Env}:∀ (names:List (Str × NameKind)) (acc:List (Str × Addr)),(∀ x ∈ names,x.2 = .free→∃ c,env.cells.lookup x.1 = some c)→(∀ p ∈ acc,env.cells.lookup p.1 = some p.2) →
    ∃ cl,(forIn names acc fun (x:Str × NameKind) cs=>if (x.2 == .free) = true then do let c ← cellOf env x.1; pure (ForInStep.yield ((x.1,c) :: cs)) else pure (ForInStep.yield cs):Sem (List (Str × Addr))) = pure cl ∧ (∀ p ∈ cl,env.cells.lookup p.1 = some p.2) ∧ (∀ x ∈ names,x.2 = .free→∃ c,(x.1,c) ∈ cl) ∧ (∀ p ∈ acc,p ∈ cl)
  | [],acc,_,ha=>⟨acc,rfl,ha,by intro x hx; simp at hx,fun _ h=>h⟩
  | (n,k) :: r,acc,h,ha=>by
    rw [List.forIn_cons]
    by_cases q:k = .free
    · subst q
      obtain ⟨c,hc⟩:=h (n,.free) List.mem_cons_self rfl
      obtain ⟨cl,e1,e2,e3,e4⟩:=U3 r ((n,c) :: acc) (fun x hx=>h x (List.mem_cons_of_mem _ hx)) (fun p hp=>by
        rcases List.mem_cons.mp hp with e | hp
        · subst e; exact hc
        · exact ha p hp)
      refine ⟨cl,?_,e2,fun x hx hf=>?_,fun p hp=>e4 p (List.mem_cons_of_mem _ hp)⟩
      · rw [if_pos (by rfl)]
        have:cellOf env n = pure c:=by unfold cellOf; rw [hc]
        rw [this,pure_bind,pure_bind]
        exact e1
      · rcases List.mem_cons.mp hx with e | hx
        · subst e; exact ⟨c,e4 _ List.mem_cons_self⟩
        · exact e3 x hx hf
    · obtain ⟨cl,e1,e2,e3,e4⟩:=U3 r acc (fun x hx=>h x (List.mem_cons_of_mem _ hx)) ha
      refine ⟨cl,?_,e2,fun x hx hf=>?_,e4⟩
      · rw [if_neg (by simpa using q),pure_bind]
        exact e1
      · rcases List.mem_cons.mp hx with e | hx
        · subst e; exact absurd hf q
        · exact e3 x hx hf
theorem zcJ {scope:Scope} {env:Env} (h:∀ x ∈ scope.names,x.2 = .free→∃ c,env.cells.lookup x.1 = some c):∃ cl,closureFor scope env = pure cl ∧ ∀ n,(n,NameKind.free) ∈ scope.names→cl.lookup n = env.cells.lookup n:=by
  obtain ⟨cl,e1,e2,e3,_⟩:=U3 (env:=env) scope.names [] h (fun _ hp=>by cases hp)
  refine ⟨cl,?_,fun n hn=>?_⟩
  · exact (congrArg (fun t:Sem (List (Str × Addr))=>t >>= fun cs=>pure cs) e1).trans (pure_bind _ _)
  · obtain ⟨c,hc⟩:=e3 _ hn rfl
    cases q:cl.lookup n with
    | none=>
      rw [List.lookup_eq_none_iff] at q
      exact absurd (q _ hc) (by simp)
    | some c'=>exact (e2 _ (mem_of_lookup q)).symm
end
section
variable {w:World} {nt:List (Str × NameKind)}
noncomputable def Ow (nt ns:List (Str × NameKind)):List (Str × NameKind):=ns.map fun p=>if (p.2 == NameKind.free && nt.lookup p.1 == some NameKind.cell) = true then (p.1,.cell) else p
theorem zdO {env:Env} {e:Ax} {σ:Sg} {st:St} {h:Heap} (x:Ag w nt env e σ st h) (scope:Scope):(relabel scope env).names = Ow nt scope.names:=by
  show List.map _ _ = List.map _ _
  congr 1
  funext p
  obtain ⟨n,k⟩:=p
  show (if (k == .free && env.scope.kind == .function && env.kindOf n == some .cell) = true then _ else _) = _
  rw [x.kind]
  unfold Env.kindOf
  rw [x.names]
  simp only [BEq.rfl,Bool.and_true]
structure zaW (nt:List (Str × NameKind)) (scope:Scope) (cs:List (Nat × Nat)):Prop where
  kind:scope.kind = .function
  loc:∀ x ∈ scope.names,x.2 = .local→scope.names.lookup x.1 = some .local
  nocell:∀ x ∈ scope.names,x.2 ≠ .cell
  cap:∀ p ∈ cs,∃ x,scope.names[p.1]? = some (x,.free) ∧ nt[p.2]? = some (x,.cell)
  free:∀ x ∈ scope.names,x.2 = .free→∃ p ∈ cs,nt[p.2]? = some (x.1,.cell)
noncomputable def Kr:NameKind→NameKind→Bool
  | .local,.local=>true | .cell,.cell=>true | .free,.free=>true | _,_=>false
theorem Vs {a b:NameKind} (h:Kr a b = true):a = b:=by cases a <;> cases b <;> first | rfl | cases h
noncomputable def Sv (nt ns:List (Str × NameKind)) (cs:List (Nat × Nat)):Bool:=
  ns.all (fun x=>!Kr x.2 .cell && (!Kr x.2 .local || (ns.lookup x.1).elim false (Kr .local)) && (!Kr x.2 .free || cs.any fun p=>(nt[p.2]?).elim false fun y=>y.1 == x.1 && Kr y.2 .cell)) &&
  cs.all fun p=>(ns[p.1]?).elim false fun x=>Kr x.2 .free && (nt[p.2]?).elim false fun y=>y.1 == x.1 && Kr y.2 .cell
theorem W0 {α:Type} {o:Option α} {f:α→Bool} (h:o.elim false f = true):∃ a,o = some a ∧ f a = true:=by cases o with | none=>cases h | some a=>exact ⟨a,rfl,h⟩
theorem zaW.of {scope:Scope} {cs:List (Nat × Nat)} (hk:scope.kind = .function) (h:Sv nt scope.names cs = true):zaW nt scope cs:=by
  unfold Sv at h
  simp only [Bool.and_eq_true,List.all_eq_true,Bool.or_eq_true,Bool.not_eq_true',List.any_eq_true] at h
  obtain ⟨h1,h2⟩:=h
  refine ⟨hk,fun x hx hl=>?_,fun x hx e=>?_,fun p hp=>?_,fun x hx hf=>?_⟩
  · rcases (h1 x hx).1.2 with q | q
    · rw [hl] at q; cases q
    · obtain ⟨k,e,q⟩:=W0 q
      rw [e,Vs q]
  · have:=(h1 x hx).1.1
    rw [e] at this; cases this
  · obtain ⟨x,e,q⟩:=W0 (h2 p hp)
    simp only [Bool.and_eq_true] at q
    obtain ⟨y,e',q'⟩:=W0 q.2
    simp only [Bool.and_eq_true,beq_iff_eq] at q'
    refine ⟨x.1,?_,?_⟩
    · rw [e]; exact congrArg some (Prod.ext rfl (Vs q.1))
    · rw [e']; exact congrArg some (Prod.ext q'.1 (Vs q'.2))
  · rcases (h1 x hx).2 with q | ⟨p,hp,q⟩
    · rw [hf] at q; cases q
    · obtain ⟨y,e',q'⟩:=W0 q
      simp only [Bool.and_eq_true,beq_iff_eq] at q'
      exact ⟨p,hp,by rw [e']; exact congrArg some (Prod.ext q'.1 (Vs q'.2))⟩
theorem Qm {cells:List (Nat × Nat)}:∀ {cs:List (Nat × Nat)} {k:List (Nat × Nat)→Ans} {r:D × St},Ox cells cs k = some r →
    ∃ l,k l = some r ∧ (∀ i c,lk l i = some c→∃ j,(i,j) ∈ cs ∧ lk cells j = some c) ∧ ∀ p ∈ cs,∃ c,lk cells p.2 = some c
  | [],k,r,h=>⟨[],h,(fun i c e=>nomatch (show (none:Option Nat) = some c from e)),by intro p hp; simp at hp⟩
  | p :: cs,k,r,h=>by
    obtain ⟨j,hj,h1⟩:=Bf.mp h
    obtain ⟨l,h2,h3,h4⟩:=Qm (cs:=cs) (k:=fun l=>k ((p.1,j) :: l)) h1
    refine ⟨_,h2,fun i c e=>?_,fun q hq=>?_⟩
    · change ifB (Nat.beq p.1 i) (some j) (lk l i) = some c at e
      rw [C2] at e
      split at e
      · next hb=>
        cases e
        have:=Nat.eq_of_beq_eq_true hb
        subst this
        exact ⟨p.2,List.mem_cons_self,hj⟩
      · obtain ⟨j',m,q⟩:=h3 i c e
        exact ⟨j',List.mem_cons_of_mem _ m,q⟩
    · rcases List.mem_cons.mp hq with rfl | hq
      · exact ⟨j,hj⟩
      · exact h4 q hq
theorem zfe {α:Type} (n i:Nat) (d:α):Bi (nones n) i ≠ some d:=by
  intro e
  rw [Rk,Zz,List.getElem?_replicate] at e
  split at e <;> cases e
noncomputable def Mk (w:World) (nc:List (Str × NameKind)) (full:Expr) (depth:Nat) (l:It→Cb):Prop:=
  ∀ (it:It),it ≠ .zip→∀ m c,Cx w m c→∀ e acc st k r,l it c e acc st k = some r→E3 (fun e' st'=>k e' st' = some r) fun e' st'=>zjY w nc m full depth it 0 e acc st e' st'
theorem zfT {ns:List (Str × NameKind)} {i:Nat} {x:Str} (e:ns[i]? = some (x,.free)) (e':nt.lookup x = some .cell):(Ow nt ns)[i]? = some (x,.cell):=by
  unfold Ow
  rw [List.getElem?_map,e]
  show some (if (NameKind.free == NameKind.free && nt.lookup x == some NameKind.cell) = true then _ else _) = _
  rw [e']; rfl
noncomputable def zal (scope:Scope) (cl:List (Str × Addr)) (C:Addr) (env:Env):Env:={ (newEnv scope C env.globals cl env.qual none .none (some env) builtinsNs:Env) with scope:=relabel scope env }
structure zdV (w:World) (env:Env) (h₀:Heap) (C:Addr) (σ:Sg) (h:Heap) (st:St):Prop where
  was:h₀.get? C = none
  loc:C ≠ env.locals
  free:∀ n o,st.get n = some o→σ.a n ≠ C
  top:(HT w.params).get? C = none
  ns:∃ m,h.Ns C m
theorem zeb {n:Nat} {cs:List (Nat × Nat)} {i:Sm It} {l:It→Cb} {full iter elt:Expr} {scope:Scope} {pos:Pos} {g:Comprehension} {gs:List Comprehension} (hn:Ae nt) (hcl:clausesOf full = g :: gs) (hg:g.iter = iter) (hS:Gg full 0) (hC:Er full 0) (hco:zaW nt scope cs)
    (hi:SI w nt i iter) (hl:Mk w (Ow nt scope.names) full 0 l) (hfs:∀ env x,foldedSetIterable iter env x = pure x) {m:Nat} {c:Cal} (hc:Cx w m c) {e:Ax} {st:St} {k:Nat→St→Ans} {r:D × St}
    (h:(i c e st fun it st=>Dg st (.list []) fun acc st=>Ox e.cells cs fun cells=>l it c ⟨nones n,cells⟩ acc st fun _ st=>k acc st) = some r):
    E3 (fun acc st'=>k acc st' = some r) fun acc st'=>∀ env (A:Around) σ (s:Shared) (Q:Value→Shared→Prop) (E:Value→Shared→Prop) use,Rm A (2 * m + 3)→Ok w σ s.heap st→Ag w nt env e σ st s.heap →
      (∀ σ' h' tk' C av,Ok w σ' h' st'→Ag w nt env e σ' st' h'→R σ' st'.N h' av (.ref acc)→Aw NoX σ s.heap st σ' h' st'→zdV w env s.heap C σ' h' st'→compPost (model pw w) A E use Q av C (.ok .next) { s with heap:=h',toks:=tk' }) →
      wpAny (model pw w) A (comprehension full scope env pos (PySem.newList []) false (eval iter env) use) Q E s:=by
  obtain ⟨it,st1,h1,hz,t1⟩:=hi m c hc e st _ r h
  obtain ⟨hN,h2⟩:=Dm.mp h1
  obtain ⟨cells,h3,hcells,hcs⟩:=Qm h2
  obtain ⟨e',st',h4,t4⟩:=hl it hz m c hc _ _ _ _ r h3
  refine ⟨st1.N,st',h4,fun env A σ s Q E use rm o p kk=>?_⟩
  have hfree:∀ x ∈ scope.names,x.2 = .free→∃ c,env.cells.lookup x.1 = some c:=fun x hx hf=>by
    obtain ⟨q,hq,e1⟩:=hco.free x hx hf
    obtain ⟨c',hc'⟩:=hcs q hq
    obtain ⟨_,y,e2,e3⟩:=p.cell _ _ hc'
    rw [e1] at e2; cases e2
    exact ⟨_,e3⟩
  obtain ⟨cl,hclos,hcl2⟩:=zcJ hfree
  subst hg
  refine wpAny_comprehension_free hcl (hfs env) hclos hco.kind hco.loc (t1 env A σ s _ E rm o p fun I σ1 h1' tk1 o1 p1 x1 a1 hI g1=>?_)
  obtain ⟨o2,g2,r2⟩:=Nz (X:=NoX) o1 (vs:=#[]) hN .nil
  have k2:∀ b ob,h1'.get? b = some ob→(h1'.push { cls:=.type "list",data:=.seq #[] }).get? b = some ob:=fun b ob e=>Heap.get?_push_of_some _ e
  refine wpAny_newList ?_ (Nat.zero_le _)
  have p2:=Ag.stays _ _ _ _ _ _ o1 o2 g2 p1
  obtain ⟨a2,_⟩:=a1.stays o1 p1 g2.any
  have x2:=x1.stays o1 p1 g2.any (fun ob e=>k2 _ _ e)
  generalize hH2:h1'.push { cls:=.type "list",data:=.seq #[] } = H2 at o2 g2 r2 p2 a2 x2 k2
  have hCn:H2.get? H2.objs.size = none:=B8 _
  refine wpAny_newFunctionEnv hco.nocell (fun _ hx=>by cases hx) (fun h3' hns hsb=>?_) hco.kind
  have k3:∀ b ob,H2.get? b = some ob→h3'.get? b = some ob:=fun b ob e=>by
    refine (hsb.2 b fun q=>?_).trans (Heap.get?_push_of_some _ e)
    subst q; rw [hCn] at e; cases e
  have o3:=o2.grow k3
  have g3:Aw NoX (more σ1 st1.N h1'.objs.size) H2 (st1.new (.list [])) (more σ1 st1.N h1'.objs.size) h3' (st1.new (.list [])):=Aw.grow o2 k3
  have p3:=Ag.stays _ _ _ _ _ _ o2 o3 g3 p2
  obtain ⟨a3,_⟩:=a2.stays o2 p2 g3.any
  have x3:=x2.stays o2 p2 g3.any (fun ob e=>k3 _ _ e)
  have r3:=r2.goes o2 g3
  have gAll:=(g1.trans g2).trans g3
  have hC0:s.heap.get? H2.objs.size = none:=by
    cases q:s.heap.get? H2.objs.size with
    | none=>rfl
    | some ob=>obtain ⟨o',e'⟩:=(g1.trans g2).dom _ _ q; rw [hCn] at e'; cases e'
  have hCl:H2.objs.size ≠ env.locals:=fun z=>by
    obtain ⟨m',⟨ob,_,_,q,_⟩,_⟩:=p2.ns
    rw [← z,hCn] at q; cases q
  have hCt:(HT w.params).get? H2.objs.size = none:=by
    cases q:(HT w.params).get? H2.objs.size with
    | none=>rfl
    | some ob=>have:=o2.top _ _ q; rw [hCn] at this; cases this
  have hIC:I ≠ H2.objs.size:=fun z=>by
    obtain ⟨ob,q,_⟩:=a2.cls
    rw [z,hCn] at q; cases q
  generalize hCe:H2.objs.size = C at *
  have pC:Ag w (Ow nt scope.names) (zal scope cl C env) ⟨nones n,cells⟩ (more σ1 st1.N h1'.objs.size) (st1.new (.list [])) h3':=by
    refine ⟨hco.kind,zdO p3 scope,⟨_,hns,fun i x d _ e=>absurd e (zfe _ _ _)⟩,fun n ob e z=>?_,hCt,fun i c' e=>?_,p.globals,p.builtins⟩
    · obtain ⟨ob',q⟩:=(o2.obj n ob e).there
      rw [show (more σ1 st1.N h1'.objs.size).a n = C from z,hCn] at q; cases q
    · obtain ⟨j,hj,e1⟩:=hcells i c' e
      obtain ⟨x,e2,e3⟩:=hco.cap _ hj
      obtain ⟨hlt,y,e4,e5⟩:=p3.cell j c' e1
      rw [e3] at e4; cases e4
      refine ⟨hlt,x,zfT e2 (Nx hn.apart e3),?_⟩
      show cl.lookup x = _
      rw [hcl2 x (List.mem_of_getElem? e2)]
      exact e5
  have aC:Gd w I (zal scope cl C env) (more σ1 st1.N h1'.objs.size) (st1.new (.list [])) h3':=⟨a3.free,a3.top,hIC,a3.cls⟩
  have loop:codeAny (model pw w) A (.compLoop full 0 (.ref I) (.ref h1'.objs.size) (zal scope cl C env)) (compPost (model pw w) A E use Q (.ref h1'.objs.size) C) { s with heap:=h3',toks:=tk1 + 0 }:=
    t4 _ I _ A _ _ _ σ s.heap st rm o3 pC r3 x3 aC hI gAll.any fun σ' h' tk' o' p' r' g'=>by
      have g'':Aw NoX σ s.heap st σ' h' st':=g'.less fun b ob hb e=>by
        have hb:b = C:=hb
        subst hb; rw [hC0] at e; cases e
      have pe:=Ag.stays _ _ _ _ _ _ o o' g'' p
      obtain ⟨m',q1,_⟩:=p'.ns
      refine kk σ' h' tk' C _ o' pe r' g'' ⟨hC0,hCl,p'.free,hCt,m',q1⟩
  exact zaq hS hC loop (zd9 hz x3 loop)
theorem zdV.ok {env:Env} {h₀ h h':Heap} {C:Addr} {σ:Sg} {st:St} (x:zdV w env h₀ C σ h st) (o:Ok w σ h st) (hs:Heap.SameBut C h h'):Ok w σ h' st:=by
  obtain ⟨m,hm⟩:=x.ns
  exact o.aside (fun ob e=>Mine.Ns.notImm hm e) x.top x.free fun b ob hb e=>(hs.2 b hb).trans e
theorem zdV.goes {env:Env} {h₀ h h':Heap} {C:Addr} {σ₀ σ:Sg} {st₀ st:St} {X:Addr→Prop} (x:zdV w env h₀ C σ h st) (g:Aw X σ₀ h₀ st₀ σ h st) (hs:Heap.SameBut C h h'):Aw X σ₀ h₀ st₀ σ h' st:=
  g.aside_ x.was fun b ob hb e=>(hs.2 b hb).trans e
theorem Ag.beside {nt:List (Str × NameKind)} {env:Env} {e:Ax} {σ:Sg} {st:St} {h h':Heap} {C:Addr} (x:Ag w nt env e σ st h) (hC:C ≠ env.locals) (hi:∀ o,h.get? C = some o→¬ Imm o) (hs:∀ b o,b ≠ C→h.get? b = some o→h'.get? b = some o):Ag w nt env e σ st h':=by
  obtain ⟨m,⟨ob,es,ep,ho,rest⟩,hr⟩:=x.ns
  refine ⟨x.kind,x.names,⟨m,⟨ob,es,ep,hs _ _ hC.symm ho,rest⟩,fun i y d e1 e2=>?_⟩,x.free,x.top,x.cell,x.globals,x.builtins⟩
  obtain ⟨v,hv,r⟩:=hr i y d e1 e2
  exact ⟨v,hv,r.mono (.refl _ _) (Nat.le_refl _) fun b ob i e=>hs b ob (fun z=>by subst z; exact hi _ e i) e⟩
theorem zo8 {n:Nat} {cs:List (Nat × Nat)} {i:Sm It} {l:It→Cb} {iter target elt:Expr} {ifs:List Expr} {gs:List Comprehension} {scope:Scope} {pos:Pos} (hn:Ae nt) (hS:Gg (.ListComp elt (⟨target,iter,ifs,0⟩ :: gs) scope pos) 0) (hC:Er (.ListComp elt (⟨target,iter,ifs,0⟩ :: gs) scope pos) 0) (hco:zaW nt scope cs)
    (hi:SI w nt i iter) (hl:Mk w (Ow nt scope.names) (.ListComp elt (⟨target,iter,ifs,0⟩ :: gs) scope pos) 0 l) (hfs:autoParam (∀ env x,foldedSetIterable iter env x = pure x) tR):SX w nt (Bw n cs i l) (.ListComp elt (⟨target,iter,ifs,0⟩ :: gs) scope pos):=fun m c hc e st k r h=>by
  obtain ⟨acc,st',h1,t1⟩:=zeb (elt:=elt) (pos:=firstIterPos (⟨target,iter,ifs,0⟩ :: gs) pos) hn rfl rfl hS hC hco hi hl hfs hc (k:=fun acc st=>k (.ref acc) st) h
  refine ⟨_,_,h1,fun env A σ s Q E rm o p kk=>?_⟩
  rw [eval_ListComp]
  refine t1 env A σ s Q E none rm o p fun σ' h' tk' C av o' p' r' g' x=>?_
  obtain ⟨m',hm⟩:=x.ns
  refine ⟨m',hm,fun h'' hs=>?_⟩
  have kI:Dy h' h'':=fun b ob i e=>(hs.2 b fun z=>by subst z; exact Mine.Ns.notImm hm e i).trans e
  exact kk av σ' h'' tk' (x.ok o' hs) (r'.mono (.refl _ _) (Nat.le_refl _) kI) (x.goes g' hs)
theorem zfD {n j:Nat} {y:Str} {py spos:Pos} {cs:List (Nat × Nat)} {i:Sm It} {l:It→Cb} {iter target elt:Expr} {ifs:List Expr} {gs:List Comprehension} {scope:Scope} {pos:Pos} (hn:Ae nt) (q:nt[j]? = some (y,.local)) (hsw:((py.line == pos.line) && !(scope.names.any fun p=>p.1 == y && (p.2 == .local || p.2 == .cell))) = true) (hS:Gg (.ListComp elt (⟨target,iter,ifs,0⟩ :: gs) scope pos) 0) (hC:Er (.ListComp elt (⟨target,iter,ifs,0⟩ :: gs) scope pos) 0) (hco:zaW nt scope cs)
    (hi:SI w nt i iter) (hl:Mk w (Ow nt scope.names) (.ListComp elt (⟨target,iter,ifs,0⟩ :: gs) scope pos) 0 l) (hfs:autoParam (∀ env x,foldedSetIterable iter env x = pure x) tR):SS w nt (Ap (A8 j) (Bw n cs i l)) (.Assign [.Name y py] (.ListComp elt (⟨target,iter,ifs,0⟩ :: gs) scope pos) spos):=fun m c hc e st ret next r h=>by
  obtain ⟨acc,st',h1,t1⟩:=zeb (elt:=elt) (pos:=firstIterPos (⟨target,iter,ifs,0⟩ :: gs) pos) hn rfl rfl hS hC hco hi hl hfs hc (k:=fun acc st=>next ⟨L9 (some (.ref acc)) e.vals j,e.cells⟩ st) h
  refine .inr ⟨_,_,h1,fun env A σ s Q E rm o p kk=>?_⟩
  have sw:swapsWith (.ListComp elt (⟨target,iter,ifs,0⟩ :: gs) scope pos) (some (.Name y py)) spos.line env = pure true:=by
    show pure (env.blockKind == .function && env.kindOf y == some .local && py.line == pos.line && !(scope.names.any fun p=>p.1 == y && (p.2 == .local || p.2 == .cell))) = pure true
    rw [p.kindOf hn q,show env.blockKind = .function from by unfold Env.blockKind; rw [p.kind]; rfl]
    simp only [BEq.rfl,Bool.true_and]
    rw [hsw]
  rw [exec_Assign_Name_used _ _ _ _ sw]
  refine wpAny_bind (wpAny_standAt (wpAny_bind ?_))
  show wpAny _ A (do let _ ← comprehension (.ListComp elt (⟨target,iter,ifs,0⟩ :: gs) scope pos) scope env _ (PySem.newList []) false (eval iter env) (some (assign (.Name y py) env))) _ _ s
  refine wpAny_bind (wpAny_mono (t1 env A σ s (fun _ s'=>Q .next s') E (some (assign (.Name y py) env)) rm o p fun σ' h' tk' C av o' p' r' g' x=>?_) (fun _ s' hq=>wpAny_pure (wpAny_pure hq)) fun _ _ e=>e)
  show wpAny _ _ (assign (.Name y py) env av) _ _ _
  refine wpAny_assign_Name (Ag.stored hn q o' p' r' fun h'' o'' p'' g''=>?_)
  have x':zdV w env s.heap C σ' h'' st':=by
    obtain ⟨m',ob,es,ep,ho,rest⟩:=x.ns
    refine ⟨x.was,x.loc,x.free,x.top,m',ob,es,ep,g''.kept _ _ ho (fun z=>x.loc z) (fun n o' q=>x.free n o' q),rest⟩
  obtain ⟨m',hm⟩:=x'.ns
  refine ⟨m',hm,fun h3 hs=>?_⟩
  have o3:=x'.ok o'' hs
  exact kk _ σ' h3 _ o3 ⟨rfl,p''.beside x.loc (fun ob e=>Mine.Ns.notImm hm e) fun b ob hb e=>(hs.2 b hb).trans e⟩ (x'.goes (g'.any.trans g'') hs)
theorem zes {j:Nat} {y:Str} {py spos:Pos} {x:Sm D} {elt:Expr} {gs:List Comprehension} {scope:Scope} {pos:Pos} (hn:Ae nt) (q:nt[j]? = some (y,.cell)) (hx:SX w nt x (.ListComp elt gs scope pos)):SS w nt (Ap (Ck j) x) (.Assign [.Name y py] (.ListComp elt gs scope pos) spos):=fun m c hc e st ret next r h=>by
  obtain ⟨dx,st1,h1,t1⟩:=hx m c hc e st _ r h
  obtain ⟨e2,st2,h2,t2⟩:=zjW hn (pos:=py) q m c hc e dx st1 _ r h1
  refine .inr ⟨e2,st2,h2,fun env A σ s Q E r o p k=>?_⟩
  have sw:swapsWithSole [.Name y py] (.ListComp elt gs scope pos) spos.line env = pure false:=by
    show pure (env.blockKind == .function && env.kindOf y == some .local && py.line == pos.line && !(scope.names.any fun p=>p.1 == y && (p.2 == .local || p.2 == .cell))) = pure false
    rw [p.kindOf hn q]
    have:((some NameKind.cell) == (some NameKind.local)) = false:=rfl
    rw [this,Bool.and_false]; rfl
  refine wpAny_Assign_stores ?_ sw rfl
  refine t1 env A σ s _ E r o p fun v σ' h' tk' o' rv g=>?_
  rw [Ei rfl]
  show wpAny _ _ (assign _ env v) _ _ _
  exact t2 env v A σ' _ _ E r o' ⟨Ag.stays _ _ _ _ _ _ o o' g p,rv⟩ fun _ σ'' h'' tk'' o'' q' g'=>k _ σ'' h'' tk'' o'' ⟨rfl,q'⟩ (g.any.trans g')
end
section
variable {w:World} {nt:List (Str × NameKind)}
noncomputable def zkV (s:Shared) (v:Value):Prop:=∀ a,v = .ref a→∃ ob,s.heap.get? a = some ob ∧ ob.dict = none
noncomputable def zav (w:World) (g:St→D→Ans→Ans) (T:String):Prop:=∀ st a x r,g st a x = some r→x = some r ∧ ∀ σ (s:Shared) v,Ok w σ s.heap st→R σ st.N s.heap v a→s.TypeIs v T ∧ zkV s v
theorem PlainList.noDict {s:Shared} {a:Addr} {vs:Array Value} (x:s.heap.PlainList a vs):s.TypeIs (.ref a) "list" ∧ zkV s (.ref a):=by
  obtain ⟨n,e⟩:=x
  exact ⟨⟨_,e,rfl⟩,fun b h=>by cases h; exact ⟨_,e,rfl⟩⟩
theorem zf8:zav w N6 "list":=fun st a x r h=>by
  obtain ⟨n,rfl,h1⟩:=Bt.mp h
  obtain ⟨xs,hn,h2⟩:=B0.mp h1
  refine ⟨h2,fun σ s v o p=>?_⟩
  obtain ⟨rfl,_⟩:=p.inv
  obtain ⟨vs,hl,_⟩:=o.obj _ _ hn
  exact PlainList.noDict hl
theorem zpC:zav w zhi "dict":=fun st a x r h=>by
  obtain ⟨n,rfl,h1⟩:=Bt.mp h
  obtain ⟨xs,hn,h2⟩:=Nr.mp h1
  refine ⟨h2,fun σ s v o p=>?_⟩
  obtain ⟨rfl,_⟩:=p.inv
  obtain ⟨vs,hl,_⟩:=o.obj _ _ hn
  obtain ⟨ob,es,ep,ho,hx,_⟩:=id hl
  exact ⟨hl.typeIs,fun b h=>by cases h; exact ⟨_,ho,hx.2.1⟩⟩
theorem zny:zav w zle "str":=fun st a x r h=>by
  obtain ⟨n,rfl,h1⟩:=Dk.mp h
  refine ⟨h1,fun σ s v o p=>?_⟩
  cases p
  exact ⟨typeIs_str _ _ _,fun b h=>by cases h⟩
theorem zmm {g:St→D→Ans→Ans} {f:Op2} {T id:String} {name:Str} {x y:Sm D} {ex ey:Expr} {apos pos} (pa:PlainAttrs T) (sl:Slot T name id) (ty:typeOf (.builtin id) = pure (.type "method_descriptor")) (hg:zav w g T) (hf:zfC w f (.builtin id)) (hx:SX w nt x ex) (hy:SX w nt y ey)
    (hs:autoParam (Ay ey = true) tR) (hline:autoParam ((apos.endLine == pos.line) = true) tR) (he:autoParam (∀ env,attributeBase ex name env (eval ex env) = eval ex env) tR)
    (hfew:autoParam (∀ env,((backTo pos (starEach [ey] env)).all (fun x=>!x.1) && (backToKw pos (keywordEach [] env)).all (fun x=>x.1.isSome) && decide (([ey]:List Expr).length + ([]:List Keyword).length + (if ([]:List Keyword).isEmpty then 0 else 1) < 30)) = true) tR):
    SX w nt (xM2 g f x y) (.Call (.Attribute ex name apos) [ey] [] pos):=fun m c hc e st k r h=>by
  obtain ⟨dx,st1,h1,t1⟩:=hx m c hc e st _ r h
  obtain ⟨h2,hT⟩:=hg _ _ _ _ h1
  obtain ⟨dy,st2,h3,t2⟩:=zgE (f:=fun b st=>f st dx b k) hy hs hc h2
  obtain ⟨dr,st3,h4,t3⟩:=hf st2 dx dy k r h3
  refine ⟨dr,st3,h4,fun env A σ s Q E rm o p kk=>?_⟩
  refine wpAny_Call_method_late (he env) (hfew env) hline rfl (t1 env A σ s _ E rm o p fun ov σ1 h1' tk1 o1 r1 g1=>?_)
  obtain ⟨hTy,hnd⟩:=hT σ1 { s with heap:=h1',toks:=tk1 } ov o1 r1
  refine ⟨T,id,pa,sl,ty,hTy,hnd,?_⟩
  have ns:Cj [ey] = true:=by show (Ay ey && true) = true; rw [hs]; rfl
  refine callWith_of (P:=fun _=>True) (by rw [E8 ns]; rfl) (Ea (v:=.builtin id) rfl) (Cz ns ?_)
  refine t2 env pos A σ1 _ _ E rm o1 (Ag.stays _ _ _ _ _ _ o o1 g1 p) fun vs σ2 h2' tk2 o2 r2 g2=>⟨trivial,?_⟩
  cases r2 with
  | cons r2 r3=>
    cases r3
    exact t3 (2 * m + 2) _ _ A σ2 _ Q E rm o2 ⟨r1.goes o1 g2,r2⟩ fun v' σ3 h3' tk3 o3 r4 g3=>kk v' σ3 h3' tk3 o3 r4 ((g1.trans g2).trans g3)
theorem zuz {g:St→D→Ans→Ans} {f:Op1} {T id:String} {name:Str} {x:Sm D} {ex:Expr} {apos pos} (pa:PlainAttrs T) (sl:Slot T name id) (ty:typeOf (.builtin id) = pure (.type "method_descriptor")) (hg:∀ st a k r,f st a k = some r→g st a (some r) = some r) (hgs:zav w g T) (hf:zad w f (.builtin id)) (hx:SX w nt x ex)
    (hline:autoParam ((apos.endLine == pos.line) = true) tR) (he:autoParam (∀ env,attributeBase ex name env (eval ex env) = eval ex env) tR):
    SX w nt (x1 f x) (.Call (.Attribute ex name apos) [] [] pos):=fun m c hc e st k r h=>by
  obtain ⟨dx,st1,h1,t1⟩:=hx m c hc e st _ r h
  obtain ⟨_,hT⟩:=hgs _ _ _ _ (hg _ _ _ _ h1)
  obtain ⟨dr,st3,h4,t3⟩:=hf st1 dx k r h1
  refine ⟨dr,st3,h4,fun env A σ s Q E rm o p kk=>?_⟩
  refine wpAny_Call_method_late (he env) rfl hline rfl (t1 env A σ s _ E rm o p fun ov σ1 h1' tk1 o1 r1 g1=>?_)
  obtain ⟨hTy,hnd⟩:=hT σ1 { s with heap:=h1',toks:=tk1 } ov o1 r1
  refine ⟨T,id,pa,sl,ty,hTy,hnd,?_⟩
  have ns:Cj [] = true:=rfl
  refine callWith_of (P:=fun _=>True) (by rw [E8 ns]; rfl) (Ea (v:=.builtin id) rfl) (Cz ns ?_)
  refine (Tr.ret (P:=fun σ st h v=>v = []) (fun _ _ _=>rfl):Tr w (2 * m + 3) NoX st1 (fun _ _ _=>True) _ _ st1) A σ1 _ _ E rm o1 trivial fun vs σ2 h2' tk2 o2 q2 g2=>⟨trivial,?_⟩
  subst q2
  exact t3 (2 * m + 2) _ A σ2 _ Q E rm o2 (r1.goes o1 g2) fun v' σ3 h3' tk3 o3 r4 g3=>kk v' σ3 h3' tk3 o3 r4 ((g1.trans g2).trans g3)
theorem zgm {n:Nat} (h:n < 100000):Builtin.List.listTooLong n = false:=by
  unfold Builtin.List.listTooLong
  have:=Cd h
  exact decide_eq_false (by lia)
theorem Yx {σ:Sg} {h h':Heap} {st:St} {n:Nat} {xs ys:List D} {vs:Array Value} (o:Ok w σ h st) (hn:st.get n = some (.list xs)) (hb:st.base ≤ n) (hs:Heap.SameBut (σ.a n) h h') (hl:h'.PlainList (σ.a n) vs) (rl:RL σ st.N h vs.toList ys):
    Ok w σ h' (st.put n (.list ys)) ∧ Aw NoX σ h st σ h' (st.put n (.list ys)) ∧ Dy h h':=by
  have kI:Dy h h':=fun b' o' i' e'=>(hs.2 b' fun z=>by subst z; exact (o.obj _ _ hn).notImm e' i').trans e'
  have ob:Lo w σ st.N h' (σ.a n) (.list ys):=⟨_,hl,rl.mono (.refl _ _) (Nat.le_refl _) kI⟩
  exact ⟨o.upd hn hs ob,Aw.upd_ o hb hn hs ob,kI⟩
theorem zhN:zfC w Fi (.builtin "list.append"):=fun st a b k r h=>by
  refine bg fun bP bf=>?_
  obtain ⟨n,rfl,h1⟩:=Bt.mp h
  obtain ⟨xs,hn,h2⟩:=B0.mp h1
  obtain ⟨hl,h3⟩:=Cc.mp h2
  obtain ⟨hb,h4⟩:=J5.mp h3
  rw [Qu] at h4
  refine bf ⟨_,_,h4,fun d va vb A σ s Q E rm o p kk=>?_⟩
  obtain ⟨p1,p2⟩:=p
  cases p1 with
  | ref _ hlt=>
    obtain ⟨vs,hlist,rl⟩:=o.obj _ _ hn
    have e1:vs.size = xs.length:=by simpa using rl.length
    refine wpAny_list_append_plain hlist (fun h' hl' hs=>?_) (by rw [e1]; exact Cd hl)
    obtain ⟨o2,g2,kI⟩:=Yx (ys:=xs ++ [b]) o hn hb hs hl' (by rw [Array.toList_push]; exact RL.app (.cons p2 .nil) rl)
    exact kk .none σ h' s.toks o2 .none g2
theorem Pg {x y:Sm D} {ex ey:Expr} {apos pos} (hx:SX w nt x ex) (hy:SX w nt y ey)
    (hs:autoParam (Ay ey = true) tR) (hline:autoParam ((apos.endLine == pos.line) = true) tR) (he:autoParam (∀ env,attributeBase ex "append" env (eval ex env) = eval ex env) tR)
    (hfew:autoParam (∀ env,((backTo pos (starEach [ey] env)).all (fun x=>!x.1) && (backToKw pos (keywordEach [] env)).all (fun x=>x.1.isSome) && decide (([ey]:List Expr).length + ([]:List Keyword).length + (if ([]:List Keyword).isEmpty then 0 else 1) < 30)) = true) tR):
    SX w nt (xM2 N6 Fi x y) (.Call (.Attribute ex "append" apos) [ey] [] pos):=zmm F.plainAttrs_list F.slot_list_append F.type_list_append zf8 zhN hx hy hs hline he hfew
theorem zdi {α β:Type}:∀ {l:List α} {f:List α→α→Option β} {b:β},znY l f = some b→∃ xs x,l = xs ++ [x] ∧ f xs x = some b
  | [],f,b,h=>nomatch (show (none:Option β) = some b from h)
  | [a],f,b,h=>⟨[],a,rfl,h⟩
  | a :: a' :: r,f,b,h=>by
    obtain ⟨xs,x,e,q⟩:=zdi (l:=a' :: r) (f:=fun xs x=>f (a :: xs) x) h
    exact ⟨a :: xs,x,by rw [e]; rfl,q⟩
theorem Sl {h:Heap} {a:Addr} {items:Array Value} {n:Nat} (ho:h.get? a = some { cls:=.type "list",data:=.seq items n }) (f:Array Value→Array Value):(h.update a (Obj.mapSeq f)).PlainList a (f items):=⟨_,get?_update_seq ho f⟩
theorem RL.last {σ:Sg} {N:Nat} {h:Heap} {y:D}:∀ {ys:List D} {l:List Value},RL σ N h l (ys ++ [y])→∃ us u,l = us ++ [u] ∧ RL σ N h us ys ∧ R σ N h u y:=by
  intro ys
  induction ys with
  | nil=>intro l r; obtain ⟨v,vs,rfl,a,b⟩:=RL.cons_inv r; cases b.nil_inv; exact ⟨[],v,rfl,.nil,a⟩
  | cons d ys ih=>intro l r; obtain ⟨v,vs,rfl,a,b⟩:=RL.cons_inv r; obtain ⟨us,u,rfl,q1,q2⟩:=ih b; exact ⟨v :: us,u,rfl,.cons a q1,q2⟩
theorem zpa:zad w zhP (.builtin "list.pop"):=fun st a k r h=>by
  refine bg fun bP bf=>?_
  obtain ⟨n,rfl,h1⟩:=Bt.mp h
  obtain ⟨xs,hn,h2⟩:=B0.mp h1
  obtain ⟨hl,h2⟩:=Cc.mp h2
  obtain ⟨ys,y,rfl,h3⟩:=zdi h2
  obtain ⟨hb,h4⟩:=J5.mp h3
  refine bf ⟨_,_,h4,fun d va A σ s Q E rm o p kk=>?_⟩
  obtain ⟨rfl,_⟩:=p.inv
  obtain ⟨vs,⟨c,hlist⟩,rl⟩:=o.obj _ _ hn
  obtain ⟨us,u,e1,r1,r2⟩:=rl.last
  have e0:vs = (us ++ [u]).toArray:=by rw [← e1]
  subst e0
  have sz:(us ++ [u]).toArray.size = us.length + 1:=by simp
  have lu:us.length = ys.length:=r1.length
  have e2:((us ++ [u]).toArray.eraseIdxIfInBounds ((us ++ [u]).toArray.size - 1)) = us.toArray:=by
    rw [sz,Nat.add_sub_cancel]
    unfold Array.eraseIdxIfInBounds
    rw [dif_pos (by rw [sz]; exact Nat.lt_succ_self _)]
    apply Array.toList_inj.mp
    simp [List.eraseIdx_append_of_length_le]
  refine call_meets F.slot_list_pop ⟨_,hlist,rfl⟩ F.entry_list_pop (F.args_list_pop_1 _) (PySem.MeetsSeq.list_pop_last (σ.a n) _ c u (by simp) (by rw [sz,lu]; rw [List.length_append] at hl; exact Cd hl)) ⟨hlist,?_⟩
  obtain ⟨o2,g2,kI⟩:=Yx (ys:=ys) o hn hb (Heap.SameBut.update ..) (Sl hlist fun xs=>xs.eraseIdxIfInBounds ((us ++ [u]).toArray.size - 1)) (by rw [e2]; exact r1)
  exact kk u σ _ s.toks o2 (r2.mono (.refl _ _) (Nat.le_refl _) kI) g2
theorem zgX {x:Sm D} {ex:Expr} {apos pos} (hx:SX w nt x ex)
    (hline:autoParam ((apos.endLine == pos.line) = true) tR) (he:autoParam (∀ env,attributeBase ex "pop" env (eval ex env) = eval ex env) tR):
    SX w nt (x1 zhP x) (.Call (.Attribute ex "pop" apos) [] [] pos):=zuz F.plainAttrs_list F.slot_list_pop F.type_list_pop (fun st a k r h=>by
      obtain ⟨n,rfl,h1⟩:=Bt.mp h
      obtain ⟨xs,hn,_⟩:=B0.mp h1
      exact Bt.mpr ⟨n,rfl,B0.mpr ⟨xs,hn,rfl⟩⟩) zf8 zpa hx hline he
theorem zhF:zfC w zb2 (.builtin "list.extend"):=fun st a b k r h=>by
  refine bg fun bP bf=>?_
  obtain ⟨n,rfl,h1⟩:=Bt.mp h
  obtain ⟨xs,hn,h2⟩:=B0.mp h1
  obtain ⟨m,rfl,h5⟩:=Bt.mp h2
  obtain ⟨ys,hm,h6⟩:=B0.mp h5
  obtain ⟨hl,h3⟩:=Cc.mp h6
  obtain ⟨hb,h4⟩:=J5.mp h3
  rw [Qu] at h4 hl
  refine bf ⟨_,_,h4,fun d va vb A σ s Q E rm o p kk=>?_⟩
  obtain ⟨p1,p2⟩:=p
  obtain ⟨rfl,_⟩:=p1.inv
  obtain ⟨rfl,_⟩:=p2.inv
  obtain ⟨vs,⟨c,hv⟩,rl⟩:=o.obj _ _ hn
  obtain ⟨us,⟨c2,hu⟩,rl2⟩:=o.obj _ _ hm
  have l1:vs.size = xs.length:=by simpa using rl.length
  have l2:us.size = ys.length:=by simpa using rl2.length
  rw [List.length_append] at hl
  refine call_meets F.slot_list_extend ⟨_,hv,rfl⟩ F.entry_list_extend (F.args_list_extend_2 _ _) (PySem.AutoSeq1.list_extend_list_list_0 (σ.a n) vs c (σ.a m) us c2 (by
      have:Builtin.List.listTooLong (vs.size + us.size) = false:=by rw [l1,l2]; exact zgm hl
      rw [this]; simp) (by rw [l1]; exact Cd (by lia)) (by rw [l1,l2]; have:=Cd hl; lia)) ⟨hv,hu,?_⟩
  obtain ⟨o2,g2,kI⟩:=Yx (ys:=xs ++ ys) o hn hb (Heap.SameBut.update ..) (Sl hv fun x=>x ++ us) (by rw [Array.toList_append]; exact RL.app rl2 rl)
  exact kk .none σ _ s.toks o2 .none g2
theorem zfj {x y:Sm D} {ex ey:Expr} {apos pos} (hx:SX w nt x ex) (hy:SX w nt y ey)
    (hs:autoParam (Ay ey = true) tR) (hline:autoParam ((apos.endLine == pos.line) = true) tR) (he:autoParam (∀ env,attributeBase ex "extend" env (eval ex env) = eval ex env) tR)
    (hfew:autoParam (∀ env,((backTo pos (starEach [ey] env)).all (fun x=>!x.1) && (backToKw pos (keywordEach [] env)).all (fun x=>x.1.isSome) && decide (([ey]:List Expr).length + ([]:List Keyword).length + (if ([]:List Keyword).isEmpty then 0 else 1) < 30)) = true) tR):
    SX w nt (xM2 N6 zb2 x y) (.Call (.Attribute ex "extend" apos) [ey] [] pos):=zmm F.plainAttrs_list F.slot_list_extend F.type_list_extend zf8 zhF hx hy hs hline he hfew
theorem zuF {g:St→D→Ans→Ans} {f:St→D→D→D→(D→St→Ans)→Ans} {T id:String} {name:Str} {x y z:Sm D} {ex ey ez:Expr} {apos pos} (pa:PlainAttrs T) (sl:Slot T name id) (ty:typeOf (.builtin id) = pure (.type "method_descriptor")) (hg:zav w g T)
    (hf:∀ st a b c k r,f st a b c k = some r→E3 (fun dr st'=>k dr st' = some r) fun dr st'=>∀ d va vb vc,Tr w (d + 1) NoX st (fun σ st h=>R σ st.N h va a ∧ R σ st.N h vb b ∧ R σ st.N h vc c) (call (.builtin id) [va,vb,vc]) (fun σ st h v=>R σ st.N h v dr) st') (hx:SX w nt x ex) (hy:SX w nt y ey) (hz:SX w nt z ez)
    (hs:autoParam (Ay ey = true) tR) (hs2:autoParam (Ay ez = true) tR) (hline:autoParam ((apos.endLine == pos.line) = true) tR) (he:autoParam (∀ env,attributeBase ex name env (eval ex env) = eval ex env) tR)
    (hfew:autoParam (∀ env,((backTo pos (starEach [ey,ez] env)).all (fun x=>!x.1) && (backToKw pos (keywordEach [] env)).all (fun x=>x.1.isSome) && decide (([ey,ez]:List Expr).length + ([]:List Keyword).length + (if ([]:List Keyword).isEmpty then 0 else 1) < 30)) = true) tR):
    SX w nt (xM3 g f x y z) (.Call (.Attribute ex name apos) [ey,ez] [] pos):=fun m c hc e st k r h=>by
  obtain ⟨dx,st1,h1,t1⟩:=hx m c hc e st _ r h
  obtain ⟨h2,hT⟩:=hg _ _ _ _ h1
  obtain ⟨dy,dz,st2,h3,t2⟩:=zky (f:=fun b c st=>f st dx b c k) hy hz hs hs2 hc h2
  obtain ⟨dr,st3,h4,t3⟩:=hf st2 dx dy dz k r h3
  refine ⟨dr,st3,h4,fun env A σ s Q E rm o p kk=>?_⟩
  refine wpAny_Call_method_late (he env) (hfew env) hline rfl (t1 env A σ s _ E rm o p fun ov σ1 h1' tk1 o1 r1 g1=>?_)
  obtain ⟨hTy,hnd⟩:=hT σ1 { s with heap:=h1',toks:=tk1 } ov o1 r1
  refine ⟨T,id,pa,sl,ty,hTy,hnd,?_⟩
  have ns:Cj [ey,ez] = true:=by show (Ay ey && (Ay ez && true)) = true; rw [hs,hs2]; rfl
  refine callWith_of (P:=fun _=>True) (by rw [E8 ns]; rfl) (Ea (v:=.builtin id) rfl) (Cz ns ?_)
  refine t2 env pos A σ1 _ _ E rm o1 (Ag.stays _ _ _ _ _ _ o o1 g1 p) fun vs σ2 h2' tk2 o2 r2 g2=>⟨trivial,?_⟩
  cases r2 with
  | cons r2 r3=>
    cases r3 with
    | cons r3 r4=>
      cases r4
      exact t3 (2 * m + 2) _ _ _ A σ2 _ Q E rm o2 ⟨r1.goes o1 g2,r2,r3⟩ fun v' σ3 h3' tk3 o3 r4 g3=>kk v' σ3 h3' tk3 o3 r4 ((g1.trans g2).trans g3)
theorem zn1 {x y z:Sm D} {ex ey ez:Expr} {apos pos} (hx:SX w nt x ex) (hy:SX w nt y ey) (hz:SX w nt z ez)
    (hs:autoParam (Ay ey = true) tR) (hs2:autoParam (Ay ez = true) tR) (hline:autoParam ((apos.endLine == pos.line) = true) tR) (he:autoParam (∀ env,attributeBase ex "get" env (eval ex env) = eval ex env) tR)
    (hfew:autoParam (∀ env,((backTo pos (starEach [ey,ez] env)).all (fun x=>!x.1) && (backToKw pos (keywordEach [] env)).all (fun x=>x.1.isSome) && decide (([ey,ez]:List Expr).length + ([]:List Keyword).length + (if ([]:List Keyword).isEmpty then 0 else 1) < 30)) = true) tR):
    SX w nt (xM3 zhi zpO x y z) (.Call (.Attribute ex "get" apos) [ey,ez] [] pos):=zuF F.plainAttrs_dict F.slot_dict_get F.type_dict_get zpC (fun st a b c k r h=>by
      obtain ⟨n,rfl,h1⟩:=Bt.mp h
      obtain ⟨es,hn,h2⟩:=Nr.mp h1
      obtain ⟨l,rfl,h3⟩:=Dk.mp h2
      obtain ⟨dr,hdr,h4⟩:∃ dr,(lkS es l).getD c = dr ∧ k dr st = some r:=by
        cases q:lkS es l with
        | none=>rw [q] at h3; exact ⟨_,rfl,h3⟩
        | some d=>rw [q] at h3; exact ⟨_,rfl,h3⟩
      refine ⟨dr,st,h4,fun d va vb vc A σ s Q E rm o p kk=>?_⟩
      obtain ⟨p1,p2,p3⟩:=p
      obtain ⟨rfl,_⟩:=p1.inv
      cases p2 with
      | str x t ok=>
        obtain ⟨kvs,hd,rd⟩:=o.obj _ _ hn
        have v:=rd.value x
        refine call_meetsIn F.slot_dict_get hd.typeIs F.entry_dict_get (F.args_dict_get_3 _ _ _) (meets_dict_get_default (PySem.strKind pw w) (σ.a n) (strKind_is pw w x t) (zaI (C3 w) o hn) vc) ⟨_,hd.mapOf,?_⟩
        refine kk _ σ s.heap _ o ?_ o.refl
        cases q:lkS es x.cps.toList with
        | none=>
          rw [q] at v hdr
          rw [v]
          subst hdr; exact p3
        | some u=>
          rw [q] at v hdr
          obtain ⟨v',e',r'⟩:=v
          rw [e']
          subst hdr; exact r') hx hy hz hs hs2 hline he hfew
theorem zmy:zfC w zkU (.builtin "str.join"):=fun st a b k r h=>by
  refine bg fun bP bf=>?_
  obtain ⟨l,rfl,h5⟩:=Dk.mp h
  obtain ⟨n,rfl,h6⟩:=Bt.mp h5
  obtain ⟨xs,hn,h2⟩:=B0.mp h6
  cases xs with
  | cons _ _=>cases h2
  | nil=>
    refine bf ⟨_,_,h2,fun d va vb A σ s Q E rm o p kk=>?_⟩
    obtain ⟨p1,p2⟩:=p
    obtain ⟨rfl,_⟩:=p2.inv
    cases p1 with
    | str x t ok=>
      obtain ⟨vs,hl,rl⟩:=o.obj _ _ hn
      have e:vs = #[]:=by
        apply Array.toList_inj.mp
        cases rl':vs.toList with
        | nil=>rfl
        | cons _ _=>rw [rl'] at rl; cases rl
      subst e
      refine call_meets F.slot_str_join (typeIs_str _ _ _) F.entry_str_join (F.args_str_join_2 _ _) (meets_str_join_list x t (σ.a n) [] rfl) ⟨hl.isList,?_⟩
      refine ⟨Nat.zero_le _,?_⟩
      exact kk (.str ⟨#[]⟩ s.toks) σ s.heap (s.toks + 1) o (.str ⟨#[]⟩ _ (by kernel_rfl)) o.refl
theorem zp0 {x y:Sm D} {ex ey:Expr} {apos pos} (hx:SX w nt x ex) (hy:SX w nt y ey)
    (hs:autoParam (Ay ey = true) tR) (hline:autoParam ((apos.endLine == pos.line) = true) tR) (he:autoParam (∀ env,attributeBase ex "join" env (eval ex env) = eval ex env) tR)
    (hfew:autoParam (∀ env,((backTo pos (starEach [ey] env)).all (fun x=>!x.1) && (backToKw pos (keywordEach [] env)).all (fun x=>x.1.isSome) && decide (([ey]:List Expr).length + ([]:List Keyword).length + (if ([]:List Keyword).isEmpty then 0 else 1) < 30)) = true) tR):
    SX w nt (xM2 zle zkU x y) (.Call (.Attribute ex "join" apos) [ey] [] pos):=zmm F.plainAttrs_str F.slot_str_join F.type_str_join zny zmy hx hy hs hline he hfew
theorem zde {x:Str} {l:List Nat} (h:x.cps.toList = l):x = ⟨l.toArray⟩:=by
  obtain ⟨c⟩:=x
  subst h; simp
theorem zix:zfC w zfZ (.builtin "str.split"):=fun st a b k r h=>by
  refine bg fun bP bf=>?_
  obtain ⟨l,rfl,h5⟩:=Dk.mp h
  obtain ⟨l2,rfl,h6⟩:=Dk.mp h5
  obtain ⟨q1,h2⟩:=Ar.mp h6
  obtain ⟨q2,h3⟩:=Ar.mp h2
  obtain ⟨_,hN,h4⟩:=Fg.mp h3
  rw [zag] at q1 q2
  refine bf ⟨_,_,h4,fun d va vb A σ s Q E rm o p kk=>?_⟩
  obtain ⟨p1,p2⟩:=p
  cases p1 with
  | str x t ok=>
    cases p2 with
    | str y u ok2=>
      have ex:=zde q1
      have ey:=zde q2
      subst ex
      subst ey
      refine call_meets F.slot_str_split (typeIs_str _ _ _) F.entry_str_split (F.args_str_split_2 _ _) (PySem.meets_str_split_not_found _ _ t u (by kernel_rfl) (by kernel_rfl) (by kernel_rfl)) ?_
      obtain ⟨o',g',r'⟩:=Nz (X:=NoX) o (vs:=#[.str ⟨#[83,46,49]⟩ t]) (xs:=[.str [83,46,49]]) hN (.cons (.str _ t ok) .nil)
      exact kk _ _ _ s.toks o' r' g'
theorem zm3 {x y:Sm D} {ex ey:Expr} {apos pos} (hx:SX w nt x ex) (hy:SX w nt y ey)
    (hs:autoParam (Ay ey = true) tR) (hline:autoParam ((apos.endLine == pos.line) = true) tR) (he:autoParam (∀ env,attributeBase ex "split" env (eval ex env) = eval ex env) tR)
    (hfew:autoParam (∀ env,((backTo pos (starEach [ey] env)).all (fun x=>!x.1) && (backToKw pos (keywordEach [] env)).all (fun x=>x.1.isSome) && decide (([ey]:List Expr).length + ([]:List Keyword).length + (if ([]:List Keyword).isEmpty then 0 else 1) < 30)) = true) tR):
    SX w nt (xM2 zle zfZ x y) (.Call (.Attribute ex "split" apos) [ey] [] pos):=zmm F.plainAttrs_str F.slot_str_split F.type_str_split zny zix hx hy hs hline he hfew
end
section
variable {w:World} {nt:List (Str × NameKind)}
theorem zgN {kd p1 pos}:SX w nt (A3 (.int (.negSucc 0))) (.UnaryOp .USub (.Constant (.int 1) kd p1) pos):=fun m c hc e st k r h=>by
  refine ⟨_,_,h,fun env=>?_⟩
  rw [arm_eval_UnaryOp]
  refine Tr.bind (zfY (i:=1)) Ag.stays fun a=>Tr.at (Tr.holding fun A σ s Q E r o p k=>?_)
  cases p.2 with
  | int _ t=>exact PyProof.Rows.neg_int (k _ σ s.heap _ o (.int _ _) o.refl)
theorem zb8 {α:Type}:∀ (n:Nat) (l:List α),zha n l = l.take n
  | 0,[]=>rfl
  | 0,_ :: _=>rfl
  | _ + 1,[]=>rfl
  | n + 1,a :: r=>by
    show a :: zha n r = _
    rw [zb8 n r]; rfl
theorem RL.take {σ:Sg} {N:Nat} {h:Heap} {vs:List Value} {ds:List D} (n:Nat) (r:RL σ N h vs ds):RL σ N h (vs.take n) (ds.take n):=
  RL.ind (P:=fun vs ds=>∀ n,RL σ N h (vs.take n) (ds.take n)) (fun n=>by rw [List.take_nil,List.take_nil]; exact .nil) (fun a b ih n=>by
    cases n with
    | zero=>exact .nil
    | succ n=>exact .cons a (ih n)) r n
theorem RL.reverse {σ:Sg} {N:Nat} {h:Heap} {vs:List Value} {ds:List D} (r:RL σ N h vs ds):RL σ N h vs.reverse ds.reverse:=
  RL.ind (P:=fun vs ds=>RL σ N h vs.reverse ds.reverse) .nil (fun a _ b=>by rw [List.reverse_cons,List.reverse_cons]; exact RL.app (.cons a .nil) b) r
noncomputable def zmv (lo hi stp:Option Int) (h:Heap) (v:Value):Prop:=∃ I vl vu vs,v = .ref I ∧ h.IsSliceOf I vl vu vs ∧ IsPart vl lo ∧ IsPart vu hi ∧ IsPart vs stp
theorem Zi {st:St} {n:Nat} {xs ys:List D} {k:D→St→Ans} {r:D × St} {lo hi stp:Option Int} {ex el:Expr} (hn:st.get n = some (.list xs)) (hl:xs.length < 100000) (h:newList st ys k = some r) (ne:stp ≠ some 0)
    (pick:∀ σ N h (vs:Array Value),RL σ N h vs.toList xs→RL σ N h (slicePick vs lo hi stp).toList ys) (hs:∀ o i,∃ ops,subscripted el false o i = operate ops (getItem o i)):
    E3 (fun dr st'=>k dr st' = some r) fun dr st'=>∀ d va vb,Tr w (d + 1) NoX st (fun σ st h=>R σ st.N h va (.ref n) ∧ zmv lo hi stp h vb) (subscriptTail ex el va vb) (fun σ st h v=>R σ st.N h v dr) st':=by
  obtain ⟨h1,hN,h2⟩:=Fg.mp h
  refine ⟨_,_,h2,fun d va vb A σ s Q E rm o p kk=>?_⟩
  obtain ⟨p1,I,vl,vu,vs,rfl,hsl,q1,q2,q3⟩:=p
  cases p1
  obtain ⟨ops,hops⟩:=hs (.ref (σ.a n)) (.ref I)
  obtain ⟨us,hus,rl⟩:=o.obj _ _ hn
  have sz:us.size = xs.length:=by simpa using rl.length
  obtain ⟨o',g',r'⟩:=Nz (X:=NoX) o hN (pick _ _ _ us rl)
  exact tail_any (T:="list") hus.isList.typeIs F.slot_list_getitem.lookup (wpAny_getItem_list_slice hus.isList hsl q1 q2 q3 ne (kk _ _ _ s.toks o' r' g') (by rw [sz]; exact Cd hl)) hops
theorem Jw {st:St} {env:Env} {d:Nat} {Pre:HP}:Tr w d NoX st Pre (evalPart none env) (fun σ st h v=>IsPart v none) st:=Tr.ret fun _ _ _=>.none
theorem Zw {st:St} {env:Env} {d:Nat} {e:Ax} {l u t:Option Expr} {p:Pos} {lo hi stp:Option Int} {st1 st2:St} (h1:Tr w d NoX st (Ag w nt env e) (evalPart l env) (fun σ st h v=>IsPart v lo) st1) (h2:Tr w d NoX st1 (Ag w nt env e) (evalPart u env) (fun σ st h v=>IsPart v hi) st2) (h3:Tr w d NoX st2 (Ag w nt env e) (evalPart t env) (fun σ st h v=>IsPart v stp) st2):
    Tr w d NoX st (Ag w nt env e) (eval (.Slice l u t p) env) (fun σ st h v=>zmv lo hi stp h v) st2:=fun A σ s Q E rm o p0 kk=>by
  refine wpAny_Slice (h1 A σ s _ E rm o p0 fun v1 σ1 h1' tk1 o1 q1 g1=>h2 A σ1 _ _ E rm o1 (Ag.stays _ _ _ _ _ _ o o1 g1 p0) fun v2 σ2 h2' tk2 o2 q2 g2=>h3 A σ2 _ _ E rm o2 (Ag.stays _ _ _ _ _ _ o1 o2 g2 (Ag.stays _ _ _ _ _ _ o o1 g1 p0)) fun v3 σ3 h3' tk3 o3 q3 g3=>?_)
  have kp:∀ b ob,h3'.get? b = some ob→(h3'.push { cls:=.type "slice",data:=.fields #[v1,v2,v3] }).get? b = some ob:=fun b ob e=>Heap.get?_push_of_some _ e
  exact kk _ σ3 _ tk3 (o3.grow kp) ⟨_,_,_,_,rfl,Heap.IsSliceOf.new ..,q1,q2,q3⟩ (((g1.trans g2).trans g3).trans (Aw.grow o3 kp))
theorem zb3 {x:Sm D} {ex el:Expr} {pos} {f:D→St→Ans} {m:Nat} {c:Cal} {e:Ax} {st:St} {k:D→St→Ans} {r:D × St} (hx:SX w nt x ex) (hc:Cx w m c) (h:x c e st f = some r)
    (t:∀ dx st1,f dx st1 = some r→∃ dr st2 st3,k dr st3 = some r ∧ ∃ n lo hi stp,dx = .ref n ∧ (∀ env,Tr w (2 * m + 3) NoX st1 (Ag w nt env e) (eval el env) (fun σ st h v=>zmv lo hi stp h v) st2) ∧ ∀ va vb,Tr w (2 * m + 3) NoX st2 (fun σ st h=>R σ st.N h va (.ref n) ∧ zmv lo hi stp h vb) (subscriptTail ex el va vb) (fun σ st h v=>R σ st.N h v dr) st3):
    E3 (fun dr st'=>k dr st' = some r) fun dr st'=>∀ env,Tr w (2 * m + 3) NoX st (Ag w nt env e) (eval (.Subscript ex el pos) env) (fun σ st h v=>R σ st.N h v dr) st':=by
  obtain ⟨dx,st1,h1,t1⟩:=hx m c hc e st _ r h
  obtain ⟨dr,st2,st3,h2,n,lo,hi,stp,rfl,t2,t3⟩:=t dx st1 h1
  refine ⟨dr,st3,h2,fun env=>?_⟩
  rw [arm_eval_Subscript]
  exact Tr.bind (t1 env) Ag.stays fun a=>Tr.bind (Tr.holding ((t2 env).pre fun _ _ _ p=>p.1)) (Ag.stays.and Ld.R) fun b=>Tr.at ((t3 a b).pre fun _ _ _ p=>⟨p.1.2,p.2⟩)
theorem Pu {c:List D→D→Option (List D)} {st:St} {x y:D} {k:D→St→Ans} {r:D × St} (h:K4 c st x y k = some r):∃ n xs ys,x = .ref n ∧ st.get n = some (.list xs) ∧ xs.length < 100000 ∧ c xs y = some ys ∧ newList st ys k = some r:=by
  cases x with
  | ref n=>
    have h:Au st n (fun xs=>fit xs (ob (c xs y) fun r=>newList st r k)) = some r:=h
    obtain ⟨xs,h1,h2⟩:=B0.mp h
    obtain ⟨h3,h4⟩:=Cc.mp h2
    obtain ⟨ys,h5,h6⟩:=Bf.mp h4
    exact ⟨n,xs,ys,rfl,h1,h3,h5,h6⟩
  | _=>cases h
theorem R.part {σ:Sg} {N:Nat} {h:Heap} {v:Value} {i:Int} (r:R σ N h v (.int i)):IsPart v (some i):=by cases r with | int _ t=>exact .int _ _
theorem zgj {x:Sm D} {ex:Expr} {kd p1 p2 pp pos} (hx:SX w nt x ex):SX w nt (x2 (K4 zlk) x (A3 .none)) (.Subscript ex (.Slice none none (some (.UnaryOp .USub (.Constant (.int 1) kd p1) p2)) pp) pos):=fun m c hc e st k r h=>
  zb3 hx hc h fun dx st1 h1=>by
    obtain ⟨n,xs,ys,rfl,hn,hl,hc0,h2⟩:=Pu h1
    cases hc0
    obtain ⟨dr,st',h3,t3⟩:=Zi (w:=w) (ex:=ex) (el:=.Slice none none (some (.UnaryOp .USub (.Constant (.int 1) kd p1) p2)) pp) (lo:=none) (hi:=none) (stp:=some (-1)) hn hl h2 (by decide) (fun σ N h vs rl=>by
      rw [krv_pick,Y7,List.append_nil]; exact rl.reverse) (fun _ _=>⟨_,rfl⟩)
    refine ⟨dr,st1,st',h3,n,_,_,_,rfl,fun env=>Zw Jw Jw ?_,fun va vb=>t3 (2 * m + 2) va vb⟩
    obtain ⟨_,_,e1,t⟩:=zgN (w:=w) (nt:=nt) (kd:=kd) (p1:=p1) (pos:=p2) m c hc e st1 (fun d st=>some (d,st)) (.int (.negSucc 0),st1) rfl
    cases e1
    exact (t env).post fun σ st h v q=>q.part
theorem ziS {x y:Sm D} {ex ey:Expr} {pp pos} (hx:SX w nt x ex) (hy:SX w nt y ey):SX w nt (x2 (K4 zj3) x y) (.Subscript ex (.Slice none (some ey) none pp) pos):=fun m c hc e st k r h=>
  zb3 hx hc h fun dx st1 h1=>by
    obtain ⟨dy,st2,h2,t2⟩:=hy m c hc e st1 _ r h1
    obtain ⟨n,xs,ys,rfl,hn,hl,hc0,h3⟩:=Pu h2
    obtain ⟨i,rfl,hc1⟩:=Bh.mp hc0
    obtain ⟨j,rfl,hc2⟩:=O0.mp hc1
    cases hc2
    obtain ⟨dr,st',h3,t3⟩:=Zi (w:=w) (ex:=ex) (el:=.Slice none (some ey) none pp) (lo:=none) (hi:=some (j:Int)) (stp:=none) hn hl h3 (by decide) (fun σ N h vs rl=>by
      rw [slicePick_upto',zb8]; exact rl.take _) (fun _ _=>⟨_,rfl⟩)
    exact ⟨dr,st2,st',h3,n,_,_,_,rfl,fun env=>Zw Jw ((t2 env).post fun σ st h v q=>q.part) Jw,fun va vb=>t3 (2 * m + 2) va vb⟩
theorem zpS {x y:Sm D} {ex ey:Expr} {pp pos} (hx:SX w nt x ex) (hy:SX w nt y ey):SX w nt (x2 (K4 zsf) x y) (.Subscript ex (.Slice (some ey) none none pp) pos):=fun m c hc e st k r h=>
  zb3 hx hc h fun dx st1 h1=>by
    obtain ⟨dy,st2,h2,t2⟩:=hy m c hc e st1 _ r h1
    obtain ⟨n,xs,ys,rfl,hn,hl,hc0,h3⟩:=Pu h2
    obtain ⟨i,rfl,hc1⟩:=Bh.mp hc0
    obtain ⟨j,rfl,hc2⟩:=O0.mp hc1
    cases hc2
    obtain ⟨dr,st',h3,t3⟩:=Zi (w:=w) (ex:=ex) (el:=.Slice (some ey) none none pp) (lo:=some (j:Int)) (hi:=none) (stp:=none) hn hl h3 (by decide) (fun σ N h vs rl=>by
      rw [slicePick_from',Ze]; exact rl.drop _) (fun _ _=>⟨_,rfl⟩)
    exact ⟨dr,st2,st',h3,n,_,_,_,rfl,fun env=>Zw ((t2 env).post fun σ st h v q=>q.part) Jw Jw,fun va vb=>t3 (2 * m + 2) va vb⟩
theorem Up {α β:Type} {f g:α→Option β}:∀ {l:List α},(∀ k ∈ l,f k = g k)→l.filterMap f = l.filterMap g
  | [],_=>rfl
  | a :: r,h=>by
    rw [List.filterMap_cons,List.filterMap_cons,h a List.mem_cons_self,Up fun k hk=>h k (List.mem_cons_of_mem _ hk)]
theorem zrt (items:Array Value):slicePick items none (some 0) (some (-1)) = (items.toList.drop 1).reverse.toArray:=by
  obtain ⟨l⟩:=items
  cases l with
  | nil=>rfl
  | cons a r=>
    unfold slicePick
    have hb:sliceBounds none (some 0) (some (-1)) (a :: r).toArray.size = ((r.length:Int),0,-1):=by
      have e:(a :: r).toArray.size = r.length + 1:=by simp
      rw [e]
      unfold sliceBounds
      simp
      lia
    rw [hb]
    show ((sliceRange (r.length:Int) 0 (-1)).filterMap ((a :: r).toArray[·]?)).toArray = _
    have hr:sliceRange (r.length:Int) 0 (-1) = (List.range r.length).map fun k=>r.length - k:=by
      unfold sliceRange
      have h1:¬ ((-1:Int) > 0):=by decide
      by_cases h:(r.length:Int) > 0
      · have e:((r.length:Int) - 0 - -1 - 1) / (- -1) = (r.length:Int):=by
          rw [show (- -1:Int) = 1 by decide,Int.ediv_one]; lia
        simp only [h1,if_false,h,if_true,e,Int.toNat_natCast]
        apply List.map_congr_left
        intro k hk
        have:=List.mem_range.mp hk
        lia
      · have e:r.length = 0:=by lia
        rw [e]; simp
    rw [hr,List.filterMap_map]
    congr 1
    have h2:∀ k ∈ List.range r.length,((fun i=>(a :: r).toArray[i]?) ∘ fun k=>r.length - k) k = ((fun i=>r.toArray[i]?) ∘ fun k=>r.length - 1 - k) k:=fun k hk=>by
      have hk:=List.mem_range.mp hk
      show (a :: r).toArray[r.length - k]? = r.toArray[r.length - 1 - k]?
      rw [show r.length - k = (r.length - 1 - k) + 1 by lia]
      simp
    rw [Up h2,← List.filterMap_map,krv_range]
    have h3:=krv_all r.toArray
    rw [List.filterMap_reverse]
    have e4:r.toArray.size = r.length:=by simp
    rw [e4] at h3
    rw [h3]; rfl
theorem zqd {x:Sm D} {ex:Expr} {k0 p0 kd p1 p2 pp pos} (hx:SX w nt x ex):SX w nt (x2 (K4 ztI) x (A3 .none)) (.Subscript ex (.Slice none (some (.Constant (.int 0) k0 p0)) (some (.UnaryOp .USub (.Constant (.int 1) kd p1) p2)) pp) pos):=fun m c hc e st k r h=>
  zb3 hx hc h fun dx st1 h1=>by
    obtain ⟨n,xs,ys,rfl,hn,hl,hc0,h2⟩:=Pu h1
    cases hc0
    obtain ⟨dr,st',h3,t3⟩:=Zi (w:=w) (ex:=ex) (el:=.Slice none (some (.Constant (.int 0) k0 p0)) (some (.UnaryOp .USub (.Constant (.int 1) kd p1) p2)) pp) (lo:=none) (hi:=some 0) (stp:=some (-1)) hn hl h2 (by decide) (fun σ N h vs rl=>by
      rw [zrt,Y7,List.append_nil,Ze]; exact (rl.drop 1).reverse) (fun _ _=>⟨_,rfl⟩)
    refine ⟨dr,st1,st',h3,n,_,_,_,rfl,fun env=>Zw Jw ((show Tr w (2 * m + 3) NoX st1 (Ag w nt env e) (eval (.Constant (.int 0) k0 p0) env) (fun σ st h v=>R σ st.N h v (.int 0)) st1 from zfY).post fun σ st h v q=>q.part) ?_,fun va vb=>t3 (2 * m + 2) va vb⟩
    obtain ⟨_,_,e1,t⟩:=zgN (w:=w) (nt:=nt) (kd:=kd) (p1:=p1) (pos:=p2) m c hc e st1 (fun d st=>some (d,st)) (.int (.negSucc 0),st1) rfl
    cases e1
    exact (t env).post fun σ st h v q=>q.part
end
section
variable {w:World} {nt:List (Str × NameKind)}
theorem zbY:zad w zcb (.type "tuple"):=fun st a k r h=>by
  obtain ⟨xs,hx,h1⟩:=Ff.mp h
  obtain ⟨hl,h2⟩:=Cc.mp h1
  refine ⟨_,_,h2,fun d va A σ s Q E rm o p kk=>?_⟩
  rcases hx with rfl | ⟨i,rfl,hi⟩
  · cases p with
    | tup g1 c1 d1 r1=>exact call_tuple_same ⟨_,g1,c1,_,d1⟩ (kk _ σ s.heap s.toks o (.tup g1 c1 d1 r1) o.refl)
  · obtain ⟨rfl,_⟩:=p.inv
    obtain ⟨vs,hpl,rl⟩:=o.obj _ _ hi
    have e:vs.size = xs.length:=by simpa using rl.length
    refine call_tuple_list hpl.isList (fun h' hk=>?_) (by rw [e]; exact Cd hl)
    have k2:∀ b ob,s.heap.get? b = some ob→(h'.push { cls:=.type "tuple",data:=.seq vs }).get? b = some ob:=fun b ob e=>Heap.get?_push_of_some _ (hk b ob e)
    exact kk _ σ _ s.toks (o.grow k2) (.tup (Qw _ _) rfl rfl (rl.mono (.refl _ _) (Nat.le_refl _) (.all k2))) (Aw.grow o k2)
theorem zhh {σ:Sg} {N:Nat} {h:Heap} {vs:List Value} {ds:List D} (r:RL σ N h vs ds):(∀ d ∈ ds,∃ i,d = .int i)→∃ xs:List (Int × Tok),vs = xs.map (fun p=>.int p.1 p.2) ∧ ds = xs.map (fun p=>.int p.1):=
  RL.ind (P:=fun vs ds=>(∀ d ∈ ds,∃ i,d = .int i)→∃ xs:List (Int × Tok),vs = xs.map (fun p=>.int p.1 p.2) ∧ ds = xs.map (fun p=>.int p.1)) (fun _=>⟨[],rfl,rfl⟩) (fun {v vs d ds} a _ ih q=>by
    obtain ⟨xs,rfl,rfl⟩:=ih fun d hd=>q d (List.mem_cons_of_mem _ hd)
    obtain ⟨i,rfl⟩:=q _ List.mem_cons_self
    obtain ⟨t,rfl⟩:=a.inv
    exact ⟨(i,t) :: xs,rfl,rfl⟩) r
theorem zec:∀ {l:List D} {m r:Int},zqQ m l = some r→∃ ns:List Int,l = ns.map .int ∧ r = m + ns.sum
  | [],m,r,h=>⟨[],rfl,by cases h; simp⟩
  | d :: l,m,r,h=>by
    obtain ⟨i,rfl,h1⟩:=Bh.mp (show Eh d (fun i=>zqQ (m + i) l) = some r from h)
    obtain ⟨ns,e1,e2⟩:=zec h1
    exact ⟨i :: ns,by rw [e1]; rfl,by rw [e2,List.sum_cons]; lia⟩
theorem zrF:zad w zst (.builtin "sum"):=fun st a k r h=>by
  refine bg fun bP bf=>?_
  obtain ⟨n,rfl,h1⟩:=Bt.mp h
  obtain ⟨xs,hn,h2⟩:=B0.mp h1
  obtain ⟨z,h3,h4⟩:=Bf.mp h2
  obtain ⟨ns,rfl,hz⟩:=zec h3
  refine bf ⟨_,_,h4,fun d va A σ s Q E rm o p kk=>?_⟩
  obtain ⟨rfl,_⟩:=p.inv
  obtain ⟨vs,hpl,rl⟩:=o.obj _ _ hn
  obtain ⟨xs,e1,e2⟩:=zhh rl fun d hd=>by obtain ⟨i,_,e⟩:=List.mem_map.mp hd; exact ⟨i,e.symm⟩
  have e3:ns = xs.map (·.1):=by
    have:=congrArg (List.map fun | D.int i=>i | _=>0) e2
    simpa [Function.comp_def] using this
  have e4:vs = intItems xs.toArray:=by
    apply Array.toList_inj.mp
    rw [e1]; simp [intItems]
  subst e4
  refine sum_intListG rm.hd hpl.isList fun h' tk t' hk=>?_
  have e5:preSum (numAt xs.toArray) xs.toArray.size = z:=by
    rw [preSum_eq,hz,e3]; simp [List.take_of_length_le]
  rw [e5]
  exact kk _ σ h' tk (o.grow hk) (.int _ _) (Aw.grow o hk)
theorem zsn:zad w zud (.builtin "max"):=fun st a k r h=>by
  refine bg fun bP bf=>?_
  obtain ⟨n,rfl,h1⟩:=Bt.mp h
  obtain ⟨xs,hn,h2⟩:=B0.mp h1
  obtain ⟨a,b,rfl⟩:∃ a b,xs = [a,b]:=by
    clear hn h1 h
    cases xs with
    | nil=>cases h2
    | cons a xs=>
      cases xs with
      | nil=>cases h2
      | cons b xs=>
        cases xs with
        | nil=>exact ⟨a,b,rfl⟩
        | cons c xs=>cases h2
  · obtain ⟨i,rfl,h3⟩:=Bh.mp h2
    obtain ⟨j,rfl,h4⟩:=Bh.mp h3
    obtain ⟨hb,h5⟩:=Ar.mp h4
    rw [Nu,Dw] at hb
    have hb:¬ i < j:=by simpa using hb
    refine bf ⟨_,_,h5,fun d va A σ s Q E rm o p kk=>?_⟩
    obtain ⟨rfl,_⟩:=p.inv
    obtain ⟨vs,hpl,rl⟩:=o.obj _ _ hn
    obtain ⟨xs,e1,e2⟩:=zhh rl fun d hd=>by simp at hd; rcases hd with rfl | rfl <;> exact ⟨_,rfl⟩
    obtain ⟨t1,t2,rfl⟩:∃ t1 t2,xs = [(i,t1),(j,t2)]:=by
      clear e1
      cases xs with
      | nil=>cases e2
      | cons p xs=>
        cases xs with
        | nil=>cases e2
        | cons q xs=>
          cases xs with
          | cons c xs=>cases e2
          | nil=>obtain ⟨a,t1⟩:=p; obtain ⟨b,t2⟩:=q; cases e2; exact ⟨t1,t2,rfl⟩
    have e4:vs = intItems #[(i,t1),(j,t2)]:=by
      apply Array.toList_inj.mp
      rw [e1]; simp [intItems]
    subst e4
    refine max_intList rm.hd hpl.isList (by simp) fun v h' tk hv hk=>?_
    have e5:argBest (fun x y=>decide (numAt #[(i,t1),(j,t2)] x > numAt #[(i,t1),(j,t2)] y)) ((#[(i,t1),(j,t2)]:Array (Int × Tok)).size - 1) = 0:=by
      show (if decide (numAt #[(i,t1),(j,t2)] 1 > numAt #[(i,t1),(j,t2)] 0) = true then 1 else 0) = 0
      have:numAt #[(i,t1),(j,t2)] 1 = j:=rfl
      have:numAt #[(i,t1),(j,t2)] 0 = i:=rfl
      rw [if_neg]
      simp [*]
    rw [e5] at hv
    have hv':(some (Value.int i t1)) = some v:=by rw [← hv]; simp [intItems]
    cases hv'
    exact kk _ σ h' tk (o.grow hk) (.int _ _) (Aw.grow o hk)
theorem zkc:zgp (w:=w) zds fun a b=>binaryOp .FloorDiv a b:=fun st a b k r h=>by
  refine bg fun bP bf=>?_
  obtain ⟨i,rfl,h1⟩:=Bh.mp h
  obtain ⟨j,rfl,h2⟩:=Bh.mp h1
  obtain ⟨hp,h3⟩:=Ar.mp h2
  obtain ⟨hq,h4⟩:=Ar.mp h3
  rw [Dw,decide_eq_true_iff] at hp hq
  refine bf ⟨_,_,h4,fun d va vb A σ s Q E rm o p kk=>?_⟩
  obtain ⟨p1,p2⟩:=p; obtain ⟨_,rfl⟩:=p1.inv; obtain ⟨_,rfl⟩:=p2.inv
  refine PySem.AutoIntOps.floordiv_1 (by rw [beq_iff_eq]; lia) ?_ (kk _ σ s.heap _ o (.int _ _) o.refl)
  unfold Builtin.divisionGoesByPylong
  have:j.natAbs.log2 < 10:=by
    by_cases z:j.natAbs = 0
    · rw [z]; decide
    · exact (Nat.log2_lt z).mpr (by lia)
  simp only [Bool.and_eq_true,decide_eq_true_eq,not_and]
  intro hh
  split at hh <;> lia
theorem Ul:∀ (x y:List Nat),Yn x y = ltCps x y
  | [],[]=>rfl
  | [],_ :: _=>rfl
  | _ :: _,[]=>rfl
  | a :: r,b :: t=>by
    have ih:=Ul r t
    have e:Yn (a :: r) (b :: t) = ifB (Nat.beq a b) (Yn r t) (Nat.blt a b):=rfl
    rw [e,C2,ih]
    show _ = (decide (a < b) || (a == b && ltCps r t))
    by_cases h2:a = b
    · subst h2
      have:Nat.beq a a = true:=Nat.beq_refl a
      rw [this]; simp
    · have:Nat.beq a b = false:=by
        cases q:Nat.beq a b with
        | false=>rfl
        | true=>exact absurd (Nat.eq_of_beq_eq_true q) h2
      rw [this]
      by_cases h1:a < b
      · have:Nat.blt a b = true:=by rw [Nat.blt_eq]; exact h1
        rw [this]; simp [h1]
      · have:Nat.blt a b = false:=by
          cases q:Nat.blt a b with
          | false=>rfl
          | true=>rw [Nat.blt_eq] at q; exact absurd q h1
        rw [this]; simp [h1,h2]
theorem zct {α:Type} {a b:α} {l:List α} (h:l.Perm [a,b]):l = [a,b] ∨ l = [b,a]:=by
  have hl:=h.length_eq
  match l,hl with
  | [x,y],_=>
    have hx:x = a ∨ x = b:=by simpa using h.subset (List.mem_cons_self)
    rcases hx with rfl | rfl
    · have:=List.perm_singleton.mp (List.Perm.cons_inv h)
      exact .inl (by rw [List.cons.inj this |>.1])
    · have:=List.perm_singleton.mp (List.Perm.cons_inv (h.trans (List.Perm.swap _ _ _)))
      exact .inr (by rw [List.cons.inj this |>.1])
theorem zgu {σ:Sg} {N:Nat} {h:Heap} {vs:List Value} {ss:List Str} (r:StrsAre vs ss):(∀ x ∈ ss,PyData.strOk x = true)→RL σ N h vs (ss.map fun x=>D.str x.cps.toList):=by
  induction r with
  | nil=>exact fun _=>.nil
  | cons y t r ih=>exact fun q=>.cons (.str y t (q _ List.mem_cons_self)) (ih fun x hx=>q x (List.mem_cons_of_mem _ hx))
theorem zeV {k:Str} {v:Value} (h:(PySem.strKind pw w).is k v = true):∃ t,v = .str k t:=by
  cases v with
  | str x t=>
    have:(x == k) = true:=h
    exact ⟨t,by rw [beq_iff_eq.mp this]⟩
  | _=>cases h
theorem zgZ:∀ {vs:List Value} {ks:List Str},vs.length = ks.length→(∀ (j:Nat) (v:Value),vs[j]? = some v→∃ (k:Str) (t:Tok),ks[j]? = some k ∧ v = Value.str k t)→StrsAre vs ks
  | [],[],_,_=>.nil
  | v :: vs,k :: ks,hl,h=>by
    obtain ⟨k',t,e1,rfl⟩:=h 0 v rfl
    cases e1
    exact .cons k t (zgZ (by simpa using hl) fun j v e=>h (j + 1) v e)
set_option tactic.hygienic true in
theorem zk6:zad w zgV (.builtin "sorted"):=fun st a k r h=>by
  refine bg fun bP bf=>?_
  obtain ⟨n,rfl,h1⟩:=Bt.mp h
  obtain ⟨es,hn,h2⟩:=Nr.mp h1
  obtain ⟨ds,hds,h3⟩:∃ ds,(∀ σ N h kvs,RD σ N h kvs es→(kvs.length < 64) ∧ ∀ (out:List Value) (ss:List Str),StrsAre out ss→ss.Perm (kvs.map (·.1))→sortedS ss = true→RL σ N h out ds) ∧ newList st ds k = some r:=by
    match es,h2 with
    | [],h2=>
      refine ⟨_,fun σ N h kvs rd=>?_,h2⟩
      cases rd
      refine ⟨by simp,fun out ss s1 s2 s3=>?_⟩
      have:ss = []:=by simpa using s2
      subst this
      cases s1
      exact .nil
    | [p],h2=>
      refine ⟨_,fun σ N h kvs rd=>?_,h2⟩
      cases rd with
      | cons ok rv rr=>
        cases rr
        refine ⟨by simp,fun out ss s1 s2 s3=>?_⟩
        have:ss = [_]:=List.perm_singleton.mp (by simpa using s2)
        subst this
        exact zgu s1 fun x hx=>by rw [List.mem_singleton.mp hx]; exact ok
    | [p,q],h2=>
      have h2:ifB (Yn q.1 p.1) (newList st [D.str q.1,D.str p.1] k) (Bk (Yn p.1 q.1) (newList st [D.str p.1,D.str q.1] k)) = some r:=h2
      rw [C2] at h2
      split at h2
      · rename_i hlt
        refine ⟨_,fun σ N h kvs rd=>?_,h2⟩
        cases rd with
        | @cons k1 _ _ _ _ ok rv rr=>
          cases rr with
          | @cons k2 _ _ _ _ ok2 rv2 rr=>
            cases rr
            refine ⟨by simp,fun out ss s1 s2 s3=>?_⟩
            have s2:ss.Perm [k1,k2]:=s2
            rw [Ul] at hlt
            rcases zct s2 with rfl | rfl
            · have s3:(!ltCps k2.cps.toList k1.cps.toList && true) = true:=s3
              rw [hlt] at s3; cases s3
            · exact zgu s1 fun x hx=>by simp at hx; rcases hx with rfl | rfl <;> assumption
      · rename_i hlt
        obtain ⟨hlt2,h2⟩:=Ar.mp h2
        refine ⟨_,fun σ N h kvs rd=>?_,h2⟩
        cases rd with
        | @cons k1 _ _ _ _ ok rv rr=>
          cases rr with
          | @cons k2 _ _ _ _ ok2 rv2 rr=>
            cases rr
            refine ⟨by simp,fun out ss s1 s2 s3=>?_⟩
            have s2:ss.Perm [k1,k2]:=s2
            rw [Ul] at hlt2
            rcases zct s2 with rfl | rfl
            · exact zgu s1 fun x hx=>by simp at hx; rcases hx with rfl | rfl <;> assumption
            · have s3:(!ltCps k1.cps.toList k2.cps.toList && true) = true:=s3
              rw [hlt2] at s3; cases s3
    | _ :: _ :: _ :: _,h2=>cases h2
  obtain ⟨_,hN,h4⟩:=Fg.mp h3
  refine bf ⟨_,_,h4,fun d va A σ s Q E rm o p kk=>?_⟩
  obtain ⟨rfl,_⟩:=p.inv
  obtain ⟨kvs,hd,rd⟩:=o.obj _ _ hn
  obtain ⟨h64,hout⟩:=hds _ _ _ _ rd
  obtain ⟨ep,hat⟩:=hd.dictAt
  refine Calls.call_function_entry kind_sorted plain_sorted entry_sorted (args_sorted1 _) ?_
  unfold Builtin.«sorted»
  refine wpAny_bind (m:=checkCount "sorted" 1 1 _) (wpAny_pure ?_)
  refine wpAny_bind (kdu_collect (A:=A.in1) (kdl_dict (zaI (C3 w) o hn)) rm.hd hat (by rw [sizeLine_eq]; lia) fun h' tk acc hk hacc=>?_)
  have hsz:acc.toList.length = kvs.length:=by rw [Array.length_toList]; exact hacc.1
  refine wpAny_bind (wpAny_newList ?_ (by rw [hsz,sizeLine_eq]; lia))
  have hS:StrsAre acc.toList (kvs.map (·.1)):=zgZ (by rw [hsz,List.length_map]) fun j v e=>by
    obtain ⟨k',x,e1,e2⟩:=hacc.2 j v (by rw [← Array.getElem?_toList]; exact e)
    obtain ⟨t,rfl⟩:=zeV e2
    exact ⟨k',t,by rw [List.getElem?_map,e1]; rfl,rfl⟩
  have hoL:(h'.push (seqObj "list" acc.toList.toArray 0)).get? h'.objs.size = some (seqObj "list" acc.toList.toArray 0):=Heap.get?_push_size _ rfl
  refine wpAny_bind (wpAny_holding (wpAny_call_entry slot_list_sort ⟨_,hoL,rfl⟩ entry_list_sort (list_sort_treeK strKind_oneLt hoL hS.keysOf (fun v₁ v₂ rest e=>keyKind_strs (by rw [← e]; exact hS)) (by rw [hsz]; exact h64) fun st' a1 a2=>⟨_,rfl,?_⟩) (args_list_sort _)))
  refine wpAny_pure ⟨_,rfl,?_⟩
  obtain ⟨ss',b1,b2,b3⟩:=sorted_out_str hS a1 a2
  have hk2:∀ b ob,s.heap.get? b = some ob→(sortedHeap (h'.push (seqObj "list" acc.toList.toArray 0)) h'.objs.size acc.toList ((arrOf st').map (·.2))).get? b = some ob:=fun b ob e=>by
    have e1:=hk b ob e
    have l1:=Heap.lt_size e1
    rw [sortedHeap_old (Nat.ne_of_lt l1) (by rw [size_push']; exact Nat.lt_succ_of_lt l1)]
    exact Heap.get?_push_of_some _ e1
  obtain ⟨e2,hnew⟩:=sortedHeap_at (out:=(arrOf st').map (·.2)) hoL
  have hnone:s.heap.get? h'.objs.size = none:=by
    cases q:s.heap.get? h'.objs.size with
    | none=>rfl
    | some ob=>exact absurd (Heap.lt_size (hk _ _ q)) (Nat.lt_irrefl _)
  have o':=o.fresh (o:=.list ds) hN hnone hk2 ⟨_,⟨_,hnew⟩,(hout _ _ b1 b2 b3).mono (An _ _) (Nat.le_succ _) (.all hk2)⟩
  have g':Aw NoX σ s.heap st _ _ (st.new (.list ds)):=Aw.fresh_ o hN hnone hk2
  refine kk _ _ _ _ o' ?_ g'
  have:=R.ref (σ:=more σ st.N h'.objs.size) (N:=st.N + 1) (h:=sortedHeap (h'.push (seqObj "list" acc.toList.toArray 0)) h'.objs.size acc.toList ((arrOf st').map (·.2))) st.N (Nat.lt_succ_self _)
  rwa [Bv] at this
end
section
variable {w:World} {nt:List (Str × NameKind)}
theorem zeE:typeLookup (.type "list") (Str.ofString "keys") = pure none:=by rw [typeLookup_type,builtinLookup_eq_fast]; kernel_rfl
theorem zhT {prog:Program} {A:Around} {E:Value→Shared→Prop} {s:Shared} {a:Addr} {o:Obj} {xs:Array Value} {k:Nat} {Q:Option Value→Shared→Prop}
    (hx:s.heap.get? a = some o) (hc:o.cls = .type "list") (hdat:o.data = .seq xs k) (hd:o.dict = none) (hA:A.handled = none)
    (h:∀ h' tk,(∀ b o,s.heap.get? b = some o→h'.get? b = some o)→Q none { s with heap:=h',toks:=tk }):
    wpAny (model prog w) A (getAttr? (.ref a) "keys") Q E s:=by
  obtain ⟨c,dct,dat,sl⟩:=o
  simp only at hc hdat hd
  subst hc hdat hd
  obtain ⟨hp,g,d,tk,os⟩:=s
  have hT:∀ tk',(⟨hp,g,d,tk',os⟩:Shared).TypeIs (.ref a) "list":=fun _=>⟨_,hx,rfl⟩
  have f1:=sub_AttributeError
  have f3:=F.slot_list_getattribute.lookup
  have f4:=F.slot_list_getattribute.bind (.ref a)
  have f5:=am_list_getattr_none
  unfold getAttr? getAttrBy? getAttrBy
  repeat (any_goals (first | assumption | exact hT _ | ((with_reducible show wpAny _ _ (call (Value.builtin "list.__getattribute__") _ _) _ _ _); refine call_meets F.slot_list_getattribute (hT _) am_entry_list_getattribute (F.args_list_getattribute_2 _ _) (meets_getattribute_miss_list a xs k sl "keys" _ zeE (by decide +kernel) (by size_fits)) ⟨hx,hA,fun h' tk' e hx'=>?_⟩) | wp_step))
  obtain ⟨t',u',he⟩:=hx'.there
  show wpAny _ _ (getattributeRaised _ _ _ _ _ _ _) _ _ _
  unfold getattributeRaised
  repeat (any_goals (first | assumption | wp_step))
  exact h _ _ hx'.keeps
theorem zc4:entryFor table "dict.update.loop" = some Builtin.«dict.update.loop»:=entryFor_of_tree (by kernel_rfl)
theorem So:plainId "dict.update.loop" = true:=by decide +kernel
theorem zfy {β:Type} {d:D} {f:D→D→Option β} {b:β} (h:zf6 d f = some b):∃ x y,d = .tup [x,y] ∧ f x y = some b:=by
  obtain ⟨xs,rfl,h1⟩:=Vx.mp h
  match xs,h1 with
  | [],h1=>cases h1
  | [_],h1=>cases h1
  | [x,y],h1=>exact ⟨x,y,rfl,h1⟩
  | _ :: _ :: _ :: _,h1=>cases h1
theorem zh5 {σ:Sg} {N:Nat} {A:Around} {l d I:Addr} {items:Array Value} (hh:A.handled = none) (n1:d ≠ I) (n2:d ≠ l) (n3:I ≠ l):∀ (ds:List D) (i:Nat) (accD es:List (List Nat × D)) (kvs:List (Str × Value)) (s:Shared) (z:Int) (t:Tok) (R':Result→Shared→Prop),zcT ds accD = some es→RL σ N s.heap (items.toList.drop i) ds→RD σ N s.heap kvs accD →
    s.heap.DictOf (PySem.strKind pw w) d kvs→s.heap.IsListIter I l i→s.heap.IsList l items→kvs.length + ds.length < 100000 →
    (∀ h' tk kvs',(∀ b o,b ≠ d→b ≠ I→s.heap.get? b = some o→h'.get? b = some o)→h'.DictOf (PySem.strKind pw w) d kvs'→RD σ N h' kvs' es→R' (.ok (.ret .none)) { s with heap:=h',toks:=tk }) →
    codeAny (model pw w) A (.builtin "dict.update.loop" ⟨[.ref d,.ref I,.int z t,.none],[]⟩) R' s:=by
  intro ds
  induction ds with
  | nil=>
    intro i accD es kvs s z t R' hd rl rd hdict hit hl hsz k
    cases hd
    refine codeAny_builtin zc4 ?_
    rw [Around.under_plainId So _]
    show wpAny _ A.in1 (pyNext (.ref I) >>= _) _ _ s
    have hx:items[i]? = none:=by
      cases q:items.toList.drop i with
      | nil=>rw [← Array.getElem?_toList,List.getElem?_eq_none_iff]; exact List.drop_eq_nil_iff.mp q
      | cons _ _=>rw [q] at rl; cases rl
    refine wpAny_bind (wpAny_pyNext_list_end hh hit hl hx fun h' hs=>?_)
    show wpAny _ A.in1 (Builtin.Dict.addKeywords d [] >>= fun _=>ret Value.none) _ _ _
    have kI:Dy s.heap h':=fun b o im e=>hs b o (fun q=>by subst q; obtain ⟨o',e1,_,e2⟩:=hit; rw [e] at e1; cases e1; rcases im with ⟨_,_,_,q⟩ | q <;> (rw [e2] at q; cases q)) e
    obtain ⟨od,es',ep,h1,h2⟩:=hdict
    exact wpAny_bind (wpAny_pure (wpAny_pure (k h' s.toks kvs (fun b o _ hb e=>hs b o hb e) ⟨od,es',ep,hs _ _ n1 h1,h2⟩ (rd.mono (.refl _ _) (Nat.le_refl _) kI))))
  | cons dd ds ih=>
    intro i accD es kvs s z t R' hd rl rd hdict hit hl hsz k
    obtain ⟨x,y,rfl,hd1⟩:=zfy (show zf6 dd (fun a b=>Wz a fun s=>zcT ds (zaz s b accD)) = some es from hd)
    obtain ⟨cs,rfl,hd2⟩:=Dk.mp hd1
    cases q:items.toList.drop i with
    | nil=>rw [q] at rl; cases rl
    | cons v vr=>
      rw [q] at rl
      cases rl with
      | cons rv rl=>
        have hx:items[i]? = some v:=by rw [← Array.getElem?_toList,← List.head?_drop,q]; rfl
        have hdr:items.toList.drop (i + 1) = vr:=by rw [← List.drop_drop,q]; rfl
        refine codeAny_builtin zc4 ?_
        rw [Around.under_plainId So _]
        show wpAny _ A.in1 (pyNext (.ref I) >>= _) _ _ s
        refine wpAny_bind (wpAny_pyNext_list_item hit hl hx fun h' hit' hs=>?_)
        have kI:Dy s.heap h':=fun b o im e=>(hs.2 b (fun q=>by subst q; obtain ⟨o',e1,_,e2⟩:=hit; rw [e] at e1; cases e1; rcases im with ⟨_,_,_,q⟩ | q <;> (rw [e2] at q; cases q))).trans e
        have rv:=rv.mono (.refl _ _) (Nat.le_refl _) kI
        cases rv with
        | @tup tt ob us n2' _ g1 c1 d1 r1=>
          obtain ⟨u1,u2,hu,ru1,ru2⟩:=r1.two
          · cases ru1 with
            | str key kt kok=>
              have hus:us = #[.str key kt,u2]:=by apply Array.toList_inj.mp; rw [hu]
              subst hus
              show wpAny _ A.in1 (holding [Value.ref tt] _ >>= _) _ _ _
              refine wpAny_bind (wpAny_holding (wpAny_bind (wpAny_tryCatch ?_)))
              unfold Builtin.Dict.pairItems
              refine wpAny_bind (wpAny_typeOf (T:="tuple") ⟨_,g1,c1⟩ ?_)
              rw [if_pos (by decide)]
              refine wpAny_bind (wpAny_seqItems g1 d1 (wpAny_pure ?_))
              show wpAny _ A.in1 (holding [Value.str key kt,u2] (dictSet d (.str key kt) u2)) _ _ _
              have hdict1:h'.DictOf (PySem.strKind pw w) d kvs:=by
                obtain ⟨od,es',ep,h1,h2⟩:=hdict
                exact ⟨od,es',ep,(hs.2 d n1).trans h1,h2⟩
              refine wpAny_holding (wpAny_dictSet_pairs (strKind_is pw w key kt) hdict1 (fun h2 hd2' hs2=>?_) (by rw [sizeLine_eq]; simp at hsz; lia))
              have kI2:Dy h' h2:=fun b o im e=>(hs2.2 b (fun q=>by subst q; obtain ⟨od,es',ep,h1,_,h3,_⟩:=hdict1; rw [e] at h1; cases h1; rcases im with ⟨_,_,_,q⟩ | q <;> (rw [h3] at q; cases q))).trans e
              have hnd:(kvs.map (·.1)).Nodup:=by obtain ⟨_,_,_,_,_,_,_,_,hn⟩:=hdict1; exact hn
              have rd2:RD σ N h2 (stored kvs key u2) (zaz key.cps.toList y accD):=RD.store kok (ru2.mono (.refl _ _) (Nat.le_refl _) kI2) (rd.mono (.refl _ _) (Nat.le_refl _) (fun b o i e=>kI2 b o i (kI b o i e))) hnd
              refine wpAny_pure ⟨plainId_quiet So _,?_⟩
              obtain ⟨oi,i1,i2⟩:=id hit'
              obtain ⟨ol,l1,l2⟩:=id hl
              refine ih (i + 1) _ es _ _ (z + 1) _ R' hd2 ?_ rd2 hd2' ⟨oi,(hs2.2 I n1.symm).trans i1,i2⟩ ⟨ol,(hs2.2 l n2.symm).trans ((hs.2 l n3.symm).trans l1),l2⟩ ?_ fun h3 tk kvs' hk hd3 rd3=>?_
              · rw [hdr]
                exact (rl.mono (.refl _ _) (Nat.le_refl _) kI).mono (.refl _ _) (Nat.le_refl _) kI2
              · have:(stored kvs key u2).length ≤ kvs.length + 1:=stored_length_le ..
                simp at hsz; lia
              · exact k h3 tk kvs' (fun b o b1 b2 e=>hk b o b1 b2 ((hs2.2 b b1).trans ((hs.2 b b2).trans e))) hd3 rd3
theorem zhl {σ:Sg} {N:Nat} {h:Heap} {a:Addr} {kvs:List (Str × Value)} {es:List (List Nat × D)} (x:h.DictOf (PySem.strKind pw w) a kvs) (rd:RD σ N h kvs es):Lo w σ N h a (.dict es):=⟨kvs,x,rd⟩
theorem zgd:zad w zg1 (.type "dict"):=fun st a k r h=>by
  refine bg fun bP bf=>?_
  obtain ⟨n,rfl,h1⟩:=Bt.mp h
  obtain ⟨ob,hn,h2⟩:=Bf.mp h1
  cases ob with
  | ns _=>cases h2
  | cell _=>cases h2
  | dict es=>
    obtain ⟨hl0,h2⟩:=Cc.mp h2
    obtain ⟨hN,h3⟩:=Dm.mp h2
    refine bf ⟨_,_,h3,fun d va A σ s Q E rm o p kk=>?_⟩
    obtain ⟨rfl,_⟩:=p.inv
    obtain ⟨kvs,hd,rd⟩:=o.obj _ _ hn
    have e':kvs.length = es.length:=rd.length
    refine kt_call_dict (zaI (C3 w) o hn) hd (by rw [e']; exact Cd hl0) fun h' hd' hs=>?_
    have hk:∀ b ob,s.heap.get? b = some ob→h'.get? b = some ob:=fun b ob e=>(hs.2 b (Nat.ne_of_lt (Heap.lt_size e))).trans (Heap.get?_push_of_some _ e)
    have o':=o.fresh (o:=.dict es) hN (B8 _) hk (zhl hd' (rd.mono (An _ _) (Nat.le_succ _) (.all hk)))
    have g':Aw NoX σ s.heap st _ h' (st.new (.dict es)):=Aw.fresh_ o hN (B8 _) hk
    refine kk _ _ _ s.toks o' ?_ g'
    have:=R.ref (σ:=more σ st.N s.heap.objs.size) (N:=st.N + 1) (h:=h') st.N (Nat.lt_succ_self _)
    rwa [Bv] at this
  | list xs=>
    obtain ⟨hl0,h2⟩:=Cc.mp h2
    obtain ⟨es,hes,h3⟩:=Bf.mp h2
    obtain ⟨hN,h4⟩:=Dm.mp h3
    refine bf ⟨_,_,h4,fun d va A σ s Q E rm o p kk=>?_⟩
    obtain ⟨rfl,_⟩:=p.inv
    obtain ⟨vs,hpl,rl⟩:=o.obj _ _ hn
    obtain ⟨c,hget⟩:=id hpl
    have hlist:=hpl.isList
    generalize σ.a n = l at *
    refine callType_codes (Q₁:=fun obj s₁=>obj = .ref s.heap.objs.size ∧ s₁ = { s with heap:=s.heap.push { cls:=.type "dict",data:=.dict #[] } }) F.kt_called_dict (F.kt_typeCall_dict_1 _) F.entry_dict_init (kt_code_dict_new _ ⟨rfl,rfl⟩) ?_
    rintro obj s₁ ⟨rfl,rfl⟩
    have hnew:(s.heap.push { cls:=.type "dict",data:=.dict #[] }).DictOf (PySem.strKind pw w) s.heap.objs.size []:=Heap.DictOf.new s.heap
    have k1:∀ b ob,s.heap.get? b = some ob→(s.heap.push { cls:=.type "dict",data:=.dict #[] }).get? b = some ob:=fun b ob e=>Heap.get?_push_of_some _ e
    have hl1:(s.heap.push { cls:=.type "dict",data:=.dict #[] }).IsList l vs:=hlist.push _
    refine ⟨hnew.typeIs,F.args_dict_init_2 _ _,?_⟩
    unfold Builtin.«dict.__init__»
    refine wpAny_bind ?_
    unfold Builtin.Dict.selfAndRest
    refine wpAny_bind (wpAny_notOrdered_dict hnew.typeIs ?_)
    show wpAny _ _ (pure (s.heap.objs.size,[Value.ref l])) _ _ _
    refine wpAny_pure ?_
    show wpAny _ _ (Builtin.Dict.updateFrom "dict.__init__" s.heap.objs.size (.ref l) [] .none) _ _ _
    unfold Builtin.Dict.updateFrom
    refine wpAny_bind (wpAny_typeOf hl1.typeIs ?_)
    rw [if_pos (by decide)]
    refine wpAny_bind (zhT (k1 _ _ hget) rfl rfl rfl rm.hd fun h2' tk2 hk2=>?_)
    obtain ⟨ol,l1,l2⟩:=id hl1
    have hl2:h2'.IsList l vs:=⟨ol,hk2 _ _ l1,l2⟩
    show wpAny _ _ (rule _ >>= fun _=>pyIter (.ref l) >>= fun i=>again (Code.builtin "dict.update.loop" { pos:=[Value.ref s.heap.objs.size,i,rawInt 0,Value.none] })) _ _ _
    refine wpAny_bind (wpAny_rule (wpAny_bind (wpAny_pyIter_list hl2 ?_)))
    have k3:∀ b ob,h2'.get? b = some ob→(h2'.push { cls:=.type "list_iterator",data:=.fields #[.ref l,.int 0 0] }).get? b = some ob:=fun b ob e=>Heap.get?_push_of_some _ e
    have hlt:s.heap.objs.size < h2'.objs.size:=by
      have:=Heap.get?_push_size s.heap (o:={ cls:=.type "dict",data:=.dict #[] }) rfl
      exact Heap.lt_size (hk2 _ _ this)
    have hll:l < s.heap.objs.size:=Heap.lt_size hget
    have kall:∀ b ob,s.heap.get? b = some ob→(h2'.push { cls:=.type "list_iterator",data:=.fields #[.ref l,.int 0 0] }).get? b = some ob:=fun b ob e=>k3 b ob (hk2 b ob (k1 b ob e))
    refine wpAny_pure ⟨plainId_quiet So _,?_⟩
    obtain ⟨od,es',ep,q1,q2⟩:=hnew
    refine zh5 (σ:=σ) (N:=st.N) (A:=A.in1) (l:=l) (d:=s.heap.objs.size) (I:=h2'.objs.size) rm.hd (Nat.ne_of_lt hlt) (Nat.ne_of_gt hll) (Nat.ne_of_gt (Nat.lt_trans hll hlt)) xs 0 [] es [] _ 0 0 _ hes ?_ .nil ⟨od,es',ep,k3 _ _ (hk2 _ _ q1),q2⟩ ⟨_,Heap.get?_push_size _ rfl,rfl,rfl⟩ ⟨ol,k3 _ _ (hk2 _ _ l1),l2⟩ (by simpa using hl0) fun h' tk kvs' hk hd' rd'=>⟨rfl,?_⟩
    · rw [List.drop_zero]
      exact rl.mono (.refl _ _) (Nat.le_refl _) (.all kall)
    · have hk9:∀ b ob,s.heap.get? b = some ob→h'.get? b = some ob:=fun b ob e=>hk b ob (Nat.ne_of_lt (Heap.lt_size e)) (Nat.ne_of_lt (Nat.lt_trans (Heap.lt_size e) hlt)) (kall b ob e)
      have o':=o.fresh (o:=.dict es) hN (B8 _) hk9 (zhl hd' (rd'.mono (An _ _) (Nat.le_succ _) (fun _ _ _ e=>e)))
      have g':Aw NoX σ s.heap st _ h' (st.new (.dict es)):=Aw.fresh_ o hN (B8 _) hk9
      refine kk _ _ _ _ o' ?_ g'
      have:=R.ref (σ:=more σ st.N s.heap.objs.size) (N:=st.N + 1) (h:=h') st.N (Nat.lt_succ_self _)
      rwa [Bv] at this
end
section
variable {w:World} {nt:List (Str × NameKind)} {σ:Sg} {h h':Heap} {st:St} {X:Addr→Prop}
set_option tactic.hygienic true in
theorem Ok.adopt (x:Ok w σ h st) {o:Bb} {a:Addr} (b':st.N < 1000000) (nf:∀ n o,st.get n = some o→σ.a n ≠ a) (ht:(HT w.params).get? a = none) (r:Lo w (more σ st.N a) (st.N + 1) h a o):Ok w (more σ st.N a) h (st.new o):=by
  have b:st.N + 1 < 2 ^ Ee:=B7 (Nat.le_of_lt b')
  exact {
  top:=x.top
  obj:=fun n o' e=>by
    rw [Ai n o b] at e
    split at e
    · rename_i q; subst q; cases e; rw [Bv]; exact r
    · rw [(An _ a).2 n (x.lt n o' e)]
      exact (x.obj n o' e).mono (An _ a) (Nat.le_succ _) (fun _ _ _ e=>e) (fun _ e=>e)
  lt:=fun n o' e=>by
    rw [Ai n o b] at e
    split at e
    · rename_i q; subst q; exact Nat.lt_succ_self _
    · exact Nat.lt_succ_of_lt (x.lt n o' e)
  inj:=fun n m o₁ o₂ e₁ e₂ q=>by
    rw [Ai n o b] at e₁
    rw [Ai m o b] at e₂
    split at e₁ <;> split at e₂
    · rename_i q1 q2; rw [q1,q2]
    · rename_i q1 q2
      subst q1
      rw [Bv,(An _ a).2 m (x.lt m o₂ e₂)] at q
      exact absurd q.symm (nf _ _ e₂)
    · rename_i q1 q2
      subst q2
      rw [Bv,(An _ a).2 n (x.lt n o₁ e₁)] at q
      exact absurd q (nf _ _ e₁)
    · rw [(An _ a).2 m (x.lt m o₂ e₂),(An _ a).2 n (x.lt n o₁ e₁)] at q
      exact x.inj n m o₁ o₂ e₁ e₂ q
  new:=fun n o' e=>by
    rw [Ai n o b] at e
    split at e
    · rename_i q; subst q; rw [Bv]; exact ht
    · rw [(An _ a).2 n (x.lt n o' e)]
      exact x.new n o' e
  bN:=Nat.le_succ_of_le x.bN
  sz:=b' }
set_option tactic.hygienic true in
theorem Aw.adopt {σ₀:Sg} {h₀:Heap} {st₀:St} (y:Aw X σ₀ h₀ st₀ σ h st) (x:Ok w σ h st) {o:Bb} {a:Addr} (b':st.N < 1000000) (h0:h₀.get? a = none) (bl:st₀.base ≤ st₀.N):Aw X σ₀ h₀ st₀ (more σ st.N a) h (st.new o):=by
  have b:st.N + 1 < 2 ^ Ee:=B7 (Nat.le_of_lt b')
  exact {
  le:=Nat.le_succ_of_le y.le
  same:=⟨(An _ a).1.trans y.same.1,fun n l=>((An _ a).2 n (Nat.lt_of_lt_of_le l y.le)).trans (y.same.2 n l)⟩
  dom:=y.dom
  keptB:=y.keptB
  fresh:=fun n o' l e=>by
    rw [Ai n o b] at e
    split at e
    · rename_i q; subst q; rw [Bv]; exact h0
    · rw [(An _ a).2 n (x.lt n o' e)]
      exact y.fresh n o' l e
  old:=fun n o' l e=>by
    rw [Ai n o b,if_neg (Nat.ne_of_lt (Nat.lt_of_lt_of_le l y.le))] at e
    exact y.old n o' l e
  low:=⟨y.low.1,fun n l=>by rw [Ai n o b,if_neg (Nat.ne_of_lt (Nat.lt_of_lt_of_le l (Nat.le_trans bl y.le)))]; exact y.low.2 n l⟩ }
theorem zgM {pos}:SX w nt (zc7 zgn) (.Dict [] [] pos):=fun m c hc e st k r h=>by
  obtain ⟨hN,h2⟩:=Dm.mp (show Dg st (.dict []) (fun n st=>k (.ref n) st) = some r from h)
  refine ⟨_,_,h2,fun env A σ s Q E rm o p kk=>wpAny_Dict_empty ?_⟩
  obtain ⟨o',g',r'⟩:=zt2 (X:=NoX) o (ob:={ cls:=.type "dict",data:=.dict #[] }) (ao:=.dict []) hN ⟨[],Heap.DictOf.new s.heap,.nil⟩
  exact kk _ _ _ s.toks o' r' g'
theorem zg4 {x y:Sm D} {ek ev:Expr} {pos} (hx:SX w nt x ek) (hy:SX w nt y ev):SX w nt (zc7 (zkQ x y zgn)) (.Dict [some ek] [ev] pos):=fun m c hc e st k r h=>by
  refine bg fun bP bf=>?_
  obtain ⟨dk,st1,h1,t1⟩:=hx m c hc e st _ r h
  obtain ⟨dv,st2,h2,t2⟩:=hy m c hc e st1 _ r h1
  obtain ⟨l,rfl,h3⟩:=Dk.mp h2
  obtain ⟨hN,h4⟩:=Dm.mp (show Dg st2 (.dict [(l,dv)]) (fun n st=>k (.ref n) st) = some r from h3)
  refine bf ⟨_,_,h4,fun env A σ s Q E rm o p kk=>?_⟩
  refine wpAny_Dict_walk (knd:=PySem.strKind pw w) rfl rfl (by simp) (by simp) (pairTrees_cons_walk ?_)
  have k0:∀ b ob,s.heap.get? b = some ob→(s.heap.push { cls:=.type "dict",data:=.dict #[] }).get? b = some ob:=fun b ob e=>Heap.get?_push_of_some _ e
  have o0:=o.grow k0
  have hdn:(s.heap.push { cls:=.type "dict",data:=.dict #[] }).DictOf (PySem.strKind pw w) s.heap.objs.size []:=Heap.DictOf.new s.heap
  have hnone:=B8 s.heap
  have nf0:∀ n o',st.get n = some o'→σ.a n ≠ s.heap.objs.size:=fun n o' e z=>by
    obtain ⟨ob,q⟩:=(o.obj n o' e).there
    rw [z,hnone] at q; cases q
  have ht0:(HT w.params).get? s.heap.objs.size = none:=by
    cases z:(HT w.params).get? s.heap.objs.size with
    | none=>rfl
    | some ob=>have:=o.top _ _ z; rw [hnone] at this; cases this
  refine t1 env A σ { s with heap:=s.heap.push { cls:=.type "dict",data:=.dict #[] } } _ E rm o0 (p.grow o k0) fun kv σ1 h1' tk1 o1 r1 g1=>?_
  refine t2 env A σ1 _ _ E rm o1 (Ag.stays _ _ _ _ _ _ o0 o1 g1 (p.grow o k0)) fun vv σ2 h2' tk2 o2 r2 g2=>?_
  have g12:Aw NoX σ s.heap st σ2 h2' st2:=(Aw.grow o k0).trans (g1.trans g2)
  have nf2:∀ n o',st2.get n = some o'→σ2.a n ≠ s.heap.objs.size:=fun n o' e z=>by
    by_cases q:n < st.N
    · obtain ⟨o'',e'⟩:=g12.old n o' q e
      exact nf0 n o'' e' ((g12.same.2 n q).symm.trans z)
    · have:=(g1.trans g2).fresh n o' (Nat.not_lt.mp q) e
      obtain ⟨od,_,_,q1,_⟩:=hdn
      rw [z,q1] at this; cases this
  have hd2:h2'.DictOf (PySem.strKind pw w) s.heap.objs.size []:=by
    obtain ⟨od,es,ep,q1,q2⟩:=hdn
    exact ⟨od,es,ep,(g1.trans g2).kept _ _ q1 (fun f=>f) nf0,q2⟩
  have r1':=r1.goes o1 g2
  cases r1' with
  | str key kt kok=>
    show wpAny _ _ (pure []) _ _ _
    refine wpAny_pure ⟨[(key,vv)],⟨strKind_is pw w key kt,rfl,trivial⟩,hd2,fun h3 hd3 hs3=>?_⟩
    have hm:merged [] [(key,vv)] = [(key,vv)]:=rfl
    rw [hm] at hd3
    have nimm:∀ ob,h2'.get? s.heap.objs.size = some ob→¬ Imm ob:=fun ob e i=>by
      obtain ⟨od,es,ep,q1,_,q2,_⟩:=hd2
      rw [e] at q1; cases q1
      rcases i with ⟨_,_,_,q⟩ | q <;> (rw [q2] at q; cases q)
    have hk3:∀ b ob,b ≠ s.heap.objs.size→h2'.get? b = some ob→h3.get? b = some ob:=fun b ob hb e=>(hs3.2 b hb).trans e
    have o3:=o2.aside nimm ht0 nf2 hk3
    have kI:Dy h2' h3:=fun b ob i e=>hk3 b ob (fun z=>by subst z; exact nimm _ e i) e
    have ob3:Lo w (more σ2 st2.N s.heap.objs.size) (st2.N + 1) h3 s.heap.objs.size (.dict [(key.cps.toList,dv)]):=⟨_,hd3,.cons kok (r2.mono (An _ _) (Nat.le_succ _) kI) .nil⟩
    have o4:=o3.adopt hN nf2 ht0 ob3
    have g4:=(g12.aside_ hnone hk3).adopt o3 (o:=.dict [(key.cps.toList,dv)]) hN hnone o.bN
    refine kk _ _ _ _ o4 ?_ g4
    have:=R.ref (σ:=more σ2 st2.N s.heap.objs.size) (N:=st2.N + 1) (h:=h3) st2.N (Nat.lt_succ_self _)
    rwa [Bv] at this
theorem zdD {prog:Program} {A:Around} {E:Value→Shared→Prop} {s:Shared} {l:Addr} {items:Array Value} {k:Int} {t:Tok} {v:Value} {Q:Unit→Shared→Prop} (hpl:s.heap.PlainList l items)
    (h0:0 ≤ k) (hfit:k < 2 ^ 63) (hn:k < items.size) (hQ:∀ h',h'.PlainList l (items.setIfInBounds k.toNat v)→Heap.SameBut l s.heap h'→Q () { s with heap:=h' }):
    wpAny (model prog w) A (PySem.setItem (.ref l) (.int k t) v) Q E s:=by
  have hl:=hpl.isList
  obtain ⟨n0,hp0⟩:=id hpl
  obtain ⟨o,ho,hc,ne,hd⟩:=id hl
  unfold PySem.setItem
  try with_reducible refine wpAny_holding ?_
  first | refine wpAny_bind (wpAny_pure ?_) | skip
  refine wpAny_bind (wpAny_sequenceKey hl.typeIs (by decide) ?_)
  refine wpAny_bind (wpAny_callSpecial?_slot (name:=Str.ofString "__setitem__") hl.typeIs slot_list_setitem
    (wpAny_call_entry slot_list_setitem hl.typeIs entry_list_setitem ?_ (args_list_setitem _ _ _)))
  show wpAny _ _ (Builtin.List.listSubscript? (.int k t) >>= _) _ _ s
  refine wpAny_bind (wpAny_listSubscript_int (fitsIndex_of h0 hfit) ?_)
  clear hfit
  obtain ⟨j,rfl⟩:=Int.eq_ofNat_of_zero_le h0
  have hj:j < items.size:=by lia
  have hx':items[j]? = some items[j]:=Array.getElem?_eq_getElem hj
  show wpAny _ _ ((seqItemAt l j >>= fun r=>pure (r.map (j,·))) >>= _) _ _ s
  refine wpAny_bind (wpAny_bind (wpAny_seqItemAt ho hd (wpAny_pure ?_)))
  rw [hx']
  show wpAny _ _ (setSeqItemAt l j v >>= _) _ _ s
  have hfin:(s.heap.update l (Obj.mapSeq (·.setIfInBounds j v))).PlainList l (items.setIfInBounds j v):=Sl hp0 _
  refine wpAny_bind (wpAny_setSeqItemAt ho hd ?_)
  first
    | exact wpAny_bind (wpAny_pure (wpAny_pure ⟨.none,rfl,wpAny_pure (hQ _ hfin (Heap.SameBut.update ..))⟩))
    | exact wpAny_pure ⟨.none,rfl,wpAny_pure (hQ _ hfin (Heap.SameBut.update ..))⟩
theorem RL.set {σ:Sg} {N:Nat} {h:Heap} {u:Value} {d:D} (r:R σ N h u d) {vs:List Value} {ds:List D} (j:Nat) (x:RL σ N h vs ds):RL σ N h (vs.set j u) (ds.set j d):=
  RL.ind (P:=fun vs ds=>∀ j,RL σ N h (vs.set j u) (ds.set j d)) (fun _=>.nil) (fun a b ih j=>by
    cases j with
    | zero=>exact .cons r b
    | succ j=>exact .cons a (ih j)) x j
theorem Y8 {x y:Sm D} {ex ey:Expr} {pos} (hx:SX w nt x ex) (hy:SX w nt y ey):SG w nt (R0 x y) (.Subscript ex ey pos):=fun m c hc e d st k r h=>by
  obtain ⟨dx,st1,h1,t1⟩:=hx m c hc e st _ r h
  obtain ⟨dy,st2,h2,t2⟩:=hy m c hc e st1 _ r h1
  obtain ⟨n,rfl,h3⟩:=Bt.mp h2
  obtain ⟨ob,hn,h4⟩:=Bf.mp h3
  have start:∀ {Q:Unit→Shared→Prop} {E:Value→Shared→Prop} {env:Env} {v:Value} {A:Around} {σ:Sg} {s:Shared},Rm A (2 * m + 3)→Ok w σ s.heap st→Ag w nt env e σ st s.heap→R σ st.N s.heap v d →
      (∀ σ2 h2' tk2,Ok w σ2 h2' st2→Ag w nt env e σ2 st2 h2'→Aw NoX σ s.heap st σ2 h2' st2→R σ2 st2.N h2' v d→∀ iv,R σ2 st2.N h2' iv dy→wpAny (model pw w) A (PySem.setItem (.ref (σ2.a n)) iv v) Q E { s with heap:=h2',toks:=tk2 })→wpAny (model pw w) A (assign (.Subscript ex ey pos) env v) Q E s:=by
    intro Q E env v A σ s rm o p rv kk
    rw [assign_Subscript]
    refine wpAny_bind (wpAny_holding (t1 env A σ s _ E rm o p fun ov σ1 h1' tk1 o1 r1 g1=>?_))
    refine wpAny_bind (wpAny_holding (t2 env A σ1 _ _ E rm o1 (Ag.stays _ _ _ _ _ _ o o1 g1 p) fun iv σ2 h2' tk2 o2 r2 g2=>?_))
    have ra:=r1.goes o1 g2
    cases ra
    refine wpAny_bind (wpAny_standAt (wpAny_bind (wpAny_holding (wpAny_mono (kk σ2 h2' tk2 o2 (Ag.stays _ _ _ _ _ _ o o2 (g1.trans g2) p) (g1.trans g2) (rv.goes o (g1.trans g2)) iv r2) (fun _ s' q=>?_) fun _ _ x=>x))))
    exact wpAny_release q
  cases ob with
  | ns _=>cases h4
  | cell _=>cases h4
  | list xs=>
    obtain ⟨i,rfl,h5⟩:=Bh.mp h4
    obtain ⟨j,rfl,h6⟩:=O0.mp h5
    obtain ⟨hl,h7⟩:=Cc.mp h6
    obtain ⟨hj,h8⟩:=Ar.mp h7
    obtain ⟨hb,h9⟩:=J5.mp h8
    rw [Nat.blt_eq,Mine.En] at hj
    rw [Za] at h9
    refine ⟨e,_,h9,fun env v A σ s Q E rm o p kk=>start rm o p.1 p.2 fun σ2 h2' tk2 o2 p2 g2 rv iv ri=>?_⟩
    cases ri with
    | int _ t=>
      obtain ⟨vs,hpl,rl⟩:=o2.obj _ _ hn
      have sz:vs.size = xs.length:=by simpa using rl.length
      refine zdD (k:=(j:Int)) hpl (Int.natCast_nonneg _) (by rw [sz] at *; have:=Cd hl; lia) (by rw [sz]; lia) fun h3 hpl3 hs3=>?_
      obtain ⟨o3,g3,_⟩:=Yx (ys:=xs.set j d) o2 hn hb hs3 hpl3 (by rw [Array.toList_setIfInBounds]; exact RL.set rv j rl)
      exact kk () σ2 h3 tk2 o3 (Ag.stays _ _ _ _ _ _ o2 o3 g3 p2) (g2.trans g3).any
  | dict es=>
    obtain ⟨l,rfl,h5⟩:=Dk.mp h4
    obtain ⟨hl,h6⟩:=Cc.mp h5
    obtain ⟨hb,h9⟩:=J5.mp h6
    refine ⟨e,_,h9,fun env v A σ s Q E rm o p kk=>start rm o p.1 p.2 fun σ2 h2' tk2 o2 p2 g2 rv iv ri=>?_⟩
    cases ri with
    | str key t kok=>
      obtain ⟨kvs,hd,rd⟩:=o2.obj _ _ hn
      have sz:kvs.length = es.length:=rd.length
      refine wpAny_setItem_pairs (strKind_is pw w key t) hd (fun h3 hd3 hs3=>?_) (by rw [sz]; exact Cd hl)
      have hnd:(kvs.map (·.1)).Nodup:=by obtain ⟨_,_,_,_,_,_,_,_,hn⟩:=hd; exact hn
      have kI:Dy h2' h3:=fun b ob i e=>(hs3.2 b fun z=>by subst z; exact (o2.obj _ _ hn).notImm e i).trans e
      have ob3:Lo w σ2 st2.N h3 (σ2.a n) (.dict (zaz key.cps.toList d es)):=⟨_,hd3,RD.store kok (rv.mono (.refl _ _) (Nat.le_refl _) kI) (rd.mono (.refl _ _) (Nat.le_refl _) kI) hnd⟩
      have o3:=o2.upd hn hs3 ob3
      have g3:Aw NoX σ2 h2' st2 σ2 h3 _:=Aw.upd_ o2 hb hn hs3 ob3
      exact kk () σ2 h3 _ o3 (Ag.stays _ _ _ _ _ _ o2 o3 g3 p2) (g2.trans g3).any
end
section
variable {w:World} {nt:List (Str × NameKind)}
noncomputable def zj2 (nt:List (Str × NameKind)):Expr→Bool
  | .Name id _=>nt.lookup id != some .local
  | _=>true
theorem Ui {α β:Type} {f:α→Option β}:∀ {l:List α},(∃ a ∈ l,f a = none)→(l.filterMap f).length < l.length
  | a :: r,⟨b,hb,e⟩=>by
    rcases List.mem_cons.mp hb with rfl | hb
    · rw [List.filterMap_cons,e]
      exact Nat.lt_succ_of_le (List.length_filterMap_le ..)
    · have ih:=Ui (f:=f) ⟨b,hb,e⟩
      rw [List.filterMap_cons]
      cases f a with
      | none=>exact Nat.lt_succ_of_lt ih
      | some v=>exact Nat.succ_lt_succ ih
theorem zkZ {α:Type} {c:Prop} [Decidable c] {x y z:α} (a:x = z) (b:y = z):(if c then x else y) = z:=by
  by_cases q:c
  · rw [if_pos q]; exact a
  · rw [if_neg q]; exact b
theorem zfA {ts vs:List Expr} {k k2:Nat} {p p2:Pos} {env:Env} (hk:∀ x,env.kindOf x = nt.lookup x) (h:ts.any (zj2 nt) = true):swappedStores [.Tuple ts k p] (.Tuple vs k2 p2) env = pure none:=by
  unfold swappedStores
  dsimp only
  refine zkZ rfl (zkZ rfl ?_)
  rw [if_pos]
  rw [Bool.or_eq_true]
  refine .inl ?_
  rw [bne_iff_ne]
  refine Nat.ne_of_lt (Ui ?_)
  obtain ⟨t,ht,ht2⟩:=List.any_eq_true.mp h
  refine ⟨t,ht,?_⟩
  cases t with
  | Name id pos=>
    have ht2:(nt.lookup id != some .local) = true:=ht2
    show (if (env.kindOf id == some .local && _) = true then some id else none) = none
    rw [hk,if_neg]
    rw [bne_iff_ne] at ht2
    simp [ht2]
  | _=>rfl
theorem zeQ {ts vs:List Expr} {k k2:Nat} {p p2:Pos} {env:Env} (h:vs.all (foldedForSure 8) = true):swappedStores [.Tuple ts k p] (.Tuple vs k2 p2) env = pure none:=by
  unfold swappedStores
  dsimp only
  refine zkZ rfl (zkZ rfl (zkZ rfl ?_))
  rw [if_pos h]
theorem Ag.kinds {env:Env} {e:Ax} {σ:Sg} {st:St} {h:Heap} (x:Ag w nt env e σ st h) (y:Str):env.kindOf y = nt.lookup y:=by unfold Env.kindOf; rw [x.names]
theorem ze5 {t:Tg} {x:Sm D} {et ex:Expr} {pos} (ht:SG w nt t et) (hx:SX w nt x ex) (hs:∀ env,swapsWithSole [et] ex pos.line env = pure false) (hw:∀ env,(∀ x,env.kindOf x = nt.lookup x)→swappedStores [et] ex env = pure none) (hn:Ay et = true):
    SS w nt (Ap t x) (.Assign [et] ex pos):=fun m c hc e st ret next r h=>by
  obtain ⟨dx,st1,h1,t1⟩:=hx m c hc e st _ r h
  obtain ⟨e2,st2,h2,t2⟩:=ht m c hc e dx st1 _ r h1
  refine .inr ⟨e2,st2,h2,fun env A σ s Q E r o p k=>?_⟩
  refine wpAny_Assign_stores ?_ (hs env) (hw env p.kinds)
  refine t1 env A σ s _ E r o p fun v σ' h' tk' o' rv g=>?_
  rw [Ei hn]
  show wpAny _ _ (assign et env v) _ _ _
  exact t2 env v A σ' _ _ E r o' ⟨Ag.stays _ _ _ _ _ _ o o' g p,rv⟩ fun _ σ'' h'' tk'' o'' q' g'=>k _ σ'' h'' tk'' o'' ⟨rfl,q'⟩ (g.any.trans g')
theorem Vu {t:Tg} {x:Sm D} {ts vs:List Expr} {k k2:Nat} {p p2 pos:Pos} (ht:SG w nt t (.Tuple ts k p)) (hx:SX w nt x (.Tuple vs k2 p2)) (h:autoParam (ts.any (zj2 nt) = true) tDe):SS w nt (Ap t x) (.Assign [.Tuple ts k p] (.Tuple vs k2 p2) pos):=
  ze5 ht hx (fun _=>rfl) (fun env hk=>zfA hk h) rfl
theorem zfr {t:Tg} {x:Sm D} {ts vs:List Expr} {k k2:Nat} {p p2 pos:Pos} (ht:SG w nt t (.Tuple ts k p)) (hx:SX w nt x (.Tuple vs k2 p2)) (h:autoParam (vs.all (foldedForSure 8) = true) tR):SS w nt (Ap t x) (.Assign [.Tuple ts k p] (.Tuple vs k2 p2) pos):=
  ze5 ht hx (fun _=>rfl) (fun env _=>zeQ h) rfl
theorem zfu {n1 n2:Str} {p1 p2 q1 q2:Pos} {e1 e2:Expr} {k k2:Nat} {env:Env} (hb:env.blockKind = .function) (h1:env.kindOf n1 = some .local) (h2:env.kindOf n2 = some .local) (hl:(p2.line == p1.line) = true) (hne:(n1 == n2) = false) (hs1:Ay e1 = true) (hs2:Ay e2 = true)
    (hf:[e1,e2].all (foldedForSure 8) = false) (hc:[e1,e2].all (constantsAlone 8) = false):swappedStores [.Tuple [.Name n1 p1,.Name n2 p2] k q1] (.Tuple [e1,e2] k2 q2) env = pure (some [n1,n2]):=by
  unfold swappedStores
  dsimp only
  have l1:(p1.line == p1.line) = true:=beq_self_eq_true _
  have l2:(Option.map (fun (x:Expr)=>x.pos.line) [Expr.Name n1 p1,Expr.Name n2 p2].head?).getD 0 = p1.line:=rfl
  have hne2:(n2 == n1) = false:=by rw [beq_eq_false_iff_ne] at hne ⊢; exact hne.symm
  have a1:∀ e,Ay e = true→(match e with | .Starred ..=>true | _=>false) = false:=fun e h=>by cases e <;> first | rfl | cases h
  rw [l2]
  simp only [List.filterMap_cons,List.filterMap_nil,h1,h2,l1,hl,BEq.rfl,Bool.and_self,if_true,hf,hc,Bool.false_eq_true,if_false]
  rw [if_neg (by rw [hb]; simp),if_neg,if_neg]
  · simp [List.eraseDups_cons,hne2]
  · have any_no:∀ f:Expr→Bool,f e1 = false→f e2 = false→¬ ([e1,e2].any f) = true:=fun f h1 h2=>by rw [List.any_cons,List.any_cons,List.any_nil,h1,h2]; exact Bool.false_ne_true
    refine any_no _ ?_ ?_
    · clear hs2; cases e1 <;> first | rfl | (cases hs1)
    · clear hs1; cases e2 <;> first | rfl | (cases hs2)
theorem zb5 (hn:Ae nt) {i1 i2:Nat} {n1 n2:Str} {p1 p2 q1 q2 pos:Pos} {k k2:Nat} {e1 e2:Expr} {xs:Sm (List D)} (r1:nt[i1]? = some (n1,.local)) (r2:nt[i2]? = some (n2,.local)) (hx:SL w nt xs [e1,e2]) (hl:autoParam ((p2.line == p1.line) = true) tR) (hne:autoParam ((n1 == n2) = false) tDe) (hs1:autoParam (Ay e1 = true) tR) (hs2:autoParam (Ay e2 = true) tR)
    (hf:autoParam ([e1,e2].all (foldedForSure 8) = false) tR) (hc:autoParam ([e1,e2].all (constantsAlone 8) = false) tR):SS w nt (zgL (B5 (A8 i2) (B5 (A8 i1) Dz)) xs) (.Assign [.Tuple [.Name n1 p1,.Name n2 p2] k q1] (.Tuple [e1,e2] k2 q2) pos):=fun m c hc' e st ret next r h=>by
  obtain ⟨ds,st1,h1,hl1,t1⟩:=hx m c hc' e st _ r h
  obtain ⟨d1,d2,rfl⟩:=zuM hl1
  · refine .inr ⟨_,_,h1,fun env A σ s Q E rm o p kk=>?_⟩
    have hb:env.blockKind = .function:=by unfold Env.blockKind; rw [p.kind]; rfl
    refine Assign_Tuple_swapped (names:=[n1,n2]) ?_ rfl (zfu hb (p.kindOf hn r1) (p.kindOf hn r2) hl hne hs1 hs2 hf hc)
    rw [arm_eval_Tuple]
    refine wpAny_bind (wpAny_standAt (wpAny_bind (t1 env q2 A σ s _ E rm o p fun vs σ1 h1' tk1 o1 rl g1=>?_)))
    have p1':=Ag.stays _ _ _ _ _ _ o o1 g1 p
    obtain ⟨v1,v2,rfl,ra,rb⟩:=rl.two
    · refine wpAny_newTuple ?_ (Nat.le_of_ble_eq_true rfl)
      have kp:∀ b ob,h1'.get? b = some ob→(h1'.push { cls:=.type "tuple",data:=.seq [v1,v2].toArray }).get? b = some ob:=fun b ob e=>Heap.get?_push_of_some _ e
      have hT:(h1'.push { cls:=.type "tuple",data:=.seq [v1,v2].toArray }).IsTuple h1'.objs.size [v1,v2].toArray:=⟨_,Qw h1' _,rfl,_,rfl⟩
      show wpAny _ _ (unpackItems (.ref h1'.objs.size) ([v1,v2].toArray.size) none) _ _ _
      refine wpAny_unpackItems_tuple rm.hd hT fun h2 hx2=>?_
      have k2:=zfF hx2
      have k3:∀ b ob,h1'.get? b = some ob→h2.get? b = some ob:=fun b ob e=>k2 b ob (kp b ob e)
      have o2:=o1.grow k3
      have p2':=p1'.grow o1 k3
      have ra:=ra.mono (.refl _ _) (Nat.le_refl _) (.all k3)
      have rb:=rb.mono (.refl _ _) (Nat.le_refl _) (.all k3)
      have g2:Aw NoX σ s.heap st σ1 h2 st1:=g1.trans (Aw.grow o1 k3)
      · show wpAny _ _ (assignInOrder [fun v=>bindName env n2 v,fun v=>bindName env n1 v] [v2,v1]) _ _ _
        refine wpAny_assignInOrder_more (wpAny_bindName (Ag.stored hn r2 o2 p2' rb fun h3 o3 p3 g3=>?_))
        have ra3:R σ1 st1.N h3 v1 d1:=ra.goesL p2' o2 g3
        refine wpAny_assignInOrder_more (wpAny_bindName (Ag.stored hn r1 o3 p3 ra3 fun h4 o4 p4 g4=>?_))
        exact wpAny_assignInOrder_none (kk _ σ1 h4 _ o4 ⟨rfl,p4⟩ ((g2.any.trans g3).trans g4))
end
section
variable {w:World} {nt:List (Str × NameKind)}
theorem zsp {nc:List (Str × NameKind)} {t:Tg} {ts:Sm Bool} {cb:Cb} {elt target iter:Expr} {ifs:List Expr} {scope:Scope} {pos:Pos} (hC:Er (.ListComp elt [⟨target,iter,ifs,0⟩] scope pos) 0) (ht:SG w nc t target) (hs:SF w nc ts ifs) (hb:SCb w nc cb (Gi elt)):
    Mk w nc (.ListComp elt [⟨target,iter,ifs,0⟩] scope pos) 0 (Bl t ts cb):=fun it hz m c hc e acc st k r h=>Xm hC (znS ..) ht hs hb it hz m c hc acc k r LF 0 e st h
theorem zlX {nc:List (Str × NameKind)} {t:Tg} {ts:Sm Bool} {cb:Cb} {elt target iter target2 iter2:Expr} {ifs ifs2:List Expr} {scope:Scope} {pos:Pos} (hC1:Er (.ListComp elt [⟨target,iter,ifs,0⟩,⟨target2,iter2,ifs2,0⟩] scope pos) 1) (ht2:SG w nc t target2) (hs2:SF w nc ts ifs2) (hb:SCb w nc cb (Gi elt)):
    Mk w nc (.ListComp elt [⟨target,iter,ifs,0⟩,⟨target2,iter2,ifs2,0⟩] scope pos) 1 (Bl t ts cb):=fun it hz m c hc e acc st k r h=>Xm hC1 (zpI ..) ht2 hs2 hb it hz m c hc acc k r LF 0 e st h
theorem ztS {nc:List (Str × NameKind)} {t t2:Tg} {ts ts2:Sm Bool} {cb:Cb} {i2:Sm It} {elt target iter target2 iter2:Expr} {ifs ifs2:List Expr} {scope:Scope} {pos:Pos} (hC:Er (.ListComp elt [⟨target,iter,ifs,0⟩,⟨target2,iter2,ifs2,0⟩] scope pos) 0) (hC1:Er (.ListComp elt [⟨target,iter,ifs,0⟩,⟨target2,iter2,ifs2,0⟩] scope pos) 1) (hS1:Gg (.ListComp elt [⟨target,iter,ifs,0⟩,⟨target2,iter2,ifs2,0⟩] scope pos) 1)
    (ht:SG w nc t target) (hs:SF w nc ts ifs) (hi:SI w nc i2 iter2) (ht2:SG w nc t2 target2) (hs2:SF w nc ts2 ifs2) (hb:SCb w nc cb (Gi elt)) (hfs:autoParam (∀ env x,foldedSetIterable iter2 env x = pure x) tR):
    Mk w nc (.ListComp elt [⟨target,iter,ifs,0⟩,⟨target2,iter2,ifs2,0⟩] scope pos) 0 (Bl t ts (zdU i2 (Bl t2 ts2 cb))):=fun it hz m c hc e acc st k r h=>
  Xm hC (zqk ..) ht hs (zlR hS1 hC1 hi hfs (zlX hC1 ht2 hs2 hb)) it hz m c hc acc k r LF 0 e st h
theorem scp (nc:List (Str × NameKind)) {n:Nat} {cs:List (Nat × Nat)} {i:Sm It} {l:It→Cb} {iter target elt:Expr} {ifs:List Expr} {gs:List Comprehension} {scope:Scope} {pos:Pos} (hn:Ae nt) (hS:Gg (.ListComp elt (⟨target,iter,ifs,0⟩ :: gs) scope pos) 0) (hC:Er (.ListComp elt (⟨target,iter,ifs,0⟩ :: gs) scope pos) 0) (hk:scope.kind = .function) (hco:Sv nt scope.names cs = true)
    (hi:SI w nt i iter) (hnc:Ow nt scope.names = nc) (hl:Mk w nc (.ListComp elt (⟨target,iter,ifs,0⟩ :: gs) scope pos) 0 l) (hfs:autoParam (∀ env x,foldedSetIterable iter env x = pure x) tR):SX w nt (Bw n cs i l) (.ListComp elt (⟨target,iter,ifs,0⟩ :: gs) scope pos):=by
  subst hnc; exact zo8 hn hS hC (.of hk hco) hi hl hfs
theorem zl5 (nc:List (Str × NameKind)) {n j:Nat} {y:Str} {py spos:Pos} {cs:List (Nat × Nat)} {i:Sm It} {l:It→Cb} {iter target elt:Expr} {ifs:List Expr} {gs:List Comprehension} {scope:Scope} {pos:Pos} (hn:Ae nt) (q:nt[j]? = some (y,.local)) (hsw:((py.line == pos.line) && !(scope.names.any fun p=>p.1 == y && (p.2 == .local || p.2 == .cell))) = true) (hS:Gg (.ListComp elt (⟨target,iter,ifs,0⟩ :: gs) scope pos) 0) (hC:Er (.ListComp elt (⟨target,iter,ifs,0⟩ :: gs) scope pos) 0) (hk:scope.kind = .function) (hco:Sv nt scope.names cs = true)
    (hi:SI w nt i iter) (hnc:Ow nt scope.names = nc) (hl:Mk w nc (.ListComp elt (⟨target,iter,ifs,0⟩ :: gs) scope pos) 0 l) (hfs:autoParam (∀ env x,foldedSetIterable iter env x = pure x) tR):SS w nt (Ap (A8 j) (Bw n cs i l)) (.Assign [.Name y py] (.ListComp elt (⟨target,iter,ifs,0⟩ :: gs) scope pos) spos):=by
  subst hnc; exact zfD hn q hsw hS hC (.of hk hco) hi hl hfs
abbrev zq2 (h:Heap) (l1 l2:Addr):Heap:=(zipH1 h l1).push { cls:=.type "tuple_iterator",data:=.fields #[.ref l2,.int 0 0] }
abbrev zq3 (h:Heap) (l1 l2:Addr):Heap:=(zq2 h l1 l2).push { cls:=.type "tuple",data:=.seq #[.ref h.objs.size,.ref (zipH1 h l1).objs.size] }
abbrev zq4 (h:Heap) (l1 l2:Addr):Heap:=(zq3 h l1 l2).push { cls:=.type "tuple",data:=.seq #[.none,.none] }
abbrev zq5 (h:Heap) (l1 l2:Addr):Heap:=(zq4 h l1 l2).push { cls:=.type "zip",data:=.fields #[.none,.bool false,.bool false,.ref (zq2 h l1 l2).objs.size,.ref (zq3 h l1 l2).objs.size] }
theorem zeB (l1 l2:Addr) (xs ys:Array Value):
    Meets (Builtin.«zip.__new__» ⟨[.type "zip",.ref l1,.ref l2],[]⟩) (fun _ R s=>s.heap.IsList l1 xs ∧ s.heap.IsTuple l2 ys ∧
      R (.ok (.ret (.ref (zq4 s.heap l1 l2).objs.size))) { s with heap:=zq5 s.heap l1 l2 }):=
  .of_wp fun prog w A R s h=>by
    obtain ⟨hp,g,d,tk,os⟩:=s; obtain ⟨hl1,hl2,h⟩:=h
    have hsub:=sub_zip
    have hL1:Heap.IsList (Shared.heap ⟨hp,g,d,tk,os⟩) l1 xs:=hl1
    have hL2:Heap.IsTuple (Shared.heap ⟨hp.push { cls:=.type "list_iterator",data:=.fields #[.ref l1,.int 0 0] },g,d,tk,os⟩) l2 ys:=Heap.IsTuple.push hl2 _
    wp_walk using wpAny_pyIter_list hL1,wpAny_pyIter_tuple hL2
    exact ⟨_,rfl,h⟩
theorem ze8 {prog:Program} {A:Around} {E:Value→Shared→Prop} {s:Shared} {l1 l2:Addr} {xs ys:Array Value} {Q:Value→Shared→Prop} (hl1:s.heap.IsList l1 xs) (hl2:s.heap.IsTuple l2 ys)
    (h:∀ h',IsZip h' (s.heap.objs.size + 4) (s.heap.objs.size + 2) (s.heap.objs.size + 3) .none→IsPair h' (s.heap.objs.size + 2) (.ref s.heap.objs.size) (.ref (s.heap.objs.size + 1)) →
      IsPair h' (s.heap.objs.size + 3) .none .none→h'.IsListIter s.heap.objs.size l1 0 →
      (∀ c o,s.heap.get? c = some o→h'.get? c = some o)→Q (.ref (s.heap.objs.size + 4)) { s with heap:=h' }):
    wpAny (model prog w) A (call (.type "zip") [.ref l1,.ref l2]) Q E s:=by
  refine callType_new F.called_zip (by decide) (F.typeCall_zip_2 _ _) (F.newCall_zip_2 _ _) (fun obj=>F.args_object_init_3 obj _ _) F.entry_zip_new
    (zeB l1 l2 xs ys) ⟨hl1,hl2,?_⟩
  have z1:(zipH1 s.heap l1).objs.size = s.heap.objs.size + 1:=Heap.size_push ..
  have z2:(zq2 s.heap l1 l2).objs.size = s.heap.objs.size + 2:=by rw [Heap.size_push,z1]
  have z3:(zq3 s.heap l1 l2).objs.size = s.heap.objs.size + 3:=by rw [Heap.size_push,z2]
  have z4:(zq4 s.heap l1 l2).objs.size = s.heap.objs.size + 4:=by rw [Heap.size_push,z3]
  have g5:(zq5 s.heap l1 l2).get? (zq4 s.heap l1 l2).objs.size = some _:=Heap.get?_push_size _ rfl
  have g4:(zq5 s.heap l1 l2).get? (zq3 s.heap l1 l2).objs.size = some _:=Heap.get?_push_of_some _ (Heap.get?_push_size _ rfl)
  have g3:(zq5 s.heap l1 l2).get? (zq2 s.heap l1 l2).objs.size = some _:=Heap.get?_push_of_some _ (Heap.get?_push_of_some _ (Heap.get?_push_size _ rfl))
  have g1:(zq5 s.heap l1 l2).get? s.heap.objs.size = some _:=Heap.get?_push_of_some _ (Heap.get?_push_of_some _ (Heap.get?_push_of_some _ (Heap.get?_push_of_some _ (Heap.get?_push_size _ rfl))))
  show _ ∧ _
  rw [z2,z3,z4] at g5
  rw [z1,z2] at g3
  rw [z3] at g4
  rw [z4]
  exact ⟨⟨_,g5,rfl⟩,h _ g5 g3 g4 ⟨_,g1,rfl,rfl⟩ fun c o x=>
    Heap.get?_push_of_some _ (Heap.get?_push_of_some _ (Heap.get?_push_of_some _ (Heap.get?_push_of_some _ (Heap.get?_push_of_some _ x))))⟩
theorem zfL {prog:Program} {A:Around} {E:Value→Shared→Prop} {s:Shared} {z TI TO i1 l1:Addr} {i2:Value} {Q:Option Value→Shared→Prop} (hh:A.handled = none) (i1z:i1 ≠ z) (l1z:l1 ≠ z) (hz:IsZip s.heap z TI TO .none) (hTI:IsPair s.heap TI (.ref i1) i2)
    (h1:s.heap.IsListIter i1 l1 0) (hl1:s.heap.IsList l1 #[]) (hQ:∀ h',(∀ c o,c ≠ z→c ≠ i1→s.heap.get? c = some o→h'.get? c = some o)→Q none { s with heap:=h' }):
    wpAny (model prog w) A (pyNext (.ref z)) Q E s:=by
  have hT:s.TypeIs (.ref z) "zip":=⟨_,hz,rfl⟩
  unfold pyNext
  refine wpAny_bind (wpAny_attempt (wpAny_callSpecial?_slot (name:=Str.ofString "__next__") hT F.slot_zip_next
    (wpAny_call_entry F.slot_zip_next hT F.entry_zip_next ?_ (F.args_zip_next_1 _))))
  show wpAny _ _ (field (.ref z) 2 >>= _) _ _ _
  refine wpAny_bind (wpAny_field hz rfl (x:=.bool false) rfl ?_)
  show wpAny _ _ (field (.ref z) 3 >>= _) _ _ _
  refine wpAny_bind (wpAny_field hz rfl (x:=.ref TI) rfl ?_)
  refine wpAny_bind (wpAny_seqItems hTI rfl ?_)
  show wpAny _ _ (Builtin.SmallTypes.ownedTupleIsFree (.ref z) >>= _) _ _ _
  refine wpAny_bind ?_
  unfold Builtin.SmallTypes.ownedTupleIsFree
  refine wpAny_bind (wpAny_field hz rfl (x:=.none) rfl (wpAny_pure ?_))
  simp only [if_true]
  refine wpAny_bind (wpAny_rule ?_)
  refine wpAny_bind (wpAny_field hz rfl (x:=.ref TO) rfl ?_)
  refine wpAny_bind (wpAny_setField_rec hz (by simp) fun h₁ hz₁ hs₁=>?_)
  replace hz₁:IsZip h₁ z TI TO .ellipsis:=hz₁
  refine wpAny_bind ?_
  simp only [List.zipIdx_cons,List.zipIdx_nil,List.forIn_cons,List.forIn_nil]
  refine wpAny_bind (wpAny_bind (wpAny_onRaise ?_))
  show wpAny _ _ (Builtin.SmallTypes.nextOf (.ref i1) >>= _) _ _ _
  refine wpAny_bind (wpAny_nextOf_list_end hh (h1.extBut hs₁.extBut i1z) (hl1.extBut hs₁.extBut l1z) rfl fun h₂ e hs₂ he=>?_)
  obtain ⟨oe,hoe,hce⟩:=he
  have hz₂:IsZip h₂ z TI TO .ellipsis:=hs₂ _ _ i1z.symm hz₁
  have hez:e ≠ z:=fun x=>by subst x; rw [hz₂] at hoe; cases hoe; simp at hce
  refine wpAny_setField_rec hz₂ (by simp) fun h₃ _ hs₃=>?_
  refine wpAny_bind (wpAny_isInstance (T:="StopIteration") (b:=true) ⟨oe,hs₃.extBut _ _ hez hoe,hce⟩ isSubtype_stop ?_)
  exact wpAny_pure (hQ _ fun c o c1 c3 x=>hs₃.extBut _ _ c1 (hs₂ _ _ c3 (hs₁.extBut _ _ c1 x)))
end
section
variable {w:World} {nt:List (Str × NameKind)}
theorem Ok.asideP {σ:Sg} {h h':Heap} {st:St} (x:Ok w σ h st) {P:Addr→Prop} (hi:∀ b o,P b→h.get? b = some o→¬ Imm o) (ht:∀ b,P b→(HT w.params).get? b = none) (hf:∀ n o,st.get n = some o→¬ P (σ.a n)) (hs:∀ b o,¬ P b→h.get? b = some o→h'.get? b = some o):Ok w σ h' st where
  top:=fun b o' e=>hs b _ (fun q=>by rw [ht b q] at e; cases e) (x.top b o' e)
  obj:=fun n o' e=>(x.obj n o' e).mono (.refl _ _) (Nat.le_refl _) (fun b o₁ i e₁=>hs b _ (fun q=>hi _ _ q e₁ i) e₁) (fun o₁ e₁=>hs _ _ (hf n o' e) e₁)
  lt:=x.lt
  inj:=x.inj
  new:=x.new
  bN:=x.bN
  sz:=x.sz
theorem Aw.asideP {X:Addr→Prop} {σ₀ σ:Sg} {h₀ h h':Heap} {st₀ st:St} (y:Aw X σ₀ h₀ st₀ σ h st) {P:Addr→Prop} (e₀:∀ b,P b→h₀.get? b = none) (hd:∀ b o,h₀.get? b = some o→∃ o',h'.get? b = some o') (hs:∀ b o,¬ P b→h.get? b = some o→h'.get? b = some o):Aw X σ₀ h₀ st₀ σ h' st where
  le:=y.le
  same:=y.same
  dom:=hd
  keptB:=fun b o e q k=>hs b _ (fun q=>by rw [e₀ b q] at e; cases e) (y.keptB b o e q k)
  fresh:=y.fresh
  old:=y.old
  low:=y.low
set_option tactic.hygienic true in
theorem zgh {n i:Nat} {gn:Str} {cs:List (Nat × Nat)} {x y:Sm D} {t:Tg} {ts:Sm Bool} {cb:Cb} {target elt ex ey:Expr} {ifs:List Expr} {scope:Scope} {p1 zp pos:Pos} (hn:Ae nt) (hS:Gg (.ListComp elt [⟨target,.Call (.Name gn p1) [ex,ey] [] zp,ifs,0⟩] scope pos) 0) (hC:Er (.ListComp elt [⟨target,.Call (.Name gn p1) [ex,ey] [] zp,ifs,0⟩] scope pos) 0) (hk:scope.kind = .function) (hco:Sv nt scope.names cs = true)
    (q:nt[i]? = some (gn,.globalImplicit)) (gl:Aj w.params gn (.type "zip")) (hx:SX w nt x ex) (hy:SX w nt y ey) (hs:autoParam (Ay ex = true) tR) (hs2:autoParam (Ay ey = true) tR) (hfs:autoParam (∀ env x,foldedSetIterable (.Call (.Name gn p1) [ex,ey] [] zp) env x = pure x) tR):
    SX w nt (Bw n cs (zua x y) (Bl t ts cb)) (.ListComp elt [⟨target,.Call (.Name gn p1) [ex,ey] [] zp,ifs,0⟩] scope pos):=fun m c hc e st k r h=>by
  have hco:=zaW.of (nt:=nt) hk hco
  refine bg fun bP bf=>?_
  obtain ⟨a,b,st2,h1,t2⟩:=zky (f:=fun a b st=>Mb a fun n'=>Au st n' fun xs=>List.rec (motive:=fun _=>Ans) (zev b fun _=>Dg st (.list []) fun acc st=>Ox e.cells cs fun cells=>Bl t ts cb .zip c ⟨nones n,cells⟩ acc st fun _ st=>k (.ref acc) st) (fun _ _ _=>none) xs) hx hy hs hs2 hc h
  obtain ⟨ln,rfl,h1'⟩:=Bt.mp h1
  obtain ⟨xs,hln,h2⟩:=B0.mp h1'
  clear h1'
  cases xs with
  | cons _ _=>cases h2
  | nil=>
  obtain ⟨ys,rfl,h3⟩:=Vx.mp h2
  obtain ⟨hN,h4⟩:=Dm.mp h3
  obtain ⟨cells,h5,hcells,hcs⟩:=Qm h4
  have h6:k (.ref st2.N) (st2.new (.list [])) = some r:=h5
  refine bf ⟨_,_,h6,fun env A σ s Q E rm o p kk=>?_⟩
  have hfree:∀ x ∈ scope.names,x.2 = .free→∃ c,env.cells.lookup x.1 = some c:=fun x hx hf=>by
    obtain ⟨q,hq,e1⟩:=hco.free x hx hf
    obtain ⟨c',hc'⟩:=hcs q hq
    obtain ⟨_,y,e2,e3⟩:=p.cell _ _ hc'
    rw [e1] at e2; cases e2
    exact ⟨_,e3⟩
  obtain ⟨cl,hclos,hcl2⟩:=zcJ hfree
  rw [eval_ListComp]
  refine wpAny_comprehension_free (use:=none) rfl (hfs env) hclos hco.kind hco.loc ?_
  refine Call_Name rfl (Fh hn q gl o p ?_)
  have ns:Cj [ex,ey] = true:=by show (Ay ex && (Ay ey && true)) = true; rw [hs,hs2]; rfl
  refine callWith_of (P:=fun _=>True) (by rw [E8 ns]; rfl) (Ea (v:=.type "zip") rfl) (Cz ns ?_)
  refine t2 env _ A σ s _ E rm o p fun vs σ1 h1' tk1 o1 r1 g1=>⟨trivial,?_⟩
  obtain ⟨va,vb,rfl,ra,rb⟩:=r1.two
  cases ra
  cases rb with
  | @tup tt ob us n2' _ gt ct dt rt=>
  obtain ⟨ls,hls,rls⟩:=o1.obj _ _ hln
  have lse:ls = #[]:=by
    apply Array.toList_inj.mp
    cases rl':ls.toList with
    | nil=>rfl
    | cons _ _=>rw [rl'] at rls; cases rls
  subst lse
  refine ze8 hls.isList ⟨_,gt,ct,_,dt⟩ fun H hz hTI hTO hit hkz=>?_
  refine wpAny_pyIter_zip hz ?_
  obtain ⟨ol,ol1,ol2⟩:=hls.isList
  have oH:=o1.grow hkz
  have gH:Aw NoX σ1 h1' st2 σ1 H st2:=Aw.grow o1 hkz
  obtain ⟨o2,g2,r2⟩:=Nz (X:=NoX) oH (vs:=#[]) hN .nil
  refine wpAny_newList ?_ (Nat.zero_le _)
  have p1':=Ag.stays _ _ _ _ _ _ o o1 g1 p
  have pH:=p1'.grow o1 hkz
  have p2:=Ag.stays _ _ _ _ _ _ oH o2 g2 pH
  have k2:∀ b ob,H.get? b = some ob→(H.push { cls:=.type "list",data:=.seq #[] }).get? b = some ob:=fun b ob e=>Heap.get?_push_of_some _ e
  generalize hH2:H.push { cls:=.type "list",data:=.seq #[] } = H2 at o2 g2 r2 p2 k2
  have hCn:H2.get? H2.objs.size = none:=B8 _
  refine wpAny_newFunctionEnv hco.nocell (fun _ hx=>by cases hx) (fun h3' hns hsb=>?_) hco.kind
  have k3:∀ b ob,H2.get? b = some ob→h3'.get? b = some ob:=fun b ob e=>by
    refine (hsb.2 b fun q=>?_).trans (Heap.get?_push_of_some _ e)
    subst q; rw [hCn] at e; cases e
  have o3:=o2.grow k3
  have g3:Aw NoX (more σ1 st2.N H.objs.size) H2 (st2.new (.list [])) (more σ1 st2.N H.objs.size) h3' (st2.new (.list [])):=Aw.grow o2 k3
  have p3:=Ag.stays _ _ _ _ _ _ o2 o3 g3 p2
  have r3:=r2.goes o2 g3
  have gAll:=((g1.trans gH).trans g2).trans g3
  have kz:∀ b ob,H.get? b = some ob→h3'.get? b = some ob:=fun b ob e=>k3 b ob (k2 b ob e)
  have none1:∀ b,h1'.get? b = none→s.heap.get? b = none:=fun b e=>by
    cases z:s.heap.get? b with
    | none=>rfl
    | some ob=>obtain ⟨o',e'⟩:=g1.dom _ _ z; rw [e] at e'; cases e'
  have nz:h1'.get? (h1'.objs.size + 4) = none:=by
    cases z:h1'.get? (h1'.objs.size + 4) with
    | none=>rfl
    | some ob=>exact absurd (Heap.lt_size z) (Nat.not_lt.mpr (Nat.le_add_right _ _))
  have ni:h1'.get? h1'.objs.size = none:=B8 _
  have notMine:∀ b,h1'.get? b = none→H.get? b ≠ none→(∀ n o,(st2.new (.list [])).get n = some o→(more σ1 st2.N H.objs.size).a n ≠ b):=fun b e eH n o' en z=>by
    rw [Ai n _ (B7 (Nat.le_of_lt hN))] at en
    split at en
    · rename_i qn; subst qn; rw [Bv] at z; subst z; exact eH (B8 _)
    · have hlt:=o1.lt n o' en
      rw [(An _ _).2 n hlt] at z
      obtain ⟨ob,q⟩:=(o1.obj n o' en).there
      rw [z,e] at q; cases q
  have notTop:∀ b,h1'.get? b = none→(HT w.params).get? b = none:=fun b e=>by
    cases z:(HT w.params).get? b with
    | none=>rfl
    | some ob=>have:=o1.top _ _ z; rw [e] at this; cases this
  have notLoc':∀ b,h1'.get? b = none→b ≠ env.locals:=fun b e z=>by
    obtain ⟨m',⟨ob,_,_,q,_⟩,_⟩:=p1'.ns
    rw [← z,e] at q; cases q
  have loop:codeAny (model pw w) A (.compLoop (.ListComp elt [⟨target,.Call (.Name gn p1) [ex,ey] [] zp,ifs,0⟩] scope pos) 0 (.ref (h1'.objs.size + 4)) (.ref H.objs.size) (zal scope cl H2.objs.size env)) (compPost (model pw w) A E none Q (.ref H.objs.size) H2.objs.size) { s with heap:=h3',toks:=tk1 + 0 }:=by
    refine zaK (znS ..) hC.fr hC.qu (hC.un _ _ _ _) ?_
    have hl3:h3'.IsList (σ1.a ln) #[]:=⟨ol,kz _ _ (hkz _ _ ol1),ol2⟩
    have l1z:σ1.a ln ≠ h1'.objs.size + 4:=fun z=>by rw [z,nz] at ol1; cases ol1
    refine zfL (s:={ s with heap:=h3',toks:=tk1 + 0 }) rm.hd (Nat.ne_of_lt (Nat.lt_add_of_pos_right (by decide))) l1z (kz _ _ hz) (kz _ _ hTI) (hit.at fun o e=>kz _ o e) hl3 fun h4 hk4=>?_
    have imz:∀ ob,h3'.get? (h1'.objs.size + 4) = some ob→¬ Imm ob:=fun ob e i=>by
      rw [kz _ _ hz] at e; cases e
      rcases i with ⟨_,_,_,q⟩ | q <;> cases q
    have imi:∀ ob,h3'.get? h1'.objs.size = some ob→¬ Imm ob:=fun ob e i=>by
      obtain ⟨oi,i1,_,i3⟩:=hit
      rw [kz _ _ i1] at e; cases e
      rcases i with ⟨_,_,_,q⟩ | q <;> (rw [i3] at q; cases q)
    have hCz:∀ b,h1'.get? b = none→b ≠ H2.objs.size→True:=fun _ _ _=>trivial
    have nC:h1'.get? H2.objs.size = none:=by
      cases z:h1'.get? H2.objs.size with
      | none=>rfl
      | some ob=>have:=k2 _ _ (hkz _ _ z); rw [hCn] at this; cases this
    have hzC:h1'.objs.size + 4 ≠ H2.objs.size:=fun z=>by have:=k2 _ _ hz; rw [z,hCn] at this; cases this
    have hiC:h1'.objs.size ≠ H2.objs.size:=fun z=>by
      obtain ⟨oi,i1,_⟩:=hit
      have:=k2 _ _ i1; rw [z,hCn] at this; cases this
    obtain ⟨oc,ec,ep,hoc,hrest⟩:=id hns
    have hC4:h4.Ns H2.objs.size _:=⟨oc,ec,ep,hk4 _ _ (Ne.symm hzC) (Ne.symm hiC) hoc,hrest⟩
    refine ⟨_,hC4,fun h5 hs5=>?_⟩
    have hs:∀ b o,¬ (b = h1'.objs.size + 4 ∨ b = h1'.objs.size ∨ b = H2.objs.size)→h3'.get? b = some o→h5.get? b = some o:=fun b ob hb e=>by
      rw [not_or,not_or] at hb
      exact (hs5.2 b hb.2.2).trans (hk4 b ob hb.1 hb.2.1 e)
    have pn:∀ b,(b = h1'.objs.size + 4 ∨ b = h1'.objs.size ∨ b = H2.objs.size)→h1'.get? b = none:=fun b hb=>by rcases hb with rfl | rfl | rfl <;> assumption
    have im:∀ b ob,(b = h1'.objs.size + 4 ∨ b = h1'.objs.size ∨ b = H2.objs.size)→h3'.get? b = some ob→¬ Imm ob:=fun b ob hb e=>by
      rcases hb with rfl | rfl | rfl
      · exact imz _ e
      · exact imi _ e
      · exact Mine.Ns.notImm hns e
    have kI:Dy h3' h5:=fun b ob i e=>hs b ob (fun q=>im b ob q e i) e
    have hf:∀ n o,(st2.new (.list [])).get n = some o→¬ ((more σ1 st2.N H.objs.size).a n = h1'.objs.size + 4 ∨ (more σ1 st2.N H.objs.size).a n = h1'.objs.size ∨ (more σ1 st2.N H.objs.size).a n = H2.objs.size):=fun n ob e q=>by
      rcases q with q | q | q
      · exact notMine _ nz (by rw [hz]; simp) n ob e q
      · obtain ⟨oi,i1,_⟩:=hit
        exact notMine _ ni (by rw [i1]; simp) n ob e q
      · obtain ⟨ob',q'⟩:=(o2.obj n ob e).there
        rw [q,hCn] at q'; cases q'
    have o5:=o3.asideP im (fun b q=>notTop b (pn b q)) hf hs
    have g5:Aw NoX σ s.heap st (more σ1 st2.N H.objs.size) h5 (st2.new (.list [])):=gAll.asideP (fun b q=>none1 b (pn b q)) (fun b ob e=>by
      obtain ⟨o',e'⟩:=gAll.dom b ob e
      exact ⟨o',hs b o' (fun q=>by rw [none1 b (pn b q)] at e; cases e) e'⟩) hs
    exact kk _ _ h5 _ o5 (r3.mono (.refl _ _) (Nat.le_refl _) kI) g5
  exact zaq hS hC loop (wpAny_pyIter_zip (s:={ s with heap:=h3',toks:=tk1 + 0 }) (kz _ _ hz) loop)
end
section
variable {w:World} {nt:List (Str × NameKind)}
theorem zcd:∀ (a b:List Nat),ltCps a b = decide (a < b)
  | [],[]=>by simp [ltCps]
  | [],_ :: _=>by simp [ltCps]
  | _ :: _,[]=>by simp [ltCps]
  | a :: r,b :: t=>by
    show (decide (a < b) || (a == b && ltCps r t)) = _
    rw [zcd r t,Bool.eq_iff_iff]
    simp [List.cons_lt_cons_iff]
theorem zhH {k1 k2:Str} {t1 t2:Tok} {v1 v2:Value} {xs:Array Keyed} (hp:xs.Perm ((#[.str k1 t1,.str k2 t2]:Array Value).zip [v1,v2].toArray)) (hs:SortedToK PyProof.Rows.strKind xs xs.size):
    ((xs.map (·.2)).toList = [v1,v2] ∧ ltCps k2.cps.toList k1.cps.toList = false) ∨ ((xs.map (·.2)).toList = [v2,v1] ∧ ltCps k1.cps.toList k2.cps.toList = false):=by
  have e0:((#[.str k1 t1,.str k2 t2]:Array Value).zip [v1,v2].toArray).toList = [(.str k1 t1,v1),(.str k2 t2,v2)]:=by rw [ksk_zip]; rfl
  have hl:xs.toList.Perm [(.str k1 t1,v1),(.str k2 t2,v2)]:=by rw [← e0]; exact Array.perm_iff_toList_perm.mp hp
  rcases zct hl with e | e
  · obtain ⟨xs⟩:=xs
    cases e
    have q:=hs 0 1 (by decide) (Nat.lt_succ_self _)
    have q:decide (k2.cps.toList < k1.cps.toList) = false:=q
    exact .inl ⟨by simp,by rw [zcd]; exact q⟩
  · obtain ⟨xs⟩:=xs
    cases e
    have q:=hs 0 1 (by decide) (Nat.lt_succ_self _)
    have q:decide (k1.cps.toList < k2.cps.toList) = false:=q
    exact .inr ⟨by simp,by rw [zcd]; exact q⟩
theorem zoi {M:Model} {A:Around} {f:Value→PUnit→Sem (ForInStep PUnit)} {v1 v2:Value} {Q:PUnit→Shared→Prop} {E:Value→Shared→Prop} {s:Shared}
    (h:wpAny M A (f v1 ⟨⟩) (fun r s'=>r = .yield ⟨⟩ ∧ wpAny M A (f v2 ⟨⟩) (fun r s''=>r = .yield ⟨⟩ ∧ Q ⟨⟩ s'') E s') E s):wpAny M A (forIn [v1,v2].toArray PUnit.unit f) Q E s:=by
  rw [List.forIn_toArray,List.forIn_cons]
  refine wpAny_bind (wpAny_mono h (fun r s' a=>?_) fun _ _ e=>e)
  obtain ⟨rfl,b⟩:=a
  show wpAny _ _ (forIn [v2] PUnit.unit f) _ _ _
  rw [List.forIn_cons]
  refine wpAny_bind (wpAny_mono b (fun r s' a=>?_) fun _ _ e=>e)
  obtain ⟨rfl,b⟩:=a
  show wpAny _ _ (forIn [] PUnit.unit f) _ _ _
  rw [List.forIn_nil]
  exact wpAny_pure b
theorem zsQ {A:Around} {E:Value→Shared→Prop} {s:Shared} {l q:Addr} {v1 v2:Value} {Q:Value→Shared→Prop} (hl:s.heap.IsList l [v1,v2].toArray)
    (h:∀ H D kS e1,s.heap.get? D = none→s.heap.get? kS = none→D ≠ kS→(∀ b o,s.heap.get? b = some o→H.get? b = some o)→H.get? D = some (seqObj "list" #[] e1)→H.get? kS = some (seqObj "list" #[] 0) →
      wpAny (model pw w) A.in1.in1 (call (.ref q) [v1]) (fun r1 s1=>∃ h1 tk1 k1 t1,r1 = .str k1 t1 ∧ s1 = { s with heap:=h1,toks:=tk1 } ∧ h1.get? D = some (seqObj "list" #[] e1) ∧ h1.get? kS = some (seqObj "list" #[] 0) ∧ ∀ H2 c,(∀ b o,b ≠ kS→h1.get? b = some o→H2.get? b = some o)→H2.get? kS = some (seqObj "list" #[.str k1 t1] c) →
        wpAny (model pw w) A.in1.in1 (call (.ref q) [v2]) (fun r2 s2=>∃ h2 tk2 k2 t2,r2 = .str k2 t2 ∧ s2 = { s with heap:=h2,toks:=tk2 } ∧ h2.get? D = some (seqObj "list" #[] e1) ∧ h2.get? kS = some (seqObj "list" #[.str k1 t1] c) ∧ ∀ H3 out c3,(∀ b o,b ≠ kS→b ≠ D→h2.get? b = some o→H3.get? b = some o)→H3.get? D = some (seqObj "list" out c3) →
          ((out.toList = [v1,v2] ∧ ltCps k2.cps.toList k1.cps.toList = false) ∨ (out.toList = [v2,v1] ∧ ltCps k1.cps.toList k2.cps.toList = false))→∃ tk3,Q (.ref D) { s with heap:=H3,toks:=tk3 } ∧ tk3 = tk2) (fun _ _=>False) { s with heap:=H2,toks:=tk1 }) (fun _ _=>False) { s with heap:=H,toks:=s.toks }):
    wpAny (model pw w) A (call (.builtin "sorted") [.ref l] [(Str.ofString "key",.ref q)]) Q E s:=by
  refine call_function_entry_kw kind_sorted plain_sorted entry_sorted (ksk_s1 _ _) ?_
  unfold Builtin.«sorted»
  refine wpAny_bind (m:=checkCount "sorted" 1 1 _) (wpAny_pure ?_)
  refine wpAny_bind (collect_list hl ?_ (Nat.le_of_ble_eq_true rfl))
  refine wpAny_bind (wpAny_newList ?_ (Nat.le_of_ble_eq_true rfl))
  have hsz:((s.heap.push (seqObj "list" #[] 0)).update s.heap.objs.size (Obj.mapSeq (· ++ [v1,v2].toArray))).objs.size = s.heap.objs.size + 1:=by
    rw [Heap.size_update,size_push']
  have hoL:(((s.heap.push (seqObj "list" #[] 0)).update s.heap.objs.size (Obj.mapSeq (· ++ [v1,v2].toArray))).push (seqObj "list" [v1,v2].toArray 0)).get? (s.heap.objs.size + 1) = some (seqObj "list" [v1,v2].toArray 0):=by
    rw [← hsz]; exact Heap.get?_push_size _ rfl
  have keep:∀ b o,s.heap.get? b = some o→(((s.heap.push (seqObj "list" #[] 0)).update s.heap.objs.size (Obj.mapSeq (· ++ [v1,v2].toArray))).push (seqObj "list" [v1,v2].toArray 0)).get? b = some o:=fun b o q=>by
    have hlt:b < s.heap.objs.size:=Heap.lt_size q
    rw [Heap.get?_push_ne _ _ _ (by rw [hsz]; exact Nat.ne_of_lt (Nat.lt_succ_of_lt hlt)),Heap.get?_update_ne _ _ _ _ (Nat.ne_of_lt hlt),Heap.get?_push_ne _ _ _ (Nat.ne_of_lt hlt)]
    exact q
  show wpAny _ _ _ _ _ { s with heap:=((s.heap.push (seqObj "list" #[] 0)).update s.heap.objs.size (Obj.mapSeq (· ++ [v1,v2].toArray))).push (seqObj "list" [v1,v2].toArray 0) }
  rw [hsz]
  have hszG:(((s.heap.push (seqObj "list" #[] 0)).update s.heap.objs.size (Obj.mapSeq (· ++ [v1,v2].toArray))).push (seqObj "list" [v1,v2].toArray 0)).objs.size = s.heap.objs.size + 2:=by rw [size_push',hsz]
  generalize ((s.heap.push (seqObj "list" #[] 0)).update s.heap.objs.size (Obj.mapSeq (· ++ [v1,v2].toArray))).push (seqObj "list" [v1,v2].toArray 0) = G at hoL keep hszG
  refine wpAny_bind (wpAny_holding (wpAny_call_entry_kw slot_list_sort ⟨_,hoL,rfl⟩ entry_list_sort ?body (ksk_l1 _ _)))
  case body=>
    refine bgQ fun Q1 fin1=>?_
    show wpAny (model pw w) A.in1.in1 (Builtin.«list.sort» ⟨[.ref (s.heap.objs.size + 1)],_⟩) _ _ _
    rw [ksk_t1]
    unfold ksk_tree
    have noneD:s.heap.get? (s.heap.objs.size + 1) = none:=Heap.get?_none_of_le (Nat.le_succ _)
    refine wpAny_bind (listItems_at hoL rfl ?_)
    refine wpAny_bind (listUpdate_at hoL rfl ?_ (Nat.le_of_ble_eq_true rfl) (Nat.zero_le _))
    obtain ⟨e1,ho1⟩:∃ e1,(G.update (s.heap.objs.size + 1) (Obj.mapSeq fun _=>(#[]:Array Value))).get? (s.heap.objs.size + 1) = some (seqObj "list" #[] e1):=⟨_,get?_update_seq hoL fun _=>#[]⟩
    refine wpAny_bind (seqEpoch_at ho1 rfl ?_)
    refine wpAny_bind (wpAny_newTuple ?_ (Nat.le_of_ble_eq_true rfl))
    refine wpAny_bind (wpAny_newList ?_ (Nat.zero_le _))
    refine wpAny_holding ?_
    have hkS:((G.update (s.heap.objs.size + 1) (Obj.mapSeq fun _=>(#[]:Array Value))).push (seqObj "tuple" [v1,v2].toArray 0)).objs.size = s.heap.objs.size + 3:=by rw [size_push',Heap.size_update,hszG]
    have nonek:s.heap.get? (s.heap.objs.size + 3) = none:=Heap.get?_none_of_le (Nat.le_add_right _ _)
    have hH:∀ b o,b ≠ s.heap.objs.size + 1→G.get? b = some o→(((G.update (s.heap.objs.size + 1) (Obj.mapSeq fun _=>(#[]:Array Value))).push (seqObj "tuple" [v1,v2].toArray 0)).push (seqObj "list" #[] 0)).get? b = some o:=fun b o hb e=>
      Heap.get?_push_of_some _ (Heap.get?_push_of_some _ (by rw [Heap.get?_update_ne _ _ _ _ hb]; exact e))
    have hHD:(((G.update (s.heap.objs.size + 1) (Obj.mapSeq fun _=>(#[]:Array Value))).push (seqObj "tuple" [v1,v2].toArray 0)).push (seqObj "list" #[] 0)).get? (s.heap.objs.size + 1) = some (seqObj "list" #[] e1):=Heap.get?_push_of_some _ (Heap.get?_push_of_some _ ho1)
    have hHk:(((G.update (s.heap.objs.size + 1) (Obj.mapSeq fun _=>(#[]:Array Value))).push (seqObj "tuple" [v1,v2].toArray 0)).push (seqObj "list" #[] 0)).get? (s.heap.objs.size + 3) = some (seqObj "list" #[] 0):=by
      rw [← hkS]; exact Heap.get?_push_size _ rfl
    show wpAny _ _ (ksk_rest _ _ _ _ _ (.ref ((G.update (s.heap.objs.size + 1) (Obj.mapSeq fun _=>(#[]:Array Value))).push (seqObj "tuple" [v1,v2].toArray 0)).objs.size)) _ _ { s with heap:=((G.update (s.heap.objs.size + 1) (Obj.mapSeq fun _=>(#[]:Array Value))).push (seqObj "tuple" [v1,v2].toArray 0)).push (seqObj "list" #[] 0) }
    rw [hkS]
    have base:=h (((G.update (s.heap.objs.size + 1) (Obj.mapSeq fun _=>(#[]:Array Value))).push (seqObj "tuple" [v1,v2].toArray 0)).push (seqObj "list" #[] 0)) (s.heap.objs.size + 1) (s.heap.objs.size + 3) e1 noneD nonek (by intro z; have:=Nat.add_left_cancel z; cases this) (fun b o e=>hH b o (fun z=>by subst z; rw [noneD] at e; cases e) (keep b o e)) hHD hHk
    have hne:s.heap.objs.size + 1 ≠ s.heap.objs.size + 3:=by intro z; have:=Nat.add_left_cancel z; cases this
    generalize s.heap.objs.size + 1 = D at base hne fin1
    generalize s.heap.objs.size + 3 = kS at base hne
    generalize ((G.update _ _).push _).push _ = H at base ⊢
    clear hH hHD hHk hkS ho1
    unfold ksk_rest
    refine wpAny_bind (wpAny_rule ?_)
    show wpAny _ _ (forIn [v1,v2].toArray PUnit.unit _ >>= _) _ _ _
    refine wpAny_bind (bgQ fun Q2 fin2=>zoi (bgQ fun Q3 zfJ=>?_))
    refine wpAny_bind (wpAny_attempt (wpAny_mono base (fun r1 s1 b1=>?_) fun _ _ f=>f.elim))
    show wpAny _ _ (Builtin.List.listUpdate (.ref kS) (·.push r1) >>= fun _=>pure (ForInStep.yield PUnit.unit)) _ _ _
    obtain ⟨h1,tk1,k1,t1,rfl,rfl,d1,q1,next⟩:=b1
    refine wpAny_bind (listUpdate_at q1 rfl ?_ (Nat.zero_le _) (Nat.le_of_ble_eq_true rfl))
    refine wpAny_pure (zfJ _ _ ⟨rfl,bgQ fun Q4 zoN=>?_⟩)
    obtain ⟨c1,hc1⟩:∃ c1,(h1.update kS (Obj.mapSeq (·.push (.str k1 t1)))).get? kS = some (seqObj "list" #[.str k1 t1] c1):=⟨_,get?_update_seq q1 (·.push (.str k1 t1))⟩
    refine wpAny_bind (wpAny_attempt (wpAny_mono (next _ c1 (fun b o hb e=>by rw [Heap.get?_update_ne _ _ _ _ hb]; exact e) hc1) (fun r2 s2 b2=>?_) fun _ _ f=>f.elim))
    show wpAny _ _ (Builtin.List.listUpdate (.ref kS) (·.push r2) >>= fun _=>pure (ForInStep.yield PUnit.unit)) _ _ _
    obtain ⟨h2,tk2,k2,t2,rfl,rfl,d2,q2,fin⟩:=b2
    refine wpAny_bind (listUpdate_at q2 rfl ?_ (Nat.le_of_ble_eq_true rfl) (Nat.le_of_ble_eq_true rfl))
    refine wpAny_pure (zoN _ _ ⟨rfl,fin2 _ _ ?_⟩)
    obtain ⟨c2,hc2⟩:∃ c2,(h2.update kS (Obj.mapSeq (·.push (.str k2 t2)))).get? kS = some (seqObj "list" #[.str k1 t1,.str k2 t2] c2):=⟨_,get?_update_seq q2 (·.push (.str k2 t2))⟩
    have hD2:(h2.update kS (Obj.mapSeq (·.push (.str k2 t2)))).get? D = some (seqObj "list" #[] e1):=by rw [Heap.get?_update_ne _ _ _ _ hne]; exact d2
    have hk2:∀ b o,b ≠ kS→h2.get? b = some o→(h2.update kS (Obj.mapSeq (·.push (.str k2 t2)))).get? b = some o:=fun b o hb e=>by rw [Heap.get?_update_ne _ _ _ _ hb]; exact e
    show wpAny _ _ (Builtin.List.listItems (.ref kS) >>= _) _ _ { s with heap:=h2.update kS (Obj.mapSeq (·.push (.str k2 t2))),toks:=tk2 }
    generalize h2.update kS (Obj.mapSeq (·.push (.str k2 t2))) = H4 at hc2 hD2 hk2
    refine wpAny_bind (listItems_at hc2 rfl ?_)
    unfold ksk_end
    try dsimp only
    rw [if_neg Bool.false_ne_true]
    have n2:¬ ([v1,v2].toArray.size < 2):=Nat.lt_irrefl 2
    rw [if_neg n2,if_neg n2]
    have hSt:StrsAre [.str k1 t1,.str k2 t2] [k1,k2]:=.cons k1 t1 (.cons k2 t2 .nil)
    have hkk:keyKind' #[.str k1 t1,.str k2 t2] = pure oneType':=keyKind_strs hSt
    rw [hkk]
    refine wpAny_bind (wpAny_pure ?_)
    refine wpAny_bind (wpAny_mono (wpS_sortRunsK (κ:=PyProof.Rows.strKind) strKind_oneLt (a₀:=(#[.str k1 t1,.str k2 t2]:Array Value).zip [v1,v2].toArray) (st:=SortSt.mk' oneType' ((#[.str k1 t1,.str k2 t2]:Array Value).zip [v1,v2].toArray) #[] 7 none)
      (Q:=fun _ st'=>(arrOf st').Perm ((#[.str k1 t1,.str k2 t2]:Array Value).zip [v1,v2].toArray) ∧ failedOf st' = none ∧ SortedToK PyProof.Rows.strKind (arrOf st') ((#[.str k1 t1,.str k2 t2]:Array Value).zip [v1,v2].toArray).size)
      (fun p hp=>by
        have e0:((#[.str k1 t1,.str k2 t2]:Array Value).zip [v1,v2].toArray).toList = [(.str k1 t1,v1),(.str k2 t2,v2)]:=by rw [ksk_zip]; rfl
        rw [e0] at hp
        simp at hp
        rcases hp with rfl | rfl
        · exact ⟨k1.cps.toList,rfl⟩
        · exact ⟨k2.cps.toList,rfl⟩) ⟨Array.Perm.refl _,rfl,rfl,rfl⟩ (by rw [Array.size_zip]; exact Nat.le_refl 2) (by rw [Array.size_zip]; exact Nat.le_of_ble_eq_true rfl) fun st' a1 a2 a3=>⟨a1,a2,a3⟩) ?_ fun _ _ e=>e)
    rintro ⟨⟨⟩,st'⟩ s' ⟨rfl,hp,hf,hs⟩
    try dsimp only
    have hsz2:(arrOf st').size = 2:=by rw [hp.size_eq,Array.size_zip]; rfl
    have hsz':(if false = true then ((arrOf st').map (·.2)).reverse else (arrOf st').map (·.2)).size ≤ sizeLine + 1:=by
      rw [if_neg Bool.false_ne_true,Array.size_map,hsz2,sizeLine_eq]; omega
    have hout:=zhH hp (by rw [hp.size_eq]; exact hs)
    unfold ksk_tail
    try dsimp only
    have ho4:(H4.update kS (Obj.mapSeq fun _=>(#[]:Array Value))).get? D = some (seqObj "list" #[] e1):=by rw [Heap.get?_update_ne _ _ _ _ hne]; exact hD2
    refine wpAny_bind (listUpdate_at hc2 rfl ?_ (Nat.le_of_ble_eq_true rfl) (Nat.zero_le _))
    refine wpAny_bind (wpAny_letGo ?_)
    refine wpAny_bind (seqEpoch_at ho4 rfl ?_)
    refine wpAny_bind (listUpdate_at ho4 rfl ?_ (Nat.zero_le _) (hsz'))
    rw [hf]
    simp only [bne_self_eq_false,Bool.false_eq_true,if_false]
    generalize (arrOf st').map (·.2) = OUT at hout ⊢
    have hc3:=get?_update_seq ho4 fun _=>OUT
    obtain ⟨tk3,hq,rfl⟩:=fin ((H4.update kS (Obj.mapSeq fun _=>(#[]:Array Value))).update D (Obj.mapSeq fun _=>OUT)) OUT _ (fun b o hb1 hb2 e=>by
      rw [Heap.get?_update_ne _ _ _ _ hb2,Heap.get?_update_ne _ _ _ _ hb1]; exact hk2 b o hb1 e) hc3 hout
    exact wpAny_pure (fin1 _ _ ⟨_,rfl,wpAny_pure ⟨_,rfl,hq⟩⟩)
theorem Sd {σ σ':Sg} {h h':Heap} {st st':St} (g:Aw NoX σ h st σ' h' st') {b:Addr} {ob:Obj} (e:h.get? b = some ob) (hf:∀ n o,st.get n = some o→σ.a n ≠ b):∀ n o,st'.get n = some o→σ'.a n ≠ b:=fun n o en z=>by
  by_cases q:n < st.N
  · obtain ⟨o'',e'⟩:=g.old n o q en
    exact hf n o'' e' ((g.same.2 n q).symm.trans z)
  · have:=g.fresh n o (Nat.not_lt.mp q) en
    rw [z,e] at this; cases this
theorem znZ {A:Around} {d:Nat} (r:Rm A (d + 1)):Rm A.in1.in1 d:=⟨r.hd,by show A.depth + d + 8 < _; have:=r.dp; omega,by show A.units + 1 + 1 + 8 * d + 256 < _; have:=r.un; omega⟩
theorem Qa {h:Heap} {a:Addr} {vs:Array Value} {c:Nat} (e:h.get? a = some (seqObj "list" vs c)):∀ ob,h.get? a = some ob→¬ Imm ob:=fun ob e' i=>by
  rw [e] at e'; cases e'
  rcases i with ⟨q,_⟩ | q
  · exact absurd (show Value.type "list" = Value.type "tuple" from q) (by decide)
  · cases q
set_option tactic.hygienic true in
theorem zm5 (hn:Ae nt) {i j f:Nat} {g1 g2:Str} {x:Sm D} {ex:Expr} {p1 p2 kp pos:Pos} (q:nt[i]? = some (g1,.globalImplicit)) (gl:Aj w.params g1 (.builtin "sorted")) (q2:nt[j]? = some (g2,.globalImplicit)) (gl2:Aj w.params g2 (.ref (fnA f))) (hx:SX w nt x ex) (hs:autoParam (Ay ex = true) tR):
    SX w nt (zjf f x) (.Call (.Name g1 p1) [ex] [⟨some (Str.ofString "key"),.Name g2 p2,kp⟩] pos):=fun m c hc e st k r h=>by
  refine bg fun bP bf=>?_
  obtain ⟨dx,st1,h1,t1⟩:=zgE hx hs hc h
  obtain ⟨n,rfl,h2⟩:=Bt.mp h1
  obtain ⟨xs,hn1,h3⟩:=B0.mp h2
  obtain ⟨a,b,rfl⟩:∃ a b,xs = [a,b]:=by
    clear hn1 t1 h1 h2
    cases xs with
    | nil=>cases h3
    | cons a xs=>
      cases xs with
      | nil=>cases h3
      | cons b xs=>
        cases xs with
        | nil=>exact ⟨a,b,rfl⟩
        | cons c xs=>cases h3
  · obtain ⟨ka,st2,h4,c1⟩:=hc f [a] st1 _ r h3
    obtain ⟨sa,rfl,h5⟩:=Dk.mp h4
    obtain ⟨kb,st3,h6,c2⟩:=hc f [b] st2 _ r h5
    obtain ⟨sb,rfl,h7⟩:=Dk.mp h6
    obtain ⟨ds,hds,h8⟩:∃ ds,((ds = [b,a] ∧ ltCps sb sa = true) ∨ (ds = [a,b] ∧ ltCps sa sb = true)) ∧ newList st3 ds k = some r:=by
      rw [C2] at h7
      split at h7
      · rename_i z; rw [Ul] at z; exact ⟨_,.inl ⟨rfl,z⟩,h7⟩
      · obtain ⟨z,h7⟩:=Ar.mp h7; rw [Ul] at z; exact ⟨_,.inr ⟨rfl,z⟩,h7⟩
    obtain ⟨_,hN,h9⟩:=Fg.mp h8
    refine bf ⟨_,_,h9,fun env A σ s Q E rm o p kk=>?_⟩
    have he:eval (.Call (.Name g1 p1) [ex] [⟨some (Str.ofString "key"),.Name g2 p2,kp⟩] pos) env = (eval (.Name g1 p1) env >>= fun f=>callWith pos f [] (backTo pos (starEach [ex] env)) (backToKw pos (keywordEach [⟨some (Str.ofString "key"),.Name g2 p2,kp⟩] env))):=rfl
    rw [he]
    refine wpAny_bind (Fh hn q gl o p ?_)
    have ns:Cj [ex] = true:=by show (Ay ex && true) = true; rw [hs]; rfl
    refine callWith_of (P:=fun _=>True) (by rw [E8 ns]; rfl) (Ea (v:=.builtin "sorted") rfl) (evalArgs_kw2 rfl ?_ (L6 hs))
    refine t1 env pos A σ s _ E rm o p fun vs σ1 h1' tk1 o1 r1 g1'=>?_
    refine kwAll_cons (Fh hn q2 gl2 o1 (Ag.stays _ _ _ _ _ _ o o1 g1' p) (kwAll_nil ⟨trivial,?_⟩))
    obtain ⟨va,rfl,ra⟩:=r1.one1
    cases ra
    show wpAny (model pw w) A (call (.builtin "sorted") [.ref (σ1.a n)] [(Str.ofString "key",.ref (fnA f))]) Q E { s with heap:=h1',toks:=tk1 }
    obtain ⟨vs,hpl,rl⟩:=o1.obj _ _ hn1
    obtain ⟨v1,v2,rfl,rv1,rv2⟩:∃ v1 v2,vs = [v1,v2].toArray ∧ R σ1 st1.N h1' v1 a ∧ R σ1 st1.N h1' v2 b:=by
      obtain ⟨v1,v2,e,x1,x2⟩:=rl.two
      obtain ⟨l⟩:=vs
      exact ⟨v1,v2,congrArg Array.mk e,x1,x2⟩
    have inHeap:∀ n o,st1.get n = some o→∃ ob,h1'.get? (σ1.a n) = some ob:=fun n o e=>(o1.obj n o e).there
    refine zsQ hpl.isList fun H D kS e1 noneD nonek hne keep hD hkS=>?_
    have fD:∀ n o,st1.get n = some o→σ1.a n ≠ D:=fun n o e z=>by obtain ⟨ob,q⟩:=inHeap n o e; rw [z] at q; rw [show h1'.get? D = none from noneD] at q; cases q
    have fK:∀ n o,st1.get n = some o→σ1.a n ≠ kS:=fun n o e z=>by obtain ⟨ob,q⟩:=inHeap n o e; rw [z] at q; rw [show h1'.get? kS = none from nonek] at q; cases q
    have tD:(HT w.params).get? D = none:=by
      cases z:(HT w.params).get? D with
      | none=>rfl
      | some ob=>have:=o1.top _ _ z; rw [show h1'.get? D = none from noneD] at this; cases this
    have tK:(HT w.params).get? kS = none:=by
      cases z:(HT w.params).get? kS with
      | none=>rfl
      | some ob=>have:=o1.top _ _ z; rw [show h1'.get? kS = none from nonek] at this; cases this
    have oH:=o1.grow keep
    refine c1.tr [v1] A.in1.in1 σ1 { s with heap:=H,toks:=tk1 } _ _ (znZ rm) oH (.cons (rv1.mono (.refl _ _) (Nat.le_refl _) (.all keep)) .nil) fun kv1 σ2 H1 tk2 o2 rk1 g2=>?_
    cases rk1 with
    | str key1 kt1 kok1=>
    refine ⟨H1,tk2,key1,kt1,rfl,rfl,g2.kept _ _ hD (fun f=>f) fD,g2.kept _ _ hkS (fun f=>f) fK,fun H2 cc hk2 hkS2=>?_⟩
    have hD1:=g2.kept _ _ hD (fun f=>f) fD
    have hK1:=g2.kept _ _ hkS (fun f=>f) fK
    have fD2:=Sd g2 hD fD
    have fK2:=Sd g2 hkS fK
    have oH2:=o2.aside (Qa hK1) tK fK2 hk2
    have kI2:Dy H1 H2:=fun b ob i e=>hk2 b ob (fun z=>by subst z; exact Qa hK1 _ e i) e
    have hD2:=hk2 _ _ hne hD1
    have rv2':R σ2 st2.N H2 v2 b:=((rv2.mono (.refl _ _) (Nat.le_refl _) (.all keep)).goes oH g2).mono (.refl _ _) (Nat.le_refl _) kI2
    refine c2.tr [v2] A.in1.in1 σ2 { s with heap:=H2,toks:=tk2 } _ _ (znZ rm) oH2 (.cons rv2' .nil) fun kv2 σ3 H3 tk3 o3 rk2 g3=>?_
    cases rk2 with
    | str key2 kt2 kok2=>
    have hD3:=g3.kept _ _ hD2 (fun f=>f) fD2
    have hK3:=g3.kept _ _ hkS2 (fun f=>f) fK2
    refine ⟨H3,tk3,key2,kt2,rfl,rfl,hD3,hK3,fun H4 out c3 hk4 hD4 hout=>⟨tk3,?_,rfl⟩⟩
    have fD3:=Sd g3 hD2 fD2
    have fK3:=Sd g3 hkS2 fK2
    have nP:∀ bb,(bb = kS ∨ bb = D)→∀ ob,H3.get? bb = some ob→¬ Imm ob:=fun bb hb ob e=>by
      rcases hb with rfl | rfl
      · exact Qa hK3 _ e
      · exact Qa hD3 _ e
    have hs4:∀ bb ob,¬ (bb = kS ∨ bb = D)→H3.get? bb = some ob→H4.get? bb = some ob:=fun bb ob hb e=>by
      rw [not_or] at hb
      exact hk4 bb ob hb.1 hb.2 e
    have o4:=o3.asideP (P:=fun bb=>bb = kS ∨ bb = D) (fun bb ob hb e=>nP bb hb ob e) (fun bb hb=>by rcases hb with rfl | rfl <;> assumption) (fun n ob e hb=>by rcases hb with z | z; exact fK3 n ob e z; exact fD3 n ob e z) hs4
    have kI4:Dy H3 H4:=fun bb ob i e=>hs4 bb ob (fun hb=>nP bb hb ob e i) e
    have gA:Aw NoX σ s.heap st σ3 H3 st3:=by
      have g12:Aw NoX σ s.heap st σ2 H1 st2:=(g1'.trans (Aw.grow o1 keep)).trans g2
      have nk0:s.heap.get? kS = none:=by
        cases z:s.heap.get? kS with
        | none=>rfl
        | some ob=>obtain ⟨o',e'⟩:=g1'.dom _ _ z; rw [show h1'.get? kS = none from nonek] at e'; cases e'
      exact (g12.aside_ nk0 hk2).trans g3
    have none0:∀ bb,(bb = kS ∨ bb = D)→s.heap.get? bb = none:=fun bb hb=>by
      have hb':h1'.get? bb = none:=by rcases hb with rfl | rfl; exact nonek; exact noneD
      cases z:s.heap.get? bb with
      | none=>rfl
      | some ob=>obtain ⟨o',e'⟩:=g1'.dom _ _ z; rw [hb'] at e'; cases e'
    have g4:Aw NoX σ s.heap st σ3 H4 st3:=gA.asideP (P:=fun bb=>bb = kS ∨ bb = D) none0 (fun bb ob e=>by
      obtain ⟨o',e'⟩:=gA.dom bb ob e
      exact ⟨o',hs4 bb o' (fun hb=>by rw [none0 bb hb] at e; cases e) e'⟩) hs4
    have rv1f:R σ3 st3.N H4 v1 a:=((((rv1.mono (.refl _ _) (Nat.le_refl _) (.all keep)).goes oH g2).mono (.refl _ _) (Nat.le_refl _) kI2).goes oH2 g3).mono (.refl _ _) (Nat.le_refl _) kI4
    have rv2f:R σ3 st3.N H4 v2 b:=(rv2'.goes oH2 g3).mono (.refl _ _) (Nat.le_refl _) kI4
    have rlo:RL σ3 st3.N H4 out.toList ds:=by
      rcases hout with ⟨e,z⟩ | ⟨e,z⟩ <;> rcases hds with ⟨rfl,z'⟩ | ⟨rfl,z'⟩
      · rw [z] at z'; cases z'
      · rw [e]; exact .cons rv1f (.cons rv2f .nil)
      · rw [e]; exact .cons rv2f (.cons rv1f .nil)
      · rw [z] at z'; cases z'
    have ob4:Lo w (more σ3 st3.N D) (st3.N + 1) H4 D (.list ds):=⟨out,⟨c3,hD4⟩,rlo.mono (An _ _) (Nat.le_succ _) (fun _ _ _ e=>e)⟩
    have o5:=o4.adopt hN fD3 tD ob4
    have g5:=g4.adopt o4 (o:=.list ds) hN (none0 D (.inr rfl)) o.bN
    refine kk _ _ _ _ o5 ?_ g5
    have:=R.ref (σ:=more σ3 st3.N D) (N:=st3.N + 1) (h:=H4) st3.N (Nat.lt_succ_self _)
    rwa [Bv] at this
end
section
variable {w:World}
structure BTo (s:Shared) (fd:FuncData) (args:Args) (binds:List (Str × Value)):Prop where
  h:BindsTo s fd args binds
theorem BTo.no {s:Shared} {fd:FuncData} {args:Args} {binds:List (Str × Value)} (h:False):BTo s fd args binds:=h.elim
theorem BTo.eq {s:Shared} {fd:FuncData} {args:Args} {binds:List (Str × Value)} (h:bindArgs fd args = pure binds):BTo s fd args binds:=⟨BindsTo.of_eq h⟩
theorem BTo.dfl {s:Shared} {fd:FuncData} {args:Args} {binds:List (Str × Value)} {T:Addr} {o:Obj} {items:Array Value} {n:Nat}
    {k:Option (Array Value)→Sem (List (Str × Value))} (hd:fd.defaults = .ref T) (ho:s.heap.get? T = some o) (hs:o.data = .seq items n)
    (h₁:bindArgs fd args = seqItems? fd.defaults >>= k) (h₂:k (some items) = pure binds):BTo s fd args binds:=⟨BindsTo.of_defaults hd ho hs h₁ h₂⟩
noncomputable def Aq:Stmt→List Stmt
  | .FunctionDef (body:=b) ..=>b
  | _=>[]
set_option tactic.hygienic true in
theorem Dt (P:Params) {a:Addr} {o:Obj} (h1:(Rp P).get a = some o) (h2:(Nat.blt a Zt && Xd o) = true):(HT P).get? a = some o:=by
  rw [Bool.and_eq_true,Nat.blt_eq] at h2
  unfold HT
  rw [abs_get h2.1 h1]
  obtain ⟨c,d,dt,sl⟩:=o
  have h3:=h2.2
  unfold alive
  unfold Xd at h3
  split
  · rename_i q; cases q; cases h3
  · rfl
noncomputable def ntB:List (Str × NameKind)→Bool
  | []=>true
  | p :: r=>!(r.any fun q=>p.1 == q.1) && !(p.1 == ("__debug__":Str)) && ntB r
theorem zi0:∀ {nt:List (Str × NameKind)},ntB nt = true→(nt.map (·.1)).Nodup
  | [],_=>List.nodup_nil
  | p :: r,h=>by
    simp only [ntB,Bool.and_eq_true,Bool.not_eq_true',List.any_eq_false,beq_iff_eq] at h
    refine List.nodup_cons.mpr ⟨fun m=>?_,zi0 h.2⟩
    obtain ⟨q,hq,e⟩:=List.mem_map.mp m
    exact h.1.1 q hq e.symm
theorem zgJ:∀ {nt:List (Str × NameKind)},ntB nt = true→∀ p ∈ nt,(p.1 == ("__debug__":Str)) = false
  | p :: r,h,q,m=>by
    simp only [ntB,Bool.and_eq_true,Bool.not_eq_true'] at h
    rcases List.mem_cons.mp m with rfl | m
    · exact h.1.2
    · exact zgJ h.2 q m
theorem Ae.of {nt:List (Str × NameKind)} (h:ntB nt = true):Ae nt:=⟨zi0 h,fun i x k e=>zgJ h _ (List.mem_of_getElem? e)⟩
noncomputable def zod (P:Params) (a:Addr):Bool:=Nat.blt a Zt && match (Rp P).get a with
  | some o=>Xd o && match o.data with | .func _=>true | _=>false
  | none=>false
theorem zrd (P:Params):FA.all (zod P) = true:=by kernel_rfl
theorem zob (w:World) (f:Nat) (h:f < FA.length):zir w f:=by
  have h1:=List.all_eq_true.mp (zrd w.params) (fnA f) (by
    unfold fnA
    rw [List.getD_eq_getElem?_getD,List.getElem?_eq_getElem h]
    exact List.getElem_mem h)
  unfold zod at h1
  rw [Bool.and_eq_true] at h1
  obtain ⟨h0,h1⟩:=h1
  cases q:(Rp w.params).get (fnA f) with
  | none=>rw [q] at h1; cases h1
  | some o=>
    rw [q] at h1
    dsimp only at h1
    rw [Bool.and_eq_true] at h1
    have hg:=Dt w.params q (by rw [h0,h1.1]; rfl)
    cases hd:o.data with
    | func fd=>exact ⟨o,fd,hg,hd⟩
    | _=>rw [hd] at h1; cases h1.2
theorem zij:CLS.all (fun cl=>cl.ms.all fun p=>Nat.blt p.2 FA.length) = true:=by kernel_rfl
theorem zed {α:Type}:∀ {l:List α} {i:Nat} {x:α},D0 l i = some x→x ∈ l
  | [],_,_,h=>by cases h
  | a :: r,0,x,h=>by cases h; exact List.mem_cons_self
  | a :: r,i + 1,x,h=>List.mem_cons_of_mem _ (zed (l:=r) (i:=i) h)
theorem zno (w:World) (ai:Nat):∀ C f cl,D0 CLS C = some cl→lk cl.ms ai = some f→zir w f:=fun C f cl h1 h2=>
  zob w f ((Nat.blt_eq).mp (List.all_eq_true.mp (List.all_eq_true.mp zij cl (zed h1)) _ (zfR h2)))
noncomputable def zf4 (C f:Nat):Bool:=match D0 CLS C with
  | some cl=>cl.ms.any fun p=>Nat.beq p.1 0 && Nat.beq p.2 f
  | none=>true
theorem znq {C f:Nat} (h:zf4 C f = true):∀ cl,D0 CLS C = some cl→(0,f) ∈ cl.ms:=fun cl e=>by
  unfold zf4 at h
  rw [e] at h
  obtain ⟨p,m,q⟩:=List.any_eq_true.mp h
  rw [Bool.and_eq_true] at q
  obtain ⟨a,b⟩:=p
  have h1:=Nat.eq_of_beq_eq_true q.1
  have h2:=Nat.eq_of_beq_eq_true q.2
  dsimp only at h1 h2
  subst h1 h2
  exact m
theorem zjD (P:Params):CA.all (fun C=>keepIn (KK P) (.ref C)) = true:=by kernel_rfl
theorem zj7 (w:World) (C:Nat) (h:C < 8):keepIn (KK w.params) (.ref (Hp C)) = true:=List.all_eq_true.mp (zjD w.params) _ (zfp C h)
theorem zi6 (w:World):zjp w:=⟨_,Heap.Ns.of_isNs (by kernel_rfl),by kernel_rfl⟩
noncomputable def zf0 (nt:List (Str × NameKind)) (nn np:Nat) (cl:List Nat):Bool:=
  Nat.ble np nt.length && Nat.beq nn nt.length && cl == (List.range nt.length).filter (fun i=>(nt[i]?).elim false fun p=>Kr p.2 .cell) && (nt.take np).all fun p=>Kr p.2 .local || Kr p.2 .cell
noncomputable def zf5 (h:Heap):List Value→List D→Bool
  | [],[]=>true
  | v :: vs,d :: ds=>E5 h 9 v d && zf5 h vs ds
  | _,_=>false
theorem zfs {h:Heap}:∀ {vs:List Value} {ds:List D},zf5 h vs ds = true→vs.length = ds.length
  | [],[],_=>rfl
  | v :: vs,d :: ds,e=>by have e:=Bool.and_eq_true_iff.mp (show (E5 _ 9 v d && zf5 _ vs ds) = true from e); rw [List.length_cons,List.length_cons,zfs e.2]
  | [],d :: ds,e=>by cases e
  | v :: vs,[],e=>by cases e
theorem zgG {h₀ h:Heap} {σ:Sg} {N:Nat} (k:∀ b o,h₀.get? b = some o→h.get? b = some o):∀ {vs:List Value} {ds:List D},zf5 h₀ vs ds = true→RL σ N h vs ds
  | [],[],_=>.nil
  | v :: vs,d :: ds,e=>by have e:=Bool.and_eq_true_iff.mp (show (E5 _ 9 v d && zf5 _ vs ds) = true from e); exact .cons (ze9 k 9 v d e.1) (zgG k e.2)
  | [],d :: ds,e=>by cases e
  | v :: vs,[],e=>by cases e
theorem Br.of {f:Nat} {F:Fn} {nt:List (Str × NameKind)} {body:List Stmt} {dvs:List Value} (o:Obj) (fd:FuncData)
    (hget:(HT w.params).get? (fnA f) = some o) (hdat:o.data = .func fd) (hb:fd.body = .stmts body) (hc:fd.closure = []) (hco:fd.scope.isCoroutine = false) (hg:fd.scope.isGenerator = false) (hk:fd.scope.kind = .function)
    (hgl:fd.globals = mainGlobals) (hbi:fd.builtins = builtinsNs) (hcode:(HT w.params).CodeRec fd.code fd.qualname) (hnt:fd.scope.names = nt) (hn:Ae nt) (hsh:zf0 nt F.nn F.np F.cl = true)
    (hd:zf5 (HT w.params) dvs F.dfl = true)
    (hbind:∀ (s:Shared) (vals:List Value),(∀ b ob,(HT w.params).get? b = some ob→s.heap.get? b = some ob)→vals.length ≤ F.np→F.np ≤ vals.length + dvs.length →
      BTo s fd ⟨vals,[]⟩ (((nt.take F.np).map (·.1)).zip (vals ++ dvs.drop (vals.length + dvs.length - F.np))))
    (hbody:SSs w nt F.body body):Br w f F:=by
  subst hnt
  unfold zf0 at hsh
  rw [Bool.and_eq_true,Bool.and_eq_true,Bool.and_eq_true] at hsh
  obtain ⟨⟨⟨h1,h2⟩,h3⟩,h4⟩:=hsh
  have h3:=beq_iff_eq.mp h3
  have ke:∀ {a b:NameKind},Kr a b = true→a = b:=fun {a b} e=>by cases a <;> cases b <;> first | rfl | cases e
  refine ⟨o,fd,body,dvs,⟨hget,hdat,hb,hc,hco,hg,hk,hgl,hbi,hcode,hn,Nat.le_of_ble_eq_true h1,Nat.eq_of_beq_eq_true h2,fun i x=>⟨fun e=>?_,fun m=>?_⟩,?_,fun i x k hi e=>?_,zfs hd,fun σ N h k=>zgG k hd,fun s vals a b c=>(hbind s vals a b c).h,hbody⟩⟩
  · rw [h3]
    refine List.mem_filter.mpr ⟨List.mem_range.mpr (List.getElem?_eq_some_iff.mp e).1,?_⟩
    rw [e]; rfl
  · rw [h3] at m
    have m2:=(List.mem_filter.mp m).2
    cases e:fd.scope.names[i]? with
    | none=>rw [e] at m2; cases m2
    | some p=>
      rw [e] at m2
      obtain ⟨a,b⟩:=p
      have:=ke (show Kr b .cell = true from m2)
      subst this
      exact ⟨a,rfl⟩
  · rw [h3]; exact List.Pairwise.filter _ List.nodup_range
  · have:=List.all_eq_true.mp h4 (x,k) (List.mem_of_getElem? (i:=i) (by rw [List.getElem?_take_of_lt hi]; exact e))
    rw [Bool.or_eq_true] at this
    exact this.imp ke ke
theorem Se {g:Str} {k:NameKind}:∀ {nt:List (Str × NameKind)},nt.lookup g = some k→∃ i:Nat,nt[i]? = some (g,k)
  | [],h=>by cases h
  | (a,b) :: r,h=>by
    rw [List.lookup_cons] at h
    cases e:g == a with
    | true=>rw [e] at h; cases h; rw [beq_iff_eq.mp e]; exact ⟨0,rfl⟩
    | false=>rw [e] at h; obtain ⟨i,hi⟩:=Se (nt:=r) h; exact ⟨i + 1,hi⟩
section
variable {nt:List (Str × NameKind)}
theorem L (o:Ae nt) {i:Nat} {n:Str} {pos} (q:autoParam (nt[i]? = some (n,.local)) tR):SX w nt (A2 i) (.Name n pos):=zrK o q
theorem Ce (o:Ae nt) {i:Nat} {n:Str} {pos} (q:autoParam (nt[i]? = some (n,.cell)) tR):SX w nt (Ab i) (.Name n pos):=zqV o q
theorem Sr {x:Str} {l:List Nat} {kd pos} (hl:autoParam (x.cps.toList = l) tKr) (hs:autoParam (PyData.strOk x = true) tKr):SX w nt (A3 (.str l)) (.Constant (.str x) kd pos):=zty hl hs
theorem G (o:Ae nt) {x:Str} {v:Value} {d:D} {pos} (g:Aj w.params x v) (hd:E5 (HT w.params) 9 v d = true) (q:autoParam (nt.lookup x = some .globalImplicit) tKr):SX w nt (A3 d) (.Name x pos):=let ⟨_,q⟩:=Se q; zqj o q g hd
theorem Z:SL w nt A4 []:=zkw
theorem K {x:Sm D} {xs:Sm (List D)} {ex:Expr} {es:List Expr} (hx:SX w nt x ex) (hs:SL w nt xs es) (hn:autoParam (Ay ex = true) tR):SL w nt (A0 x xs) (ex :: es):=zey hx hs hn
theorem Y:SSs w nt A5 []:=zoG
theorem Q {s ss:Sx} {stm:Stmt} {stms:List Stmt} (h1:SS w nt s stm) (h2:SSs w nt ss stms):SSs w nt (A1 s ss) (stm :: stms):=zm0 h1 h2
theorem At {x:Sm D} {ex:Expr} {pos} {ai:Nat} {name:Str} (hx:SX w nt x ex) (hat:autoParam (AT[ai]? = some name) tKr) (hp:autoParam (ai ∈ zaH) tDe) (he:autoParam (∀ env,attributeBase ex name env (eval ex env) = eval ex env) tR):SX w nt (Ah ai x) (.Attribute ex name pos):=zpE hx hat hp he
theorem AtA {x:Sm D} {ex:Expr} {pos} {name:Str} (hx:SX w nt x ex) (hat:autoParam (AT[28]? = some name) tKr) (he:autoParam (∀ env,attributeBase ex name env (eval ex env) = eval ex env) tR):SX w nt (Mh 0 28 x) (.Attribute ex name pos):=zhm hx hat zcD he
theorem AtT {x:Sm D} {ex:Expr} {pos} {name:Str} (hx:SX w nt x ex) (hat:autoParam (AT[69]? = some name) tKr) (he:autoParam (∀ env,attributeBase ex name env (eval ex env) = eval ex env) tR):SX w nt (Mh 7 69 x) (.Attribute ex name pos):=zhm hx hat zcK he
theorem Ga {x:Sm D} {ex:Expr} {pos} {ai:Nat} {name:Str} (hx:SX w nt x ex) (hat:autoParam (AT[ai]? = some name) tKr) (hp:autoParam (ai ∈ zaH) tDe):SG w nt (Bj ai x) (.Attribute ex name pos):=zqH hx hat hp
theorem GaA {x:Sm D} {ex:Expr} {pos} {name:Str} (hx:SX w nt x ex) (hat:autoParam (AT[28]? = some name) tKr):SG w nt (Si 0 28 x) (.Attribute ex name pos):=zg2 hx hat zcD
theorem GaT {x:Sm D} {ex:Expr} {pos} {name:Str} (hx:SX w nt x ex) (hat:autoParam (AT[69]? = some name) tKr):SG w nt (Si 7 69 x) (.Attribute ex name pos):=zg2 hx hat zcK
theorem Gl (o:Ae nt) {i:Nat} {n:Str} {pos} (q:autoParam (nt[i]? = some (n,.local)) tR):SG w nt (A8 i) (.Name n pos):=zrq o q
theorem Gc (o:Ae nt) {i:Nat} {n:Str} {pos} (q:autoParam (nt[i]? = some (n,.cell)) tR):SG w nt (Ck i) (.Name n pos):=zjW o q
theorem Me {ai:Nat} {name:Str} {x:Sm D} {xs:Sm (List D)} {ex:Expr} {es:List Expr} {apos pos} (hx:SX w nt x ex) (hxs:SL w nt xs es) (hat:autoParam (AT[ai]? = some name) tKr) (hs:autoParam (Cj es = true) tR)
    (he:autoParam (∀ env,∃ pl,eval (.Call (.Attribute ex name apos) es [] pos) env = (do let ov ← eval ex env; standAt apos.atName; let fx ← holding [ov] (getMethod ov name pl); callWith pos fx.1 fx.2 (backTo pos (starEach es env)) [])) tE):
    SX w nt (Az CLS ai x xs) (.Call (.Attribute ex name apos) es [] pos):=zor hx hxs hat (zno w ai) hs he
theorem B1 (o:Ae nt) {g:Str} {id:Value} {f:Op1} {x:Sm D} {ex:Expr} {p1 pos} (gl:Aj w.params g id) (hf:zad w f id) (hx:SX w nt x ex) (q:autoParam (nt.lookup g = some .globalImplicit) tKr) (hid:autoParam (zcX id = true) tR) (hs:autoParam (Ay ex = true) tR):
    SX w nt (x1 f x) (.Call (.Name g p1) [ex] [] pos):=let ⟨_,q⟩:=Se q; zux o q gl hid hf hx hs
theorem B2 (o:Ae nt) {g:Str} {id:Value} {f:Op2} {x y:Sm D} {ex ey:Expr} {p1 pos} (gl:Aj w.params g id) (hf:zfC w f id) (hx:SX w nt x ex) (hy:SX w nt y ey) (q:autoParam (nt.lookup g = some .globalImplicit) tKr) (hid:autoParam (zcX id = true) tR) (hs:autoParam (Ay ex = true) tR) (hs2:autoParam (Ay ey = true) tR):
    SX w nt (x2 f x y) (.Call (.Name g p1) [ex,ey] [] pos):=let ⟨_,q⟩:=Se q; zuS o q gl hid hf hx hy hs hs2
theorem Ca (o:Ae nt) {f:Nat} {x:Str} {xs:Sm (List D)} {es:List Expr} {p1 pos} (g:Aj w.params x (.ref (fnA f))) (hx:SL w nt xs es) (hf:autoParam (Nat.blt f FA.length = true) tR) (q:autoParam (nt.lookup x = some .globalImplicit) tKr) (hs:autoParam (Cj es = true) tR):
    SX w nt (Am f xs) (.Call (.Name x p1) es [] pos):=let ⟨_,q⟩:=Se q; zp6 o q g (zob w f (Nat.blt_eq.mp hf)) hx hs
theorem Nw (o:Ae nt) {C f:Nat} {x:Str} {xs:Sm (List D)} {es:List Expr} {p1 pos} (g:Aj w.params x (.ref (Hp C))) (hx:SL w nt xs es) (hC:autoParam (Nat.blt C 8 = true) tR) (hf:autoParam (zf4 C f = true) tKr) (q:autoParam (nt.lookup x = some .globalImplicit) tKr) (hs:autoParam (Cj es = true) tR):
    SX w nt (Ho C f xs) (.Call (.Name x p1) es [] pos):=let ⟨_,q⟩:=Se q; ztL o q g (Nat.blt_eq.mp hC) (znq hf) (zj7 w C (Nat.blt_eq.mp hC)) hx hs
theorem Ir (o:Ae nt) {g:Str} {x:Sm D} {ex:Expr} {p1 pos} (gl:Aj w.params g (.type "range")) (hx:SX w nt x ex) (q:autoParam (nt.lookup g = some .globalImplicit) tKr) (hs:autoParam (Ay ex = true) tR):SI w nt (Pi x) (.Call (.Name g p1) [ex] [] pos):=let ⟨_,q⟩:=Se q; zlJ o q gl hx hs
theorem L1 {nc:List (Str × NameKind)} {t:Tg} {ts:Sm Bool} {x:Sm D} {elt target iter:Expr} {ifs:List Expr} {scope:Scope} {pos:Pos} (ht:SG w nc t target) (hs:SF w nc ts ifs) (he:SX w nc x elt)
    (hC:autoParam (Er (.ListComp elt [⟨target,iter,ifs,0⟩] scope pos) 0) tC):
    Mk w nc (.ListComp elt [⟨target,iter,ifs,0⟩] scope pos) 0 (Bl t ts (Bz x)):=zsp hC ht hs (zgW he)
theorem L2 {nc:List (Str × NameKind)} {t t2:Tg} {ts ts2:Sm Bool} {x:Sm D} {i2:Sm It} {elt target iter target2 iter2:Expr} {ifs ifs2:List Expr} {scope:Scope} {pos:Pos}
    (ht:SG w nc t target) (hs:SF w nc ts ifs) (hi:SI w nc i2 iter2) (ht2:SG w nc t2 target2) (hs2:SF w nc ts2 ifs2) (he:SX w nc x elt)
    (hC:autoParam (Er (.ListComp elt [⟨target,iter,ifs,0⟩,⟨target2,iter2,ifs2,0⟩] scope pos) 0) tC)
    (hC1:autoParam (Er (.ListComp elt [⟨target,iter,ifs,0⟩,⟨target2,iter2,ifs2,0⟩] scope pos) 1) tC)
    (hS1:autoParam (Gg (.ListComp elt [⟨target,iter,ifs,0⟩,⟨target2,iter2,ifs2,0⟩] scope pos) 1) tC) (hfs:autoParam (∀ env x,foldedSetIterable iter2 env x = pure x) tR):
    Mk w nc (.ListComp elt [⟨target,iter,ifs,0⟩,⟨target2,iter2,ifs2,0⟩] scope pos) 0 (Bl t ts (zdU i2 (Bl t2 ts2 (Bz x)))):=ztS hC hC1 hS1 ht hs hi ht2 hs2 (zgW he) hfs
theorem Sc (nc:List (Str × NameKind)) {n:Nat} {cs:List (Nat × Nat)} {i:Sm It} {l:It→Cb} {iter target elt:Expr} {ifs:List Expr} {gs:List Comprehension} {scope:Scope} {pos:Pos} (hn:Ae nt) (hi:SI w nt i iter) (hl:Mk w nc (.ListComp elt (⟨target,iter,ifs,0⟩ :: gs) scope pos) 0 l)
    (hS:autoParam (Gg (.ListComp elt (⟨target,iter,ifs,0⟩ :: gs) scope pos) 0) tC) (hC:autoParam (Er (.ListComp elt (⟨target,iter,ifs,0⟩ :: gs) scope pos) 0) tC)
    (hk:autoParam (scope.kind = .function) tR) (hco:autoParam (Sv nt scope.names cs = true) tKr) (hnc:autoParam (Ow nt scope.names = nc) tKr) (hfs:autoParam (∀ env x,foldedSetIterable iter env x = pure x) tR):SX w nt (Bw n cs i l) (.ListComp elt (⟨target,iter,ifs,0⟩ :: gs) scope pos):=scp nc hn hS hC hk hco hi hnc hl hfs
theorem ScA (nc:List (Str × NameKind)) {n j:Nat} {y:Str} {py spos:Pos} {cs:List (Nat × Nat)} {i:Sm It} {l:It→Cb} {iter target elt:Expr} {ifs:List Expr} {gs:List Comprehension} {scope:Scope} {pos:Pos} (hn:Ae nt) (hi:SI w nt i iter) (hl:Mk w nc (.ListComp elt (⟨target,iter,ifs,0⟩ :: gs) scope pos) 0 l)
    (q:autoParam (nt[j]? = some (y,.local)) tR) (hsw:autoParam (((py.line == pos.line) && !(scope.names.any fun p=>p.1 == y && (p.2 == .local || p.2 == .cell))) = true) tKr)
    (hS:autoParam (Gg (.ListComp elt (⟨target,iter,ifs,0⟩ :: gs) scope pos) 0) tC) (hC:autoParam (Er (.ListComp elt (⟨target,iter,ifs,0⟩ :: gs) scope pos) 0) tC)
    (hk:autoParam (scope.kind = .function) tR) (hco:autoParam (Sv nt scope.names cs = true) tKr) (hnc:autoParam (Ow nt scope.names = nc) tKr) (hfs:autoParam (∀ env x,foldedSetIterable iter env x = pure x) tR):SS w nt (Ap (A8 j) (Bw n cs i l)) (.Assign [.Name y py] (.ListComp elt (⟨target,iter,ifs,0⟩ :: gs) scope pos) spos):=zl5 nc hn q hsw hS hC hk hco hi hnc hl hfs
end
noncomputable def zaa (o:Obj):FuncData:=match o.data with
  | .func f=>f
  | _=>default
def Bd (w:World) (o:Obj) (nt:List (Str × NameKind)) (np:Nat) (dvs:List Value):Prop:=∀ (s:Shared) (vals:List Value),(∀ b ob,(HT w.params).get? b = some ob→s.heap.get? b = some ob)→vals.length ≤ np→np ≤ vals.length + dvs.length →
  BTo s (zaa o) ⟨vals,[]⟩ (((nt.take np).map (·.1)).zip (vals ++ dvs.drop (vals.length + dvs.length - np)))
theorem Bd.of0 {o:Obj} {nt:List (Str × NameKind)} {np:Nat} (h:∀ vals:List Value,vals.length = np→bindArgs (zaa o) ⟨vals,[]⟩ = pure (((nt.take np).map (·.1)).zip vals)):Bd w o nt np []:=fun s vals _ a b=>by
  rw [List.length_nil,Nat.add_zero] at b
  have e:vals.length = np:=Nat.le_antisymm a b
  rw [List.drop_nil,List.append_nil]
  exact .eq (h vals e)
theorem C4 {α:Type} {p:List α→Prop} (h:p []):∀ l:List α,l.length = 0→p l:=fun l e=>by rw [List.eq_nil_of_length_eq_zero e]; exact h
theorem As {α:Type} {p:List α→Prop} {n:Nat} (h:∀ a,∀ l:List α,l.length = n→p (a :: l)):∀ l:List α,l.length = n + 1→p l
  | [],e=>by cases e
  | a :: l,e=>h a l (Nat.succ.inj e)
theorem Br.mk {f:Nat} {F:Fn} {nt:List (Str × NameKind)} {body:List Stmt} {dvs:List Value} (o:Obj) (c:Addr) {oc:Obj} {vs:Array Value} {t:Tok} (hn:Ae nt) {np:Nat} {R:Sx} (hbind:Bd w o nt np dvs) (hbody:SSs w nt R body) (hnp:autoParam (F.np = np) tR) (hR:autoParam (F.body = R) tR)
    (h1:autoParam ((Rp w.params).get (fnA f) = some o) tKr) (h2:autoParam ((Nat.blt (fnA f) Zt && Xd o) = true) tKr) (hdat:autoParam (o.data = .func (zaa o)) tKr) (hb:autoParam ((zaa o).body = .stmts body) tKr) (hc:autoParam ((zaa o).closure = []) tKr) (hco:autoParam ((zaa o).scope.isCoroutine = false) tKr) (hg:autoParam ((zaa o).scope.isGenerator = false) tKr) (hk:autoParam ((zaa o).scope.kind = .function) tKr)
    (hgl:autoParam ((zaa o).globals = mainGlobals) tKr) (hbi:autoParam ((zaa o).builtins = builtinsNs) tKr) (c0:autoParam ((zaa o).code = .ref c) tKr) (c1:autoParam ((Rp w.params).get c = some oc) tKr) (c2:autoParam ((Nat.blt c Zt && Xd oc) = true) tKr) (c3:autoParam (oc.data = .fields vs) tR) (c4:autoParam (vs[1]? = some (.str (zaa o).qualname t)) tR) (hnt:autoParam ((zaa o).scope.names = nt) tKr) (hsh:autoParam (zf0 nt F.nn F.np F.cl = true) tKr)
    (hd:autoParam (zf5 (HT w.params) dvs F.dfl = true) tKr):Br w f F:=
  Br.of o (zaa o) (Dt _ h1 h2) hdat hb hc hco hg hk hgl hbi ⟨c,oc,vs,t,c0,Dt _ c1 c2,c3,c4⟩ hnt hn hsh hd (hnp ▸ hbind) (hR ▸ hbody)
end
theorem Yt (w:World):Aj w.params (Str.ofString "tuple") (.type "tuple"):=.inr ⟨by kernel_rfl,by kernel_rfl⟩
theorem T8 (w:World):Aj w.params (Str.ofString "list") (.type "list"):=.inr ⟨by kernel_rfl,by kernel_rfl⟩
theorem Hm (w:World):Aj w.params (Str.ofString "BOTTOM") (.ref 24):=.inl (by kernel_rfl)
theorem Hn (w:World):E5 (HT w.params) 9 (.ref 24) (.tup [.str [98,111,116,116,111,109]]) = true:=by kernel_rfl
theorem Ci (w:World):Aj w.params (Str.ofString "ANY") (.ref 23):=.inl (by kernel_rfl)
theorem Ch (w:World):E5 (HT w.params) 9 (.ref 23) (.tup [.str [110,97,109,101],.str [65,110,121],.tup []]) = true:=by kernel_rfl
theorem Eo (w:World):Aj w.params (Str.ofString "len") (.builtin "len"):=.inr ⟨by kernel_rfl,by kernel_rfl⟩
theorem Yd (w:World):Aj w.params (Str.ofString "kind_text") (.ref 84):=.inl (by kernel_rfl)
theorem zdS (w:World):Aj w.params (Str.ofString "sorted") (.builtin "sorted"):=.inr ⟨by kernel_rfl,by kernel_rfl⟩
theorem za4 (w:World):Aj w.params (Str.ofString "union_of") (.ref 48):=.inl (by kernel_rfl)
theorem Rg (w:World):Aj w.params (Str.ofString "parts_of_kind") (.ref 55):=.inl (by kernel_rfl)
theorem Od (w:World):Aj w.params (Str.ofString "substituted") (.ref 67):=.inl (by kernel_rfl)
theorem zbr (w:World):Aj w.params (Str.ofString "rebuilt_kind") (.ref 62):=.inl (by kernel_rfl)
theorem zeG (w:World):Aj w.params (Str.ofString "Side") (.ref 129):=.inl (by kernel_rfl)
theorem zeP (w:World):Aj w.params (Str.ofString "dict") (.type "dict"):=.inr ⟨by kernel_rfl,by kernel_rfl⟩
theorem zeY (w:World):Aj w.params (Str.ofString "Sides") (.ref 200):=.inl (by kernel_rfl)
theorem zoV (w:World):Aj w.params (Str.ofString "str") (.type "str"):=.inr ⟨by kernel_rfl,by kernel_rfl⟩
theorem Uo (w:World):Aj w.params (Str.ofString "is_diagonal") (.ref 223):=.inl (by kernel_rfl)
theorem Ib (w:World):Aj w.params (Str.ofString "free_vars") (.ref 72):=.inl (by kernel_rfl)
theorem Om (w:World):Aj w.params (Str.ofString "occurrences") (.ref 209):=.inl (by kernel_rfl)
theorem zoJ (w:World):Aj w.params (Str.ofString "max") (.builtin "max"):=.inr ⟨by kernel_rfl,by kernel_rfl⟩
theorem zon (w:World):Aj w.params (Str.ofString "sum") (.builtin "sum"):=.inr ⟨by kernel_rfl,by kernel_rfl⟩
theorem zqY (w:World):Aj w.params (Str.ofString "min") (.builtin "min"):=.inr ⟨by kernel_rfl,by kernel_rfl⟩
theorem L8 (w:World):Aj w.params (Str.ofString "left_cases") (.ref 228):=.inl (by kernel_rfl)
theorem zcm (w:World):Aj w.params (Str.ofString "tuple_cases") (.ref 233):=.inl (by kernel_rfl)
theorem Xc (w:World):Aj w.params (Str.ofString "MOST_CASES") (.int (.ofNat 64) 273):=.inl (by kernel_rfl)
theorem Xh (w:World):E5 (HT w.params) 9 (.int (.ofNat 64) 273) (.int (.ofNat 64)) = true:=by kernel_rfl
theorem U0 (w:World):Aj w.params (Str.ofString "tuple_of") (.ref 41):=.inl (by kernel_rfl)
theorem Q0 (w:World):Aj w.params (Str.ofString "is_empty") (.ref 238):=.inl (by kernel_rfl)
theorem zfQ (w:World):Aj w.params (Str.ofString "widened") (.ref 356):=.inl (by kernel_rfl)
theorem zdH (w:World):Aj w.params (Str.ofString "tuple_ways") (.ref 368):=.inl (by kernel_rfl)
theorem zdI (w:World):Aj w.params (Str.ofString "has_within") (.ref 363):=.inl (by kernel_rfl)
theorem zdh (w:World):Aj w.params (Str.ofString "tail_of") (.ref 245):=.inl (by kernel_rfl)
theorem Zn (w:World):Aj w.params (Str.ofString "range") (.type "range"):=.inr ⟨by kernel_rfl,by kernel_rfl⟩
theorem zii (w:World):Aj w.params (Str.ofString "Search") (.ref 338):=.inl (by kernel_rfl)
theorem X7 (w:World):Aj w.params (Str.ofString "is_subtype") (.ref 376):=.inl (by kernel_rfl)
theorem zeA (w:World):Aj w.params (Str.ofString "same_kind") (.ref 383):=.inl (by kernel_rfl)
theorem zc9 (w:World):Aj w.params (Str.ofString "FIRST_WORLD") (.int (.ofNat 1) 697):=.inl (by kernel_rfl)
theorem zc0 (w:World):E5 (HT w.params) 9 (.int (.ofNat 1) 697) (.int (.ofNat 1)) = true:=by kernel_rfl
theorem ziY (w:World):Aj w.params (Str.ofString "Table") (.ref 412):=.inl (by kernel_rfl)
theorem zqo (w:World):Aj w.params (Str.ofString "zip") (.type "zip"):=.inr ⟨by kernel_rfl,by kernel_rfl⟩
theorem Ed (w:World):Aj w.params (Str.ofString "Decl") (.ref 574):=.inl (by kernel_rfl)
theorem zmb (w:World):Aj w.params (Str.ofString "TYPE") (.ref 247):=.inl (by kernel_rfl)
theorem zmk (w:World):E5 (HT w.params) 9 (.ref 247) (.tup [.str [110,97,109,101],.str [84,121,112,101],.tup []]) = true:=by kernel_rfl
theorem ziJ (w:World):Aj w.params (Str.ofString "Kinds") (.ref 661):=.inl (by kernel_rfl)
theorem D8 (w:World):Aj w.params (Str.ofString "nominal") (.ref 673):=.inl (by kernel_rfl)
theorem Dl (w:World):Aj w.params (Str.ofString "named") (.ref 33):=.inl (by kernel_rfl)
theorem zh8 (w:World):Aj w.params (Str.ofString "SIGNED") (.ref 534):=.inl (by kernel_rfl)
theorem zik (w:World):E5 (HT w.params) 9 (.ref 534) (.tup [.str [73,110,116,56],.str [73,110,116,49,54],.str [73,110,116,51,50],.str [73,110,116,54,52],.str [66,105,103,73,110,116]]) = true:=by kernel_rfl
theorem zfa (w:World):Aj w.params (Str.ofString "UNSIGNED") (.ref 535):=.inl (by kernel_rfl)
theorem zfn (w:World):E5 (HT w.params) 9 (.ref 535) (.tup [.str [85,73,110,116,56],.str [85,73,110,116,49,54],.str [85,73,110,116,51,50],.str [85,73,110,116,54,52]]) = true:=by kernel_rfl
theorem zbt (w:World):Aj w.params (Str.ofString "start_errors") (.ref 687):=.inl (by kernel_rfl)
theorem zdP (w:World):Aj w.params (Str.ofString "start_rows") (.ref 694):=.inl (by kernel_rfl)
theorem zbQ (w:World):Aj w.params (Str.ofString "PLAIN_ERRORS") (.ref 536):=.inl (by kernel_rfl)
theorem zbs (w:World):E5 (HT w.params) 9 (.ref 536) (.tup [.str [68,105,118,105,100,101,69,114,114,111,114],.str [73,110,101,120,97,99,116,69,114,114,111,114],.str [84,121,112,101,69,114,114,111,114],.str [83,116,97,99,107,79,118,101,114,102,108,111,119,69,114,114,111,114]]) = true:=by kernel_rfl
theorem zcP (w:World):Aj w.params (Str.ofString "TEXT_ERRORS") (.ref 537):=.inl (by kernel_rfl)
theorem zce (w:World):E5 (HT w.params) 9 (.ref 537) (.tup [.str [65,114,103,117,109,101,110,116,69,114,114,111,114],.str [79,118,101,114,102,108,111,119,69,114,114,111,114],.str [68,105,109,101,110,115,105,111,110,77,105,115,109,97,116,99,104],.str [69,114,114,111,114,69,120,99,101,112,116,105,111,110]]) = true:=by kernel_rfl
theorem zc5 (w:World):Aj w.params (Str.ofString "CALL_ERRORS") (.ref 538):=.inl (by kernel_rfl)
theorem zcV (w:World):E5 (HT w.params) 9 (.ref 538) (.tup [.str [77,101,116,104,111,100,69,114,114,111,114],.str [65,109,98,105,103,117,111,117,115,69,114,114,111,114]]) = true:=by kernel_rfl
theorem zgb (w:World):Aj w.params (Str.ofString "int") (.type "int"):=.inr ⟨by kernel_rfl,by kernel_rfl⟩
theorem zpN (w:World):Aj w.params (Str.ofString "abs") (.builtin "abs"):=.inr ⟨by kernel_rfl,by kernel_rfl⟩
theorem zeL (w:World):Aj w.params (Str.ofString "_law_part") (.ref 758):=.inl (by kernel_rfl)
theorem zeF (w:World):Aj w.params (Str.ofString "_law_drum") (.ref 744):=.inl (by kernel_rfl)
theorem zdt (w:World):Aj w.params (Str.ofString "start_kinds") (.ref 680):=.inl (by kernel_rfl)
theorem zhV (w:World):Aj w.params (Str.ofString "Tables") (.ref 496):=.inl (by kernel_rfl)
theorem Zd (w:World):Aj w.params (Str.ofString "_law_seen") (.ref 768):=.inl (by kernel_rfl)
theorem Jb (w:World):Aj w.params (Str.ofString "_law_beat") (.ref 751):=.inl (by kernel_rfl)
theorem Zf (w:World):Aj w.params (Str.ofString "_law_signature") (.ref 763):=.inl (by kernel_rfl)
theorem zh3 (w:World):Aj w.params (Str.ofString "Method") (.ref 733):=.inl (by kernel_rfl)
noncomputable def zrI:List (Str × NameKind):=[(.ofString ".0",.local),(.ofString "part",.local),(.ofString "substituted",.globalImplicit),(.ofString "table",.cell)]
theorem zb4:Ae zrI:=Ae.of (by kernel_rfl)
noncomputable def zsm:List (Str × NameKind):=[(.ofString ".0",.local),(.ofString "part",.local),(.ofString "bound",.cell)]
theorem zeq:Ae zsm:=Ae.of (by kernel_rfl)
noncomputable def zsg:List (Str × NameKind):=[(.ofString ".0",.local),(.ofString "param",.local),(.ofString "kind_text",.globalImplicit)]
theorem zen:Ae zsg:=Ae.of (by kernel_rfl)
noncomputable def zs2:List (Str × NameKind):=[(.ofString ".0",.local),(.ofString "part",.local),(.ofString "occurrences",.globalImplicit),(.ofString "name",.cell)]
theorem zbX:Ae zs2:=Ae.of (by kernel_rfl)
noncomputable def zrC:List (Str × NameKind):=[(.ofString ".0",.local),(.ofString "row",.local)]
theorem zgY:Ae zrC:=Ae.of (by kernel_rfl)
noncomputable def zt0:List (Str × NameKind):=[(.ofString ".0",.local),(.ofString "row",.local)]
theorem zgU:Ae zt0:=Ae.of (by kernel_rfl)
noncomputable def zr0:List (Str × NameKind):=[(.ofString ".0",.local),(.ofString "part",.local),(.ofString "occurrences",.globalImplicit),(.ofString "name",.cell)]
theorem zb0:Ae zr0:=Ae.of (by kernel_rfl)
noncomputable def zsd:List (Str × NameKind):=[(.ofString ".0",.local),(.ofString "row",.local)]
theorem zgQ:Ae zsd:=Ae.of (by kernel_rfl)
noncomputable def zsH:List (Str × NameKind):=[(.ofString ".0",.local),(.ofString "row",.local)]
theorem zho:Ae zsH:=Ae.of (by kernel_rfl)
noncomputable def zsS:List (Str × NameKind):=[(.ofString ".0",.local),(.ofString "part",.local),(.ofString "case",.local),(.ofString "left_cases",.globalImplicit)]
theorem Z6:Ae zsS:=Ae.of (by kernel_rfl)
noncomputable def zn8:List (Str × NameKind):=[(.ofString ".0",.local),(.ofString "case",.local),(.ofString "kind",.cell)]
theorem U6:Ae zn8:=Ae.of (by kernel_rfl)
noncomputable def zn0:List (Str × NameKind):=[(.ofString ".0",.local),(.ofString "row",.local),(.ofString "case",.local),(.ofString "cases",.cell)]
theorem Un:Ae zn0:=Ae.of (by kernel_rfl)
noncomputable def znz:List (Str × NameKind):=[(.ofString ".0",.local),(.ofString "row",.local),(.ofString "tuple_of",.globalImplicit),(.ofString "kind",.cell)]
theorem zah:Ae znz:=Ae.of (by kernel_rfl)
noncomputable def znJ:List (Str × NameKind):=[(.ofString ".0",.local),(.ofString "part",.local),(.ofString "is_empty",.globalImplicit)]
theorem zc8:Ae znJ:=Ae.of (by kernel_rfl)
noncomputable def zn7:List (Str × NameKind):=[(.ofString ".0",.local),(.ofString "part",.local),(.ofString "one",.cell)]
theorem zcM:Ae zn7:=Ae.of (by kernel_rfl)
noncomputable def zn6:List (Str × NameKind):=[(.ofString ".0",.local),(.ofString "upper",.local),(.ofString "kind",.cell)]
theorem zci:Ae zn6:=Ae.of (by kernel_rfl)
noncomputable def znI:List (Str × NameKind):=[(.ofString ".0",.local),(.ofString "lower",.local),(.ofString "upper",.local),(.ofString "side",.cell)]
theorem U2:Ae znI:=Ae.of (by kernel_rfl)
noncomputable def zoa:List (Str × NameKind):=[(.ofString ".0",.local),(.ofString "at",.local),(.ofString "len",.globalImplicit),(.ofString "rest",.cell),(.ofString "some",.cell),(.ofString "wanted",.cell)]
theorem J8:Ae zoa:=Ae.of (by kernel_rfl)
noncomputable def znE:List (Str × NameKind):=[(.ofString ".0",.local),(.ofString "method",.local),(.ofString "world",.cell)]
theorem Zq:Ae znE:=Ae.of (by kernel_rfl)
noncomputable def znx:List (Str × NameKind):=[(.ofString ".0",.local),(.ofString "row",.local)]
theorem zfH:Ae znx:=Ae.of (by kernel_rfl)
noncomputable def znF:List (Str × NameKind):=[(.ofString ".0",.local),(.ofString "name",.local),(.ofString "own",.cell)]
theorem Z5:Ae znF:=Ae.of (by kernel_rfl)
noncomputable def znV:List (Str × NameKind):=[(.ofString ".0",.local),(.ofString "one",.local),(.ofString "own",.cell)]
theorem Zk:Ae znV:=Ae.of (by kernel_rfl)
noncomputable def znR:List (Str × NameKind):=[(.ofString ".0",.local),(.ofString "word",.local),(.ofString "_law_part",.globalImplicit),(.ofString "way",.cell)]
theorem Zb:Ae znR:=Ae.of (by kernel_rfl)
noncomputable def znB:List (Str × NameKind):=[(.ofString ".0",.local),(.ofString "method",.local)]
theorem ze0:Ae znB:=Ae.of (by kernel_rfl)
noncomputable def zn9:List (Str × NameKind):=[(.ofString ".0",.local),(.ofString "spot",.local),(.ofString "_law_beat",.globalImplicit),(.ofString "drum",.cell)]
theorem zcG:Ae zn9:=Ae.of (by kernel_rfl)
noncomputable def znT:List (Str × NameKind):=[(.ofString ".0",.local),(.ofString "row",.local),(.ofString "name",.cell),(.ofString "world",.cell)]
theorem Hw:Ae znT:=Ae.of (by kernel_rfl)
noncomputable def znQ:List (Str × NameKind):=[(.ofString ".0",.local),(.ofString "row",.local)]
theorem Rr:Ae znQ:=Ae.of (by kernel_rfl)
noncomputable def zn2:List (Str × NameKind):=[(.ofString ".0",.local),(.ofString "method",.local)]
theorem zeT:Ae zn2:=Ae.of (by kernel_rfl)
noncomputable def znN:List (Str × NameKind):=[(.ofString ".0",.local),(.ofString "method",.local)]
theorem zfE:Ae znN:=Ae.of (by kernel_rfl)
noncomputable def znH:List (Str × NameKind):=[(.ofString ".0",.local),(.ofString "row",.local)]
theorem zcB:Ae znH:=Ae.of (by kernel_rfl)
noncomputable def Xy:List (Str × NameKind):=[(.ofString "name",.local),(.ofString "params",.local),(.ofString "tuple",.globalImplicit)]
theorem zc2:Ae Xy:=.of (by kernel_rfl)
theorem zgq (w:World):SSs w Xy (A1 zaw A5) (Aq (st 4)):=by unfold zaw; have o:=zc2; exact (Q (Af (Ak (K Sr (K (L o) (K (B1 o (Yt w) zbY (L o)) Z))))) Y)
theorem zgf (w:World):Bd w o33 Xy 2 [(.ref 25)]:=fun s vals top h1 h2=>match vals,h1,h2 with
  | [],h1,h2=>.no (by simp at h2)
  | [v0],h1,h2=>.dfl (T:=26) rfl (top 26 o26 (Dt w.params (by kernel_rfl) (by kernel_rfl))) rfl (by rfl) (by rfl)
  | [v0,v1],h1,h2=>.dfl (T:=26) rfl (top 26 o26 (Dt w.params (by kernel_rfl) (by kernel_rfl))) rfl (by rfl) (by rfl)
  | v0 :: v1 :: v2 :: r,h1,h2=>.no (by simp only [List.length_cons] at h1; lia)
theorem zfN (w:World):Br w 0 zgH:=.mk o33 32 (oc:=o32) zc2 (zgf w) (zgq w)
noncomputable def Qk:List (Str × NameKind):=[(.ofString "kinds",.local),(.ofString "rest",.local),(.ofString "tuple",.globalImplicit)]
theorem Xe:Ae Qk:=.of (by kernel_rfl)
theorem zdC (w:World):SSs w Qk (A1 Ss A5) (Aq (st 5)):=by unfold Ss; have o:=Xe; exact (Q (Af (Ak (K Sr (K (B1 o (Yt w) zbY (L o)) (K (L o) Z))))) Y)
theorem zdA (w:World):Bd w o41 Qk 2 [.none]:=fun s vals top h1 h2=>match vals,h1,h2 with
  | [],h1,h2=>.no (by simp at h2)
  | [v0],h1,h2=>.dfl (T:=34) rfl (top 34 o34 (Dt w.params (by kernel_rfl) (by kernel_rfl))) rfl (by rfl) (by rfl)
  | [v0,v1],h1,h2=>.dfl (T:=34) rfl (top 34 o34 (Dt w.params (by kernel_rfl) (by kernel_rfl))) rfl (by rfl) (by rfl)
  | v0 :: v1 :: v2 :: r,h1,h2=>.no (by simp only [List.length_cons] at h1; lia)
theorem zdx (w:World):Br w 1 zch:=.mk o41 40 (oc:=o40) Xe (zdA w) (zdC w)
noncomputable def Qi:List (Str × NameKind):=[(.ofString "kinds",.local),(.ofString "left",.local),(.ofString "found",.local),(.ofString "here",.local),(.ofString "list",.globalImplicit),(.ofString "BOTTOM",.globalImplicit),(.ofString "ANY",.globalImplicit),(.ofString "len",.globalImplicit),(.ofString "tuple",.globalImplicit),(.ofString "sorted",.globalImplicit),(.ofString "kind_text",.globalImplicit)]
theorem Xj:Ae Qi:=.of (by kernel_rfl)
theorem zdz (w:World):SSs w Qi (A1 S5 (A1 S8 (A1 Sn (A1 Su (A1 Sa A5))))) (Aq (st 6)):=by unfold S5 S8 Sn Su Sa; have o:=Xj; exact (Q (zb5 o rfl rfl (K (zgj (B1 o (T8 w) Y6 (L o))) (K (Ad Z) Z))) (Q (U7 (Ac T1 (L o) (Ad Z)) (Q (Aa (Gl o) (zgX (L o))) (Q (B4 (Ac By (A7 (L o) A9) Sr) (Q Be Y) (Q (B4 (Th (Av (Ac T1 (L o) (G o (Hm w) (Hn w))) (Av (Ac (Qc (C3 w)) (L o) (L o)) De))) (Q (B9 (Pg (L o) (L o))) Y) Y) Y)) Y))) (Q (B4 (Ac (zb7 (C3 w)) (G o (Ci w) (Ch w)) (L o)) (Q Be Y) Y) (Q (B4 (Ac By (L o) (Ad Z)) (Q Be Y) Y) (Q (Af (Dv (Ac By (B1 o (Eo w) (Jf (C3 w)) (L o)) A9) (A7 (L o) A9) (Ak (K Sr (K (B1 o (Yt w) zbY (zm5 o (i:=9) rfl (zdS w) (j:=10) rfl (Yd w) (L o))) Z))))) Y)))))
theorem zdy (w:World):Bd w o48 Qi 1 []:=.of0 (As fun _=>C4 (by kernel_rfl))
theorem zdE (w:World):Br w 2 zcU:=.mk o48 47 (oc:=o47) Xj (zdy w) (zdz w)
noncomputable def Hj:List (Str × NameKind):=[(.ofString "kind",.local),(.ofString "word",.local),(.ofString "list",.globalImplicit)]
theorem Oj:Ae Hj:=.of (by kernel_rfl)
theorem Yc (w:World):SSs w Hj (A1 Ic (A1 J4 (A1 Hv (A1 Ia (A1 Ix (A1 I4 A5)))))) (Aq (st 7)):=by unfold Ic J4 Hv Ia Ix I4; have o:=Oj; exact (Q (Aa (Gl o) (A7 (L o) A9)) (Q (B4 (Ac By (L o) Sr) (Q (Af (B1 o (T8 w) Y6 (A7 (L o) A9))) Y) Y) (Q (B4 (Ac By (L o) Sr) (Q (Af (Cg Et (B1 o (T8 w) Y6 (A7 (L o) A9)) (Dv (Ac zby (A7 (L o) A9) Cf) (Ad Z) (Ad (K (A7 (L o) A9) Z))))) Y) Y) (Q (B4 (Ac By (L o) Sr) (Q (Af (B1 o (T8 w) Y6 (A7 (L o) A9))) Y) Y) (Q (B4 (Ac By (L o) Sr) (Q Be Y) Y) (Q (Af (Dv (Ac By (L o) Sr) (Ad (K (A7 (L o) A9) Z)) (Ad Z))) Y))))))
theorem Y9 (w:World):Bd w o55 Hj 1 []:=.of0 (As fun _=>C4 (by kernel_rfl))
theorem Xv (w:World):Br w 3 Ts:=.mk o55 54 (oc:=o54) Oj (Y9 w) (Yc w)
noncomputable def Iw:List (Str × NameKind):=[(.ofString "kind",.local),(.ofString "parts",.local),(.ofString "word",.local),(.ofString "many",.local),(.ofString "tuple",.globalImplicit),(.ofString "len",.globalImplicit),(.ofString "union_of",.globalImplicit)]
theorem Ps:Ae Iw:=.of (by kernel_rfl)
theorem Yo (w:World):SSs w Iw (A1 Kw (A1 Jx (A1 Jl (A1 Jy (A1 Js (A1 Ko A5)))))) (Aq (st 8)):=by unfold Kw Jx Jl Jy Js Ko; have o:=Ps; exact (Q (Aa (Gl o) (A7 (L o) A9)) (Q (B4 (Ac By (L o) Sr) (Q Be Y) Y) (Q (B4 (Ac By (L o) Sr) (Q (Aa (Gl o) (B1 o (Eo w) (Jf (C3 w)) (A7 (L o) A9))) (Q (Af (Ak (K Sr (K (B1 o (Yt w) zbY (ziS (L o) (L o))) (K (Dv (Ac zby (A7 (L o) A9) Cf) Cf (A7 (L o) (L o))) Z))))) Y)) Y) (Q (B4 (Ac By (L o) Sr) (Q (Af (Ca o (za4 w) (K (L o) Z))) Y) Y) (Q Be (Q Be Y))))))
theorem Z0 (w:World):Bd w o62 Iw 2 []:=.of0 (As fun _=>As fun _=>C4 (by kernel_rfl))
theorem Yv (w:World):Br w 4 Ud:=.mk o62 61 (oc:=o61) Ps (Z0 w) (Yo w)
noncomputable def Kk:List (Str × NameKind):=[(.ofString "kind",.local),(.ofString "table",.cell),(.ofString "inner",.local),(.ofString "bounds",.local),(.ofString "parts",.local),(.ofString "dict",.globalImplicit),(.ofString "substituted",.globalImplicit),(.ofString "parts_of_kind",.globalImplicit),(.ofString "rebuilt_kind",.globalImplicit)]
theorem Rn:Ae Kk:=.of (by kernel_rfl)
theorem zaR (w:World):SSs w Kk (A1 Lu (A1 M3 (A1 Ln (A1 M7 A5)))) (Aq (st 9)):=by unfold Lu M3 Ln M7; have o:=Rn; exact (Q (B4 (Ac By (A7 (L o) A9) Sr) (Q (Af (zn1 (Ce o) (A7 (L o) A9) (L o))) Y) Y) (Q (B4 (Ac By (A7 (L o) A9) Sr) (Q Be (Q Be (Q Be (Q Be Y)))) Y) (Q (Aa (Gl o) (Ca o (Rg w) (K (L o) Z))) (Q (Af (Dv (Ac By (L o) (Ad Z)) (L o) (Ca o (zbr w) (K (L o) (K (Sc zrI o (Cm (L o)) (L1 (Gl zb4) Ct (Ca zb4 (Od w) (K (L zb4) (K (Ce zb4) Z))))) Z))))) Y))))
theorem za1 (w:World):Bd w o67 Kk 2 []:=.of0 (As fun _=>As fun _=>C4 (by kernel_rfl))
theorem zaT (w:World):Br w 5 X5:=.mk o67 66 (oc:=o66) Rn (za1 w) (zaR w)
noncomputable def O2:List (Str × NameKind):=[(.ofString "kind",.local),(.ofString "found",.local),(.ofString "left",.local),(.ofString "here",.local),(.ofString "bound",.cell),(.ofString "parts_of_kind",.globalImplicit)]
theorem Ue:Ae O2:=.of (by kernel_rfl)
theorem zcn (w:World):SSs w O2 (A1 R6 (A1 Qj (A1 Qh A5))) (Aq (st 10)):=by unfold R6 Qj Qh; have o:=Ue; exact (Q (zb5 o rfl rfl (K (Ad Z) (K (Ad (K (Ak (K (L o) (K (Ak Z) Z))) Z)) Z))) (Q (U7 (Ac T1 (L o) (Ad Z)) (Q (Aa (Rx (Bn (Gl o) (Bn (Gc o) Kl))) (zgX (L o))) (Q (B4 (Ac By (A7 (L o) A9) Sr) (Q (B4 (Th (Av (Ac (Qc (C3 w)) (A7 (L o) A9) (Ce o)) (Av (Ac (Qc (C3 w)) (A7 (L o) A9) (L o)) De))) (Q (B9 (Pg (L o) (A7 (L o) A9))) Y) Y) Y) (Q (B4 (Ac By (A7 (L o) A9) Sr) (Q Be (Q Be Y)) (Q (B9 (zfj (L o) (Sc zsm o (Cm (zgj (Ca o (Rg w) (K (L o) Z)))) (L1 (Gl zeq) Ct (Ak (K (L zeq) (K (Ce zeq) Z))))))) Y)) Y)) Y))) (Q (Af (L o)) Y)))
theorem zcA (w:World):Bd w o72 O2 1 []:=.of0 (As fun _=>C4 (by kernel_rfl))
theorem zcj (w:World):Br w 6 zbb:=.mk o72 71 (oc:=o71) Ue (zcA w) (zcn w)
noncomputable def Pd:List (Str × NameKind):=[(.ofString "kind",.local),(.ofString "word",.local),(.ofString "inside",.local),(.ofString "some",.local),(.ofString "kind_text",.globalImplicit),(.ofString "binder_text",.globalImplicit),(.ofString "str",.globalImplicit)]
theorem Ua:Ae Pd:=.of (by kernel_rfl)
theorem zdm (w:World):SSs w Pd (A1 R5 (A1 Qy (A1 R1 (A1 Qr (A1 Qf (A1 Qv (A1 Qt (A1 Qp (A1 Qg A5))))))))) (Aq (st 12)):=by unfold R5 Qy R1 Qr Qf Qv Qt Qp Qg; have o:=Ua; exact (Q (Aa (Gl o) (A7 (L o) A9)) (Q (B4 (Ac By (L o) Sr) (Q (Aa (Gl o) (zp0 Sr (Sc zsg o (Cm (A7 (L o) A9)) (L1 (Gl zen) Ct (Ca zen (Yd w) (K (L zen) Z)))))) (Q (Af (Cg Et (A7 (L o) A9) (Dv (Ac T1 (A7 (L o) A9) (Ak Z)) (Cg Et (Cg Et Sr (L o)) Sr) Sr))) Y)) Y) (Q Be (Q Be (Q Be (Q Be (Q Be (Q Be (Q Be Y)))))))))
theorem zcc (w:World):Bd w o84 Pd 1 []:=.of0 (As fun _=>C4 (by kernel_rfl))
theorem zdc (w:World):Br w 8 za7:=.mk o84 83 (oc:=o83) Ua (zcc w) (zdm w)
noncomputable def Hf:List (Str × NameKind):=[(.ofString "self",.local),(.ofString "is_asked",.local),(.ofString "order",.local),(.ofString "lowers",.local),(.ofString "uppers",.local),(.ofString "is_diagonal",.local)]
theorem P7:Ae Hf:=.of (by kernel_rfl)
theorem Xu (w:World):SSs w Hf (A1 Ii (A1 J1 (A1 Ih (A1 Iy (A1 J0 A5))))) (Aq (su 15 0)):=by unfold Ii J1 Ih Iy J0; have o:=P7; exact (Q (Aa (GaA (L o)) (L o)) (Q (Aa (Ga (L o)) (L o)) (Q (Aa (Ga (L o)) (L o)) (Q (Aa (Ga (L o)) (L o)) (Q (Aa (Ga (L o)) (L o)) Y)))))
theorem Y0 (w:World):Bd w o98 Hf 6 []:=.of0 (As fun _=>As fun _=>As fun _=>As fun _=>As fun _=>As fun _=>C4 (by kernel_rfl))
theorem Y3 (w:World):Br w 9 Tl:=.mk o98 97 (oc:=o97) P7 (Y0 w) (Xu w)
noncomputable def F6:List (Str × NameKind):=[(.ofString "self",.local),(.ofString "kind",.local),(.ofString "Side",.globalImplicit)]
theorem La:Ae F6:=.of (by kernel_rfl)
theorem Vn (w:World):SSs w F6 (A1 Fr A5) (Aq (su 15 1)):=by unfold Fr; have o:=La; exact (Q (Af (Nw o (zeG w) (K (AtA (L o)) (K (At (L o)) (K (Cg Et (At (L o)) (Ak (K (L o) Z))) (K (At (L o)) (K (At (L o)) Z))))))) Y)
theorem Vk (w:World):Bd w zgl F6 2 []:=.of0 (As fun _=>As fun _=>C4 (by kernel_rfl))
theorem V3 (w:World):Br w 10 Pn:=.mk zgl 104 (oc:=zim) La (Vk w) (Vn w)
noncomputable def Mg:List (Str × NameKind):=[(.ofString "self",.local),(.ofString "ANY",.globalImplicit)]
theorem Tq:Ae Mg:=.of (by kernel_rfl)
theorem zbn (w:World):SSs w Mg (A1 Pk A5) (Aq (su 15 4)):=by unfold Pk; have o:=Tq; exact (Q (Af (Dv (Ac T1 (At (L o)) (Ak Z)) (A7 (At (L o)) A9) (G o (Ci w) (Ch w)))) Y)
theorem zbU (w:World):Bd w zf3 Mg 1 []:=.of0 (As fun _=>C4 (by kernel_rfl))
theorem zbm (w:World):Br w 13 Zu:=.mk zf3 125 (oc:=zhD) Tq (zbU w) (zbn w)
noncomputable def G2:List (Str × NameKind):=[(.ofString "self",.local),(.ofString "rows",.local),(.ofString "many",.local)]
theorem Ng:Ae G2:=.of (by kernel_rfl)
theorem Wh (w:World):SSs w G2 (A1 H5 (A1 Gv A5)) (Aq (su 16 0)):=by unfold H5 Gv; have o:=Ng; exact (Q (Aa (Ga (L o)) (Dv (Ac zby (L o) Cf) zgM (L o))) (Q (Aa (Ga (L o)) (L o)) Y))
theorem Wf (w:World):Bd w zgA G2 3 [.none,(.int 0 354)]:=fun s vals top h1 h2=>match vals,h1,h2 with
  | [],h1,h2=>.no (by simp at h2)
  | [v0],h1,h2=>.dfl (T:=141) rfl (top 141 zfc (Dt w.params (by kernel_rfl) (by kernel_rfl))) rfl (by rfl) (by rfl)
  | [v0,v1],h1,h2=>.dfl (T:=141) rfl (top 141 zfc (Dt w.params (by kernel_rfl) (by kernel_rfl))) rfl (by rfl) (by rfl)
  | [v0,v1,v2],h1,h2=>.dfl (T:=141) rfl (top 141 zfc (Dt w.params (by kernel_rfl) (by kernel_rfl))) rfl (by rfl) (by rfl)
  | v0 :: v1 :: v2 :: v3 :: r,h1,h2=>.no (by simp only [List.length_cons] at h1; lia)
theorem Wl (w:World):Br w 14 Ry:=.mk zgA 147 (oc:=zhv) Ng (Wf w) (Wh w)
noncomputable def J9:List (Str × NameKind):=[(.ofString "self",.local),(.ofString "Sides",.globalImplicit),(.ofString "dict",.globalImplicit)]
theorem Pz:Ae J9:=.of (by kernel_rfl)
theorem Zc (w:World):SSs w J9 (A1 K6 A5) (Aq (su 16 1)):=by unfold K6; have o:=Pz; exact (Q (Af (Nw o (zeY w) (K (B1 o (zeP w) zgd (At (L o))) (K (At (L o)) Z)))) Y)
theorem Yg (w:World):Bd w zf1 J9 1 []:=.of0 (As fun _=>C4 (by kernel_rfl))
theorem Z3 (w:World):Br w 15 V6:=.mk zf1 154 (oc:=zhY) Pz (Yg w) (Zc w)
noncomputable def I0:List (Str × NameKind):=[(.ofString "self",.local),(.ofString "kind",.local),(.ofString "is_asked",.local),(.ofString "word",.local),(.ofString "name",.local),(.ofString "lower",.local),(.ofString "upper",.local),(.ofString "body",.local),(.ofString "fresh",.local),(.ofString "lowers",.local),(.ofString "uppers",.local),(.ofString "str",.globalImplicit),(.ofString "BOTTOM",.globalImplicit),(.ofString "ANY",.globalImplicit),(.ofString "Side",.globalImplicit),(.ofString "is_diagonal",.globalImplicit),(.ofString "substituted",.globalImplicit)]
theorem Pp:Ae I0:=.of (by kernel_rfl)
theorem Zx (w:World):SSs w I0 (A1 Kq (A1 Jk (A1 Jz (A1 Ka (A1 Kt (A1 K7 (A1 Kc A5))))))) (Aq (su 16 2)):=by unfold Kq Jk Jz Ka Kt K7 Kc; have o:=Pp; exact (Q (Aa (Rx (Bn (Gl o) (Bn (Gl o) (Bn (Gl o) (Bn (Gl o) (Bn (Gl o) Kl)))))) (L o)) (Q (Aa (Ga (L o)) (Cg Et (At (L o)) A9)) (Q (Aa (Gl o) (Cg Et (Cg Et (A7 (zm3 (L o) Sr) A9) Sr) (B1 o (zoV w) ztd (At (L o))))) (Q (Aa (Gl o) (Dv (Ac By (L o) (G o (Hm w) (Hn w))) (Ak Z) (Ak (K (L o) Z)))) (Q (Aa (Gl o) (Dv (Ac By (L o) (G o (Ci w) (Ch w))) (Ak Z) (Ak (K (L o) Z)))) (Q (Aa (Y8 (At (L o)) (L o)) (Nw o (zeG w) (K (L o) (K (At (L o)) (K (L o) (K (L o) (K (Ca o (Uo w) (K (L o) (K (L o) Z))) Z))))))) (Q (Af (Ak (K (L o) (K (Ca o (Od w) (K (L o) (K (zg4 (L o) (Ak (K Sr (K (L o) Z)))) Z))) Z)))) Y)))))))
theorem zak (w:World):Bd w zf9 I0 3 []:=.of0 (As fun _=>As fun _=>As fun _=>C4 (by kernel_rfl))
theorem Yh (w:World):Br w 16 Uz:=.mk zf9 161 (oc:=zhz) Pp (zak w) (Zx w)
noncomputable def My:List (Str × NameKind):=[(.ofString "self",.local),(.ofString "name",.local),(.ofString "Side",.globalImplicit)]
theorem Tj:Ae My:=.of (by kernel_rfl)
theorem zbe (w:World):SSs w My (A1 Ob A5) (Aq (su 16 3)):=by unfold Ob; have o:=Tj; exact (Q (Af (zn1 (At (L o)) (L o) (Nw o (zeG w) (K Ba (K A9 (K (Ak Z) (K (Ak Z) (K Ba Z)))))))) Y)
theorem zbg (w:World):Bd w zfU My 2 []:=.of0 (As fun _=>As fun _=>C4 (by kernel_rfl))
theorem zbW (w:World):Br w 17 Zh:=.mk zfU 168 (oc:=zhR) Tj (zbg w) (zbe w)
noncomputable def Fx:List (Str × NameKind):=[(.ofString "self",.local),(.ofString "kind",.local)]
theorem Nh:Ae Fx:=.of (by kernel_rfl)
theorem X3 (w:World):SSs w Fx (A1 Gx A5) (Aq (su 16 4)):=by unfold Gx; have o:=Nh; exact (Q (Af (zgO (Vp (P1 By (A7 (L o) A9) Sr) (zaG (AtA (Me (L o) (K (A7 (L o) A9) Z))))))) Y)
theorem Wg (w:World):Bd w zfM Fx 2 []:=.of0 (As fun _=>As fun _=>C4 (by kernel_rfl))
theorem Wm (w:World):Br w 18 Rt:=.mk zfM 175 (oc:=ziq) Nh (Wg w) (X3 w)
noncomputable def Fc:List (Str × NameKind):=[(.ofString "self",.local),(.ofString "name",.local),(.ofString "kind",.local)]
theorem Lf:Ae Fc:=.of (by kernel_rfl)
theorem U8 (w:World):SSs w Fc (A1 Fz A5) (Aq (su 16 5)):=by unfold Fz; have o:=Lf; exact (Q (Aa (Y8 (At (L o)) (L o)) (Me (A7 (At (L o)) (L o)) (K (L o) Z))) Y)
theorem Uj (w:World):Bd w zgw Fc 3 []:=.of0 (As fun _=>As fun _=>As fun _=>C4 (by kernel_rfl))
theorem Vg (w:World):Br w 19 Py:=.mk zgw 182 (oc:=zh9) Lf (Uj w) (U8 w)
noncomputable def Em:List (Str × NameKind):=[(.ofString "self",.local),(.ofString "kind",.local),(.ofString "name",.local),(.ofString "order",.local),(.ofString "found",.local),(.ofString "other",.local),(.ofString "free_vars",.globalImplicit)]
theorem Jd:Ae Em:=.of (by kernel_rfl)
theorem Tv (w:World):SSs w Em (A1 Ev (A1 F4 (A1 Fd (A1 Fe A5)))) (Aq (su 16 7)):=by unfold Ev F4 Fd Fe; have o:=Jd; exact (Q (Aa (Gl o) (At (Me (L o) (K (L o) Z)))) (Q (Aa (Gl o) (Ad Z)) (Q (Dh (Gl o) (Cm (Ca o (Ib w) (K (L o) Z))) (Q (B4 (Th (Av (zhd (Pl (AtA (Me (L o) (K (L o) Z))))) (Av (Ac zgy (At (Me (L o) (K (L o) Z))) (L o)) De))) (Q Be Y) Y) Y)) (Q (Af (L o)) Y))))
theorem Tx (w:World):Bd w zga Em 3 []:=.of0 (As fun _=>As fun _=>As fun _=>C4 (by kernel_rfl))
theorem Tw (w:World):Br w 21 Oy:=.mk zga 196 (oc:=zia) Jd (Tx w) (Tv w)
noncomputable def Kb:List (Str × NameKind):=[(.ofString "kind",.local),(.ofString "name",.cell),(.ofString "word",.local),(.ofString "rows",.local),(.ofString "max",.globalImplicit),(.ofString "occurrences",.globalImplicit),(.ofString "min",.globalImplicit),(.ofString "sum",.globalImplicit),(.ofString "bound_occurrences",.globalImplicit),(.ofString "free_vars",.globalImplicit)]
theorem Ro:Ae Kb:=.of (by kernel_rfl)
theorem zaS (w:World):SSs w Kb (A1 Md (A1 M1 (A1 Lp (A1 Mo (A1 Lv (A1 Ma A5)))))) (Aq (st 17)):=by unfold Md M1 Lp Mo Lv Ma; have o:=Ro; exact (Q (Aa (Gl o) (A7 (L o) A9)) (Q (B4 (Ac By (L o) Sr) (Q (Af (Ak (K (Dv (Ac By (A7 (L o) A9) (Ce o)) A9 A9) (K Ba Z)))) Y) Y) (Q (B4 (Ac By (L o) Sr) (Q (ScA zs2 o (Cm (A7 (L o) A9)) (L1 (Gl zbX) Ct (Ca zbX (Om w) (K (L zbX) (K (Ce zbX) Z))))) (Q (Af (Ak (K (B1 o (zoJ w) zsn (Sc zrC o (Cm (L o)) (L1 (Gl zgY) Ct (A7 (L zgY) A9)))) (K (P1 (zb7 (C3 w)) Ba (Sc zt0 o (Cm (L o)) (L1 (Gl zgU) Ct (A7 (L zgU) A9)))) Z)))) Y)) Y) (Q (B4 (Ac By (L o) Sr) (Q (ScA zr0 o (Cm (A7 (L o) A9)) (L1 (Gl zb0) Ct (Ca zb0 (Om w) (K (L zb0) (K (Ce zb0) Z))))) (Q (B4 (Ac zbZ (A7 (L o) A9) Cf) (Q Be Y) Y) (Q (Af (Ak (K (B2 o (zqY w) ztY A9 (B1 o (zon w) zrF (Sc zsd o (Cm (L o)) (L1 (Gl zgQ) Ct (A7 (L zgQ) A9))))) (K (P1 (zb7 (C3 w)) Ba (Sc zsH o (Cm (L o)) (L1 (Gl zho) Ct (A7 (L zho) A9)))) Z)))) Y))) Y) (Q (B4 (Ac By (L o) Sr) (Q Be Y) Y) (Q (Af (Ak (K A9 (K (P1 (zb7 (C3 w)) (Ce o) (Ca o (Ib w) (K (L o) Z))) Z)))) Y))))))
theorem zau (w:World):Bd w zh0 Kb 2 []:=.of0 (As fun _=>As fun _=>C4 (by kernel_rfl))
theorem zaA (w:World):Br w 22 Xg:=.mk zh0 208 (oc:=ziD) Ro (zau w) (zaS w)
noncomputable def Jt:List (Str × NameKind):=[(.ofString "body",.local),(.ofString "name",.local),(.ofString "many",.local),(.ofString "is_within",.local),(.ofString "occurrences",.globalImplicit)]
theorem Rq:Ae Jt:=.of (by kernel_rfl)
theorem zap (w:World):SSs w Jt (A1 Mu (A1 Mt A5)) (Aq (st 19)):=by unfold Mu Mt; have o:=Rq; exact (Q (Aa (Rx (Bn (Gl o) (Bn (Gl o) Kl))) (Ca o (Om w) (K (L o) (K (L o) Z)))) (Q (Af (zgO (Vp (P1 zgy (L o) A9) (zaG (zrQ (L o)))))) Y))
theorem zaY (w:World):Bd w zin Jt 2 []:=.of0 (As fun _=>As fun _=>C4 (by kernel_rfl))
theorem zaN (w:World):Br w 24 X6:=.mk zin 222 (oc:=zjP) Rq (zaY w) (zap w)
noncomputable def Mw:List (Str × NameKind):=[(.ofString "kind",.cell),(.ofString "word",.local),(.ofString "found",.local),(.ofString "is_diagonal",.globalImplicit),(.ofString "left_cases",.globalImplicit),(.ofString "tuple_cases",.globalImplicit),(.ofString "len",.globalImplicit),(.ofString "MOST_CASES",.globalImplicit)]
theorem Ta:Ae Mw:=.of (by kernel_rfl)
theorem zbx (w:World):SSs w Mw (A1 P3 (A1 Oz (A1 P9 A5))) (Aq (st 20)):=by unfold P3 Oz P9; have o:=Ta; exact (Q (Aa (Gl o) (A7 (Ce o) A9)) (Q (B4 (Ac By (L o) Sr) (Q (ScA zsS o (Cm (A7 (Ce o) A9)) (L2 (Gl Z6) Ct (Cm (Ca Z6 (L8 w) (K (L Z6) Z))) (Gl Z6) Ct (L Z6))) Y) (Q (B4 (Th (Av (Ac By (L o) Sr) (Av (zhd (Pl (Ca o (Uo w) (K (A7 (Ce o) A9) (K (A7 (Ce o) A9) Z))))) De))) (Q (ScA zn8 o (Cm (Ca o (L8 w) (K (A7 (Ce o) A9) Z))) (L1 (Gl U6) Ct (Ak (K Sr (K (A7 (Ce U6) A9) (K (A7 (Ce U6) A9) (K (A7 (Ce U6) A9) (K (L U6) Z)))))))) Y) (Q (B4 (Ac By (L o) Sr) (Q (Aa (Gl o) (Ca o (zcm w) (K (Ce o) Z))) Y) (Q (Aa (Gl o) (Ad (K (Ce o) Z))) Y)) Y)) Y)) (Q (Af (Dv (Ac zt4 (B1 o (Eo w) (Jf (C3 w)) (L o)) (G o (Xc w) (Xh w))) (L o) (Ad (K (Ce o) Z)))) Y)))
theorem zbJ (w:World):Bd w zhx Mw 1 []:=.of0 (As fun _=>C4 (by kernel_rfl))
theorem zbj (w:World):Br w 25 Z2:=.mk zhx 227 (oc:=zjc) Ta (zbJ w) (zbx w)
noncomputable def L0:List (Str × NameKind):=[(.ofString "kind",.cell),(.ofString "rows",.local),(.ofString "part",.local),(.ofString "cases",.cell),(.ofString "left_cases",.globalImplicit),(.ofString "len",.globalImplicit),(.ofString "MOST_CASES",.globalImplicit)]
theorem Rd:Ae L0:=.of (by kernel_rfl)
theorem zar (w:World):SSs w L0 (A1 Mr (A1 Lm (A1 Mv A5))) (Aq (st 21)):=by unfold Mr Lm Mv; have o:=Rd; exact (Q (Aa (Gl o) (Ad (K (Ak Z) Z))) (Q (Dh (Gl o) (Cm (A7 (Ce o) A9)) (Q (Aa (Gc o) (Ca o (L8 w) (K (L o) Z))) (Q (B4 (Ac zgy (Cg zla (B1 o (Eo w) (Jf (C3 w)) (L o)) (B1 o (Eo w) (Jf (C3 w)) (Ce o))) (G o (Xc w) (Xh w))) (Q Be Y) Y) (Q (ScA zn0 o (Cm (L o)) (L2 (Gl Un) Ct (Cm (Ce Un)) (Gl Un) Ct (Cg Et (L Un) (Ak (K (L Un) Z))))) Y)))) (Q (Af (Sc znz o (Cm (L o)) (L1 (Gl zah) Ct (Ca zah (U0 w) (K (L zah) (K (A7 (Ce zah) A9) Z)))))) Y)))
theorem zaF (w:World):Bd w zh7 L0 1 []:=.of0 (As fun _=>C4 (by kernel_rfl))
theorem zaU (w:World):Br w 26 X8:=.mk zh7 232 (oc:=zj1) Rd (zaF w) (zar w)
noncomputable def Qn:List (Str × NameKind):=[(.ofString "kind",.local),(.ofString "is_empty",.globalImplicit),(.ofString "BOTTOM",.globalImplicit)]
theorem Xf:Ae Qn:=.of (by kernel_rfl)
theorem zdJ (w:World):SSs w Qn (A1 T4 (A1 Sj (A1 T2 A5))) (Aq (st 22)):=by unfold T4 Sj T2; have o:=Xf; exact (Q (B4 (Ac By (A7 (L o) A9) Sr) (Q (Af (P1 (zb7 (C3 w)) Ba (Sc znJ o (Cm (A7 (L o) A9)) (L1 (Gl zc8) Ct (Ca zc8 (Q0 w) (K (L zc8) Z)))))) Y) Y) (Q (B4 (Ac By (A7 (L o) A9) Sr) (Q (Af (Ca o (Q0 w) (K (A7 (L o) A9) Z))) Y) Y) (Q (Af (P1 By (L o) (G o (Hm w) (Hn w)))) Y)))
theorem zdN (w:World):Bd w zh6 Qn 1 []:=.of0 (As fun _=>C4 (by kernel_rfl))
theorem zdF (w:World):Br w 27 zdo:=.mk zh6 237 (oc:=zjv) Xf (zdN w) (zdJ w)
noncomputable def S9:List (Str × NameKind):=[(.ofString "kind",.local),(.ofString "is_empty",.globalImplicit)]
theorem Yu:Ae S9:=.of (by kernel_rfl)
theorem zex (w:World):SSs w S9 (A1 Vb A5) (Aq (st 23)):=by unfold Vb; have o:=Yu; exact (Q (Af (Dv (Th (Av (Ac zbZ (A7 (L o) A9) Cf) (Av (Pl (Ca o (Q0 w) (K (A7 (L o) A9) Z))) De))) Cf (A7 (L o) A9))) Y)
theorem zeK (w:World):Bd w zh1 S9 1 []:=.of0 (As fun _=>C4 (by kernel_rfl))
theorem zel (w:World):Br w 28 zd8:=.mk zh1 244 (oc:=zjy) Yu (zeK w) (zex w)
noncomputable def F8:List (Str × NameKind):=[(.ofString "self",.local),(.ofString "kinds",.local),(.ofString "fuel",.local)]
theorem Lc:Ae F8:=.of (by kernel_rfl)
theorem Ve (w:World):SSs w F8 (A1 G1 (A1 Fj A5)) (Aq (su 27 0)):=by unfold G1 Fj; have o:=Lc; exact (Q (Aa (Ga (L o)) (L o)) (Q (Aa (Ga (L o)) (L o)) Y))
theorem U5 (w:World):Bd w zhA F8 3 []:=.of0 (As fun _=>As fun _=>As fun _=>C4 (by kernel_rfl))
theorem Uu (w:World):Br w 29 Px:=.mk zhA 262 (oc:=zjn) Lc (U5 w) (Ve w)
noncomputable def Lh:List (Str × NameKind):=[(.ofString "self",.local),(.ofString "goals",.local),(.ofString "sides",.local),(.ofString "waiting",.local),(.ofString "left",.local),(.ofString "here",.local),(.ofString "found",.local),(.ofString "list",.globalImplicit)]
theorem To:Ae Lh:=.of (by kernel_rfl)
theorem zbi (w:World):SSs w Lh (A1 Ov (A1 O3 (A1 O7 A5))) (Aq (su 27 1)):=by unfold Ov O3 O7; have o:=To; exact (Q (Aa (Gl o) (Ad (K (Ak (K (B1 o (T8 w) Y6 (L o)) (K (L o) Z))) Z))) (Q (U7 (Th (Av (Ac T1 (L o) (Ad Z)) (Av (Ac zgy (At (L o)) A9) De))) (Q (Aa (Rx (Bn (Gl o) (Bn (Gl o) Kl))) (zgX (L o))) (Q (Aa (Gl o) (Me (L o) (K (L o) (K (L o) (K (L o) Z))))) (Q (B4 (Ac zbZ (L o) Cf) (Q (Af (L o)) Y) Y) Y)))) (Q (Af Cf) Y)))
theorem zbT (w:World):Bd w zh2 Lh 3 []:=.of0 (As fun _=>As fun _=>As fun _=>C4 (by kernel_rfl))
theorem zbK (w:World):Br w 30 zan:=.mk zh2 269 (oc:=zkK) To (zbT w) (zbi w)
noncomputable def Fm:List (Str × NameKind):=[(.ofString "self",.local),(.ofString "left",.local),(.ofString "sides",.local),(.ofString "waiting",.local),(.ofString "ways",.local),(.ofString "way",.local)]
theorem Na:Ae Fm:=.of (by kernel_rfl)
theorem Wi (w:World):SSs w Fm (A1 Gu (A1 Ha A5)) (Aq (su 27 2)):=by unfold Gu Ha; have o:=Na; exact (Q (U7 (Ac T1 (L o) (Ad Z)) (Q (Aa (Ga (L o)) (Cg ztU (At (L o)) A9)) (Q (Aa (Gl o) (Dv (Ac zrW (At (L o)) A9) (Me (L o) (K (zgX (L o)) (K (L o) Z))) (Ad Z))) (Q (B4 (Ac By (L o) (Ad Z)) (Q (Af Cf) Y) Y) (Q (Dh (Gl o) (Cm (zqd (L o))) (Q (B9 (Pg (L o) (Ak (K (Cg Et (L o) (L o)) (K (Me (L o) Z) Z))))) Y)) (Q (B9 (zfj (L o) (A7 (L o) A9))) Y)))))) (Q (Af (Dv (Pl (Me (L o) (K (L o) Z))) (L o) Cf)) Y))
theorem Ws (w:World):Bd w zig Fm 4 []:=.of0 (As fun _=>As fun _=>As fun _=>As fun _=>C4 (by kernel_rfl))
theorem Wr (w:World):Br w 31 Ru:=.mk zig 276 (oc:=zkP) Na (Ws w) (Wi w)
noncomputable def Kv:List (Str × NameKind):=[(.ofString "self",.local),(.ofString "goal",.local),(.ofString "sides",.local),(.ofString "word",.local),(.ofString "one",.local),(.ofString "other",.local),(.ofString "is_empty",.globalImplicit),(.ofString "ANY",.globalImplicit)]
theorem Rb:Ae Kv:=.of (by kernel_rfl)
theorem zaX (w:World):SSs w Kv (A1 Mf (A1 Li (A1 Lk (A1 M8 (A1 Lw (A1 Mj (A1 Lq (A1 Mq A5)))))))) (Aq (su 27 3)):=by unfold Mf Li Lk M8 Lw Mj Lq Mq; have o:=Rb; exact (Q (Aa (Rx (Bn (Gl o) (Bn (Gl o) (Bn (Gl o) Kl)))) (L o)) (Q (B4 (Ac By (L o) (L o)) (Q (Af (Ad (K (Ad Z) Z))) Y) Y) (Q (B4 (Ac (zb7 (C3 w)) Sr (Ak (K (A7 (L o) A9) (K (A7 (L o) A9) Z)))) (Q Be Y) Y) (Q (B4 (Ac By (L o) Sr) (Q Be Y) Y) (Q (B4 (zcp (Av (Pl (Ca o (Q0 w) (K (L o) Z))) (Av (Ac By (L o) (G o (Ci w) (Ch w))) De))) (Q (Af (Ad (K (Ad Z) Z))) Y) Y) (Q (B4 (Pl (Me (L o) (K (L o) Z))) (Q Be Y) Y) (Q (B4 (Pl (Me (L o) (K (L o) Z))) (Q (Af (Me (L o) (K (A7 (L o) A9) (K (L o) (K (L o) Z))))) Y) Y) (Q (Af (Me (L o) (K (L o) (K (L o) (K (L o) Z))))) Y))))))))
theorem zaC (w:World):Bd w zhG Kv 3 []:=.of0 (As fun _=>As fun _=>As fun _=>C4 (by kernel_rfl))
theorem zaD (w:World):Br w 32 Xa:=.mk zhG 283 (oc:=zk2) Rb (zaC w) (zaX w)
noncomputable def Fo:List (Str × NameKind):=[(.ofString "self",.local),(.ofString "one",.cell),(.ofString "other",.cell),(.ofString "sides",.local),(.ofString "ways",.local),(.ofString "upper",.local),(.ofString "lower",.local),(.ofString "ANY",.globalImplicit),(.ofString "BOTTOM",.globalImplicit)]
theorem Nf:Ae Fo:=.of (by kernel_rfl)
theorem Wb (w:World):SSs w Fo (A1 Gq (A1 Hg (A1 H7 (A1 Gh (A1 Hk (A1 Gs (A1 H8 A5))))))) (Aq (su 27 7)):=by unfold Gq Hg H7 Gh Hk Gs H8; have o:=Nf; exact (Q (B4 (Ac By (A7 (Ce o) A9) Sr) (Q Be Y) Y) (Q (B4 (Ac By (A7 (Ce o) A9) Sr) (Q (Af (Ad (K (Ad (K (Ak (K Sr (K (A7 (Me (L o) (K (Ce o) (K Ba Z))) A9) (K (Ce o) Z)))) Z)) Z))) Y) Y) (Q (B4 (Ac By (A7 (Ce o) A9) Sr) (Q (ScA zn7 o (Cm (A7 (Ce o) A9)) (L1 (Gl zcM) Ct (Ad (K (Ak (K Sr (K (Ce zcM) (K (L zcM) Z)))) Z)))) (Q (Af (Cg Et (L o) (Dv (Ac By (A7 (Ce o) A9) Sr) (Ad (K (Ad (K (Ak (K Sr (K (Me (Me (L o) (K (A7 (Ce o) A9) Z)) Z) (K (Ce o) Z)))) Z)) Z)) (Ad Z)))) Y)) Y) (Q (B4 (Ac By (A7 (Ce o) A9) Sr) (Q (Af (Ad (K (Me (L o) (K (Ce o) (K (Ce o) (K (L o) Z)))) Z))) Y) Y) (Q (B4 (Ac By (A7 (Ce o) A9) Sr) (Q (Aa (Gl o) (Me (Me (L o) (K (A7 (Ce o) A9) Z)) Z)) (Q (Aa (Gl o) (Dv (Ac By (L o) (G o (Ci w) (Ch w))) (Ad Z) (Ad (K (Ad (K (Ak (K Sr (K (L o) (K (Ce o) Z)))) Z)) Z)))) (Q (Af (Cg Et (L o) (Dv (Ac By (A7 (Ce o) A9) Sr) (Ad (K (Ad (K (Ak (K Sr (K (Ce o) (K (Me (Me (L o) (K (A7 (Ce o) A9) Z)) Z) Z)))) Z)) Z)) (Ad Z)))) Y))) Y) (Q (B4 (Ac By (A7 (Ce o) A9) Sr) (Q Be (Q Be Y)) Y) (Q (Af (Me (L o) (K (Ce o) (K (Ce o) Z)))) Y)))))))
theorem Wt (w:World):Bd w zhB Fo 4 []:=.of0 (As fun _=>As fun _=>As fun _=>As fun _=>C4 (by kernel_rfl))
theorem Wq (w:World):Br w 33 Ra:=.mk zhB 305 (oc:=zjB) Nf (Wt w) (Wb w)
noncomputable def Jc:List (Str × NameKind):=[(.ofString "self",.local),(.ofString "name",.local),(.ofString "kind",.cell),(.ofString "sides",.local),(.ofString "widened",.globalImplicit)]
theorem Pw:Ae Jc:=.of (by kernel_rfl)
theorem Zs (w:World):SSs w Jc (A1 K0 (A1 K5 (A1 Kf (A1 Ku A5)))) (Aq (su 27 6)):=by unfold K0 K5 Kf Ku; have o:=Pw; exact (Q (Aa (Gc o) (Ca o (zfQ w) (K (L o) (K (Ce o) (K (L o) Z))))) (Q (B4 (zcp (Av (Ac zby (Ce o) Cf) (Av (Ac (zb7 (C3 w)) (Ce o) (At (Me (L o) (K (L o) Z)))) De))) (Q (Af (Dv (Ac zby (Ce o) Cf) (Ad Z) (Ad (K (Ad Z) Z)))) Y) Y) (Q (B9 (Me (L o) (K (L o) (K (Ce o) Z)))) (Q (Af (Ad (K (Sc zn6 o (Cm (At (Me (L o) (K (L o) Z)))) (L1 (Gl zci) Ct (Ak (K Sr (K (Ce zci) (K (L zci) Z)))))) Z))) Y))))
theorem zaf (w:World):Bd w zhC Jc 4 []:=.of0 (As fun _=>As fun _=>As fun _=>As fun _=>C4 (by kernel_rfl))
theorem Z8 (w:World):Br w 34 Uv:=.mk zhC 300 (oc:=zkW) Pw (zaf w) (Zs w)
noncomputable def Hl:List (Str × NameKind):=[(.ofString "self",.local),(.ofString "one",.local),(.ofString "other",.local),(.ofString "sides",.local),(.ofString "fresh",.local),(.ofString "body",.local),(.ofString "side",.cell)]
theorem Pe:Ae Hl:=.of (by kernel_rfl)
theorem Xw (w:World):SSs w Hl (A1 Ie (A1 Iu (A1 Id A5))) (Aq (su 27 8)):=by unfold Ie Iu Id; have o:=Pe; exact (Q (Aa (Rx (Bn (Gl o) (Bn (Gl o) Kl))) (Me (L o) (K (L o) (K Ba Z)))) (Q (Aa (Gc o) (Me (L o) (K (L o) Z))) (Q (Af (Cg Et (Sc znI o (Cm (At (Ce o))) (L2 (Gl U2) Ct (Cm (At (Ce U2))) (Gl U2) Ct (Ak (K Sr (K (L U2) (K (L U2) Z)))))) (Ad (K (Ak (K Sr (K (L o) (K (L o) Z)))) Z)))) Y)))
theorem Xr (w:World):Bd w zhU Hl 4 []:=.of0 (As fun _=>As fun _=>As fun _=>As fun _=>C4 (by kernel_rfl))
theorem Xz (w:World):Br w 35 Tp:=.mk zhU 310 (oc:=zk8) Pe (Xr w) (Xw w)
noncomputable def Iq:List (Str × NameKind):=[(.ofString "self",.local),(.ofString "one",.local),(.ofString "other",.local),(.ofString "words",.local),(.ofString "tuple_ways",.globalImplicit),(.ofString "TYPE",.globalImplicit),(.ofString "FUNCTION",.globalImplicit)]
theorem Pq:Ae Iq:=.of (by kernel_rfl)
theorem Z4 (w:World):SSs w Iq (A1 Ki (A1 Jr (A1 K3 (A1 Km (A1 Kh (A1 K9 A5)))))) (Aq (su 27 9)):=by unfold Ki Jr K3 Km Kh K9; have o:=Pq; exact (Q (Aa (Gl o) (Ak (K (A7 (L o) A9) (K (A7 (L o) A9) Z)))) (Q (B4 (Ac By (L o) (Ak (K Sr (K Sr Z)))) (Q (Af (Me (L o) (K (L o) (K (L o) Z)))) Y) Y) (Q (B4 (Ac By (L o) (Ak (K Sr (K Sr Z)))) (Q (Af (Ca o (zdH w) (K (L o) (K (L o) Z)))) Y) Y) (Q Be (Q Be (Q Be Y))))))
theorem Yw (w:World):Bd w zhw Iq 3 []:=.of0 (As fun _=>As fun _=>As fun _=>C4 (by kernel_rfl))
theorem Yj (w:World):Br w 36 Us:=.mk zhw 317 (oc:=zkx) Pq (Yw w) (Z4 w)
noncomputable def Fw:List (Str × NameKind):=[(.ofString "self",.local),(.ofString "one",.local),(.ofString "other",.local),(.ofString "above",.local),(.ofString "zip",.globalImplicit)]
theorem Ni:Ae Fw:=.of (by kernel_rfl)
theorem W4 (w:World):SSs w Fw (A1 Gj (A1 Gz A5)) (Aq (su 27 10)):=by unfold Gj Gz; have o:=Ni; exact (Q (Dh (Gl o) (Cm (Me (At (L o)) (K (L o) Z))) (Q (B4 (Ac By (A7 (L o) A9) (A7 (L o) A9)) (Q Be Y) Y) Y)) (Q (Af (Ad Z)) Y))
theorem Wp (w:World):Bd w zhE Fw 3 []:=.of0 (As fun _=>As fun _=>As fun _=>C4 (by kernel_rfl))
theorem Wy (w:World):Br w 37 Rj:=.mk zhE 322 (oc:=zkM) Ni (Wp w) (W4 w)
noncomputable def Dn:List (Str × NameKind):=[(.ofString "self",.local),(.ofString "sides",.local),(.ofString "name",.local),(.ofString "side",.local),(.ofString "sorted",.globalImplicit)]
theorem G8:Ae Dn:=.of (by kernel_rfl)
theorem Ql (w:World):SSs w Dn (A1 Dx (A1 Du A5)) (Aq (su 27 11)):=by unfold Dx Du; have o:=G8; exact (Q (Dh (Gl o) (Cm (B1 o (zdS w) zk6 (At (L o)))) (Q (Aa (Gl o) (A7 (At (L o)) (L o))) (Q (B4 (Th (Av (Pl (AtA (L o))) (Av (Pl (At (L o))) (Av (zhd (Pl (Me (L o) (K (L o) (K (L o) Z))))) De)))) (Q Be Y) Y) Y))) (Q (Af Ba) Y))
theorem Qz (w:World):Bd w zhO Dn 2 []:=.of0 (As fun _=>As fun _=>C4 (by kernel_rfl))
theorem Qq (w:World):Br w 38 Jh:=.mk zhO 329 (oc:=zjq) G8 (Qz w) (Ql w)
noncomputable def Sh:List (Str × NameKind):=[(.ofString "name",.local),(.ofString "kind",.local),(.ofString "sides",.local),(.ofString "later",.local),(.ofString "has_within",.globalImplicit),(.ofString "widened",.globalImplicit)]
theorem zac:Ae Sh:=.of (by kernel_rfl)
theorem zeC (w:World):SSs w Sh (A1 V4 (A1 Vi (A1 U1 (A1 Uf A5)))) (Aq (st 29)):=by unfold V4 Vi U1 Uf; have o:=zac; exact (Q (Aa (Gl o) (Me (L o) (K (L o) (K (L o) Z)))) (Q (B4 (Ac By (L o) (Ad Z)) (Q (Af (Dv (Pl (Ca o (zdI w) (K (L o) (K (L o) Z)))) Cf (L o))) Y) Y) (Q Be (Q Be Y))))
theorem zew (w:World):Bd w zhy Sh 3 []:=.of0 (As fun _=>As fun _=>As fun _=>C4 (by kernel_rfl))
theorem zeR (w:World):Br w 39 zd0:=.mk zhy 355 (oc:=zkN) zac (zew w) (zeC w)
noncomputable def Ls:List (Str × NameKind):=[(.ofString "name",.local),(.ofString "kind",.local),(.ofString "free_vars",.globalImplicit)]
theorem Tu:Ae Ls:=.of (by kernel_rfl)
theorem zbh (w:World):SSs w Ls (A1 Oi A5) (Aq (st 30)):=by unfold Oi; have o:=Tu; exact (Q (Af (zgO (Vp (P1 T1 (L o) (Ak (K Sr (K (L o) Z)))) (zaG (P1 (zb7 (C3 w)) (L o) (Ca o (Ib w) (K (L o) Z))))))) Y)
theorem zbB (w:World):Bd w zj5 Ls 2 []:=.of0 (As fun _=>As fun _=>C4 (by kernel_rfl))
theorem zbl (w:World):Br w 40 Z9:=.mk zj5 362 (oc:=zlL) Tu (zbB w) (zbh w)
noncomputable def Lx:List (Str × NameKind):=[(.ofString "one",.local),(.ofString "other",.local),(.ofString "some",.cell),(.ofString "tail",.local),(.ofString "wanted",.cell),(.ofString "rest",.cell),(.ofString "goals",.local),(.ofString "tail_of",.globalImplicit),(.ofString "len",.globalImplicit),(.ofString "range",.globalImplicit)]
theorem Tc:Ae Lx:=.of (by kernel_rfl)
theorem zbS (w:World):SSs w Lx (A1 Pf (A1 Oa (A1 Op (A1 Ph (A1 P6 A5))))) (Aq (st 31)):=by unfold Pf Oa Op Ph P6; have o:=Tc; exact (Q (Vu (Rx (Bn (Gc o) (Bn (Gl o) Kl))) (Ak (K (A7 (L o) A9) (K (Ca o (zdh w) (K (L o) Z)) Z)))) (Q (Vu (Rx (Bn (Gc o) (Bn (Gc o) Kl))) (Ak (K (A7 (L o) A9) (K (Ca o (zdh w) (K (L o) Z)) Z)))) (Q (B4 (zcp (Av (Ac ziE (B1 o (Eo w) (Jf (C3 w)) (Ce o)) (B1 o (Eo w) (Jf (C3 w)) (Ce o))) (Av (Th (Av (Ac zby (Ce o) Cf) (Av (zcp (Av (Ac zbZ (L o) Cf) (Av (Ac zgy (B1 o (Eo w) (Jf (C3 w)) (Ce o)) (B1 o (Eo w) (Jf (C3 w)) (Ce o))) De))) De))) De))) (Q (Af (Ad Z)) Y) Y) (Q (ScA zoa o (Ir o (Zn w) (B1 o (Eo w) (Jf (C3 w)) (Ce o))) (L1 (Gl J8) Ct (Ak (K Sr (K (A7 (Ce J8) (L J8)) (K (Dv (Ac ziE (L J8) (B1 J8 (Eo w) (Jf (C3 w)) (Ce J8))) (A7 (Ce J8) (L J8)) (Ce J8)) Z)))))) (Q (Af (Ad (K (Cg Et (L o) (Dv (Ac zby (L o) Cf) (Ad Z) (Ad (K (Ak (K Sr (K (L o) (K (Ce o) Z)))) Z)))) Z))) Y)))))
theorem zbP (w:World):Bd w zj9 Lx 2 []:=.of0 (As fun _=>As fun _=>C4 (by kernel_rfl))
theorem zbu (w:World):Br w 41 Zm:=.mk zj9 367 (oc:=zmn) Tc (zbP w) (zbS w)
noncomputable def Mi:List (Str × NameKind):=[(.ofString "kinds",.local),(.ofString "one",.local),(.ofString "other",.local),(.ofString "fuel",.local),(.ofString "case",.local),(.ofString "search",.local),(.ofString "left_cases",.globalImplicit),(.ofString "Search",.globalImplicit),(.ofString "Sides",.globalImplicit)]
theorem Tt:Ae Mi:=.of (by kernel_rfl)
theorem zbq (w:World):SSs w Mi (A1 P0 (A1 Pm (A1 P4 A5))) (Aq (st 32)):=by unfold P0 Pm P4; have o:=Tt; exact (Q (B4 (Ac By (L o) (L o)) (Q Be Y) Y) (Q (Dh (Gl o) (Cm (Ca o (L8 w) (K (L o) Z))) (Q (Aa (Gl o) (Nw o (zii w) (K (L o) (K (L o) Z)))) (Q (B4 (Ac zby (Me (L o) (K (Ad (K (Ak (K Sr (K (L o) (K (L o) Z)))) Z)) (K (Nw o (zeY w) Z) Z))) Cf) (Q (Af Ba) Y) Y) Y))) (Q (Af Ba) Y)))
theorem zbz (w:World):Bd w zjz Mi 4 [(.int 4000 673)]:=fun s vals top h1 h2=>match vals,h1,h2 with
  | [],h1,h2=>.no (by simp at h2)
  | [v0],h1,h2=>.no (by simp at h2)
  | [v0,v1],h1,h2=>.no (by simp at h2)
  | [v0,v1,v2],h1,h2=>.dfl (T:=369) rfl (top 369 ziN (Dt w.params (by kernel_rfl) (by kernel_rfl))) rfl (by rfl) (by rfl)
  | [v0,v1,v2,v3],h1,h2=>.dfl (T:=369) rfl (top 369 ziN (Dt w.params (by kernel_rfl) (by kernel_rfl))) rfl (by rfl) (by rfl)
  | v0 :: v1 :: v2 :: v3 :: v4 :: r,h1,h2=>.no (by simp only [List.length_cons] at h1; lia)
theorem zbp (w:World):Br w 42 Yp:=.mk zjz 375 (oc:=zlj) Tt (zbz w) (zbq w)
noncomputable def Pa:List (Str × NameKind):=[(.ofString "kinds",.local),(.ofString "one",.local),(.ofString "other",.local),(.ofString "is_subtype",.globalImplicit)]
theorem Ug:Ae Pa:=.of (by kernel_rfl)
theorem zc6 (w:World):SSs w Pa (A1 R2 A5) (Aq (st 33)):=by unfold R2; have o:=Ug; exact (Q (Af (zt3 (Vp (P1 By (L o) (L o)) (zaG (zgO (Vp (Ca o (X7 w) (K (L o) (K (L o) (K (L o) Z)))) (zaG (Ca o (X7 w) (K (L o) (K (L o) (K (L o) Z))))))))))) Y)
theorem zck (w:World):Bd w ziC Pa 3 []:=.of0 (As fun _=>As fun _=>As fun _=>C4 (by kernel_rfl))
theorem zdb (w:World):Br w 43 za3:=.mk ziC 382 (oc:=zmS) Ug (zck w) (zc6 w)
noncomputable def Ft:List (Str × NameKind):=[(.ofString "self",.local),(.ofString "name",.local)]
theorem Nb:Ae Ft:=.of (by kernel_rfl)
theorem Wo (w:World):SSs w Ft (A1 Dc (A1 Dd A5)) (Aq (su 36 0)):=by unfold Dc Dd; have o:=Nb; exact (Q (Aa (Ga (L o)) (L o)) (Q (Aa (Ga (L o)) (Ad Z)) Y))
theorem Wx (w:World):Bd w zkB Ft 2 []:=.of0 (As fun _=>As fun _=>C4 (by kernel_rfl))
theorem W6 (w:World):Br w 44 Jn:=.mk zkB 396 (oc:=znt) Nb (Wx w) (Wo w)
noncomputable def Oo:List (Str × NameKind):=[(.ofString "self",.local),(.ofString "method",.local),(.ofString "kinds",.local),(.ofString "elder",.local),(.ofString "same_kind",.globalImplicit)]
theorem Vm:Ae Oo:=.of (by kernel_rfl)
theorem zcz (w:World):SSs w Oo (A1 G9 (A1 G6 A5)) (Aq (su 36 1)):=by unfold G9 G6; have o:=Vm; exact (Q (Dh (Gl o) (Cm (At (L o))) (Q (B4 (Th (Av (Ac zby (At (L o)) Cf) (Av (Pl (Ca o (zeA w) (K (L o) (K (At (L o)) (K (At (L o)) Z))))) De))) (Q (B9 (Me (L o) (K (At (L o)) Z))) Y) Y) Y)) (Q (B9 (Pg (At (L o)) (L o))) Y))
theorem zcS (w:World):Bd w zje Oo 3 []:=.of0 (As fun _=>As fun _=>As fun _=>C4 (by kernel_rfl))
theorem zcf (w:World):Br w 45 Uw:=.mk zje 403 (oc:=zlr) Vm (zcS w) (zcz w)
noncomputable def Mx:List (Str × NameKind):=[(.ofString "self",.local),(.ofString "world",.cell)]
theorem Tf:Ae Mx:=.of (by kernel_rfl)
theorem zbw (w:World):SSs w Mx (A1 Ez A5) (Aq (su 36 2)):=by unfold Ez; have o:=Tf; exact (Q (Af (Sc znE o (Cm (At (L o))) (L1 (Gl Zq) (zco (Pl (Me (L Zq) (K (Ce Zq) Z))) Ct) (L Zq)))) Y)
theorem zbA (w:World):Bd w zkg Mx 2 []:=.of0 (As fun _=>As fun _=>C4 (by kernel_rfl))
theorem zbk (w:World):Br w 46 Sb:=.mk zkg 408 (oc:=zlI) Tf (zbA w) (zbw w)
noncomputable def F0:List (Str × NameKind):=[(.ofString "self",.local),(.ofString "kinds",.local),(.ofString "FIRST_WORLD",.globalImplicit)]
theorem Le:Ae F0:=.of (by kernel_rfl)
theorem Ux (w:World):SSs w F0 (A1 Fl (A1 Fp (A1 G3 (A1 Fy A5)))) (Aq (su 37 0)):=by unfold Fl Fp G3 Fy; have o:=Le; exact (Q (Aa (Ga (L o)) (L o)) (Q (Aa (Ga (L o)) zgM) (Q (Aa (Ga (L o)) (Ad Z)) (Q (Aa (Ga (L o)) (G o (zc9 w) (zc0 w))) Y))))
theorem Uy (w:World):Bd w zjE F0 2 []:=.of0 (As fun _=>As fun _=>C4 (by kernel_rfl))
theorem V1 (w:World):Br w 47 Q9:=.mk zjE 429 (oc:=zmw) Le (Uy w) (Ux w)
noncomputable def Il:List (Str × NameKind):=[(.ofString "self",.local),(.ofString "name",.local),(.ofString "Table",.globalImplicit)]
theorem Q5:Ae Il:=.of (by kernel_rfl)
theorem Ye (w:World):SSs w Il (A1 D2 (A1 D3 A5)) (Aq (su 37 1)):=by unfold D2 D3; have o:=Q5; exact (Q (B4 (Ac (Qc (C3 w)) (L o) (At (L o))) (Q (Aa (Y8 (At (L o)) (L o)) (Nw o (ziY w) (K (L o) Z))) Y) Y) (Q (Af (A7 (At (L o)) (L o))) Y))
theorem Zr (w:World):Bd w zkL Il 2 []:=.of0 (As fun _=>As fun _=>C4 (by kernel_rfl))
theorem zam (w:World):Br w 48 O9:=.mk zkL 436 (oc:=zni) Q5 (Zr w) (Ye w)
noncomputable def M6:List (Str × NameKind):=[(.ofString "self",.local),(.ofString "method",.local),(.ofString "len",.globalImplicit)]
theorem Tn:Ae M6:=.of (by kernel_rfl)
theorem zbG (w:World):SSs w M6 (A1 Ex (A1 Ey (A1 F7 (A1 F3 (A1 F9 A5))))) (Aq (su 37 2)):=by unfold Ex Ey F7 F3 F9; have o:=Tn; exact (Q (Aa (Ga (L o)) (Cg Et (At (L o)) A9)) (Q (Vu (Rx (Bn (Ga (L o)) (Bn (Ga (L o)) Kl))) (Ak (K (B1 o (Eo w) (Jf (C3 w)) (At (L o))) (K (At (L o)) Z)))) (Q (B9 (Pg (At (L o)) (L o))) (Q (B9 (Me (Me (L o) (K (AtT (L o)) Z)) (K (L o) (K (At (L o)) Z)))) (Q (Af (L o)) Y)))))
theorem zbv (w:World):Bd w ziR M6 2 []:=.of0 (As fun _=>As fun _=>C4 (by kernel_rfl))
theorem zbD (w:World):Br w 49 S6:=.mk ziR 443 (oc:=zm9) Tn (zbv w) (zbG w)
noncomputable def Kp:List (Str × NameKind):=[(.ofString "self",.local),(.ofString "name",.local),(.ofString "world",.local)]
theorem Rz:Ae Kp:=.of (by kernel_rfl)
theorem zaJ (w:World):SSs w Kp (A1 Dj A5) (Aq (su 37 3)):=by unfold Dj; have o:=Rz; exact (Q (Af (Dv (Ac (zb7 (C3 w)) (L o) (At (L o))) (Me (A7 (At (L o)) (L o)) (K (L o) Z)) (Ad Z))) Y)
theorem zaZ (w:World):Bd w zi9 Kp 3 []:=.of0 (As fun _=>As fun _=>As fun _=>C4 (by kernel_rfl))
theorem zaE (w:World):Br w 50 Qx:=.mk zi9 450 (oc:=zmr) Rz (zaZ w) (zaJ w)
noncomputable def He:List (Str × NameKind):=[(.ofString "self",.local),(.ofString "name",.local),(.ofString "params",.local),(.ofString "above",.local),(.ofString "is_abstract",.local),(.ofString "is_mutable",.local),(.ofString "fields",.local),(.ofString "list",.globalImplicit)]
theorem Oc:Ae He:=.of (by kernel_rfl)
theorem Y5 (w:World):SSs w He (A1 Ja (A1 J7 (A1 J2 (A1 Ig (A1 Ht (A1 Ip A5)))))) (Aq (su 47 0)):=by unfold Ja J7 J2 Ig Ht Ip; have o:=Oc; exact (Q (Aa (Ga (L o)) (L o)) (Q (Aa (Ga (L o)) (B1 o (T8 w) Y6 (L o))) (Q (Aa (Ga (L o)) (L o)) (Q (Aa (Ga (L o)) (L o)) (Q (Aa (Ga (L o)) (L o)) (Q (Aa (Ga (L o)) (B1 o (T8 w) Y6 (L o))) Y))))))
theorem Xo (w:World):Bd w zmF He 7 [(.bool false),(.ref 546)]:=fun s vals top h1 h2=>match vals,h1,h2 with
  | [],h1,h2=>.no (by simp at h2)
  | [v0],h1,h2=>.no (by simp at h2)
  | [v0,v1],h1,h2=>.no (by simp at h2)
  | [v0,v1,v2],h1,h2=>.no (by simp at h2)
  | [v0,v1,v2,v3],h1,h2=>.no (by simp at h2)
  | [v0,v1,v2,v3,v4],h1,h2=>.dfl (T:=547) rfl (top 547 zjo (Dt w.params (by kernel_rfl) (by kernel_rfl))) rfl (by rfl) (by rfl)
  | [v0,v1,v2,v3,v4,v5],h1,h2=>.dfl (T:=547) rfl (top 547 zjo (Dt w.params (by kernel_rfl) (by kernel_rfl))) rfl (by rfl) (by rfl)
  | [v0,v1,v2,v3,v4,v5,v6],h1,h2=>.dfl (T:=547) rfl (top 547 zjo (Dt w.params (by kernel_rfl) (by kernel_rfl))) rfl (by rfl) (by rfl)
  | v0 :: v1 :: v2 :: v3 :: v4 :: v5 :: v6 :: v7 :: r,h1,h2=>.no (by simp only [List.length_cons] at h1; lia)
theorem Xp (w:World):Br w 51 Td:=.mk zmF 553 (oc:=zqB) Oc (Xo w) (Y5 w)
noncomputable def Fv:List (Str × NameKind):=[(.ofString "self",.local),(.ofString "params",.local),(.ofString "dict",.globalImplicit),(.ofString "zip",.globalImplicit)]
theorem N0:Ae Fv:=.of (by kernel_rfl)
theorem Wa (w:World):SSs w Fv (A1 H0 A5) (Aq (su 47 1)):=by unfold H0; have o:=N0; exact (Q (Af (B1 o (zeP w) zgd (zgh o ⟨by rfl,fun _ _ _=>by rfl,fun _ _ _ _=>by rfl⟩ ⟨fun _ _ _=>by rfl,fun _ _ _=>by rfl,fun _ _ _ _=>by rfl⟩ (by rfl) (by kernel_rfl) (i:=3) rfl (zqo w) (At (L o)) (L o)))) Y)
theorem Ww (w:World):Bd w zmJ Fv 2 []:=.of0 (As fun _=>As fun _=>C4 (by kernel_rfl))
theorem Wn (w:World):Br w 52 Rs:=.mk zmJ 558 (oc:=zqX) N0 (Ww w) (Wa w)
noncomputable def Fq:List (Str × NameKind):=[(.ofString "self",.local),(.ofString "Decl",.globalImplicit)]
theorem Nc:Ae Fq:=.of (by kernel_rfl)
theorem Wk (w:World):SSs w Fq (A1 Gm A5) (Aq (su 48 0)):=by unfold Gm; have o:=Nc; exact (Q (Aa (Ga (L o)) (zg4 Sr (Nw o (Ed w) (K Sr (K (Ad Z) (K Cf (K Ba Z))))))) Y)
theorem We (w:World):Bd w zmY Fq 1 []:=.of0 (As fun _=>C4 (by kernel_rfl))
theorem Wd (w:World):Br w 53 Rh:=.mk zmY 591 (oc:=zoS) Nc (We w) (Wk w)
noncomputable def H6:List (Str × NameKind):=[(.ofString "self",.local),(.ofString "decl",.local),(.ofString "above",.local),(.ofString "own",.cell),(.ofString "name",.local),(.ofString "wild",.local),(.ofString "kind",.local),(.ofString "KindFault",.globalImplicit),(.ofString "kind_text",.globalImplicit),(.ofString "TYPE",.globalImplicit),(.ofString "len",.globalImplicit),(.ofString "free_vars",.globalImplicit),(.ofString "dict",.globalImplicit)]
theorem P5:Ae H6:=.of (by kernel_rfl)
theorem Xs (w:World):SSs w H6 (A1 Hs (A1 Io (A1 Iv (A1 Ik (A1 Hu (A1 Ij (A1 Im (A1 Hy (A1 Hq A5))))))))) (Aq (su 48 1)):=by unfold Hs Io Iv Ik Hu Ij Im Hy Hq; have o:=P5; exact (Q (B4 (Ac (zb7 (C3 w)) (At (L o)) (At (L o))) (Q Be Y) Y) (Q (Aa (Gl o) (At (L o))) (Q (B4 (zcp (Av (Ac T1 (A7 (L o) A9) Sr) (Av (Ac (Qc (C3 w)) (A7 (L o) A9) (At (L o))) (Av (zhd (Pl (At (A7 (At (L o)) (A7 (L o) A9))))) De)))) (Q Be Y) Y) (Q (B4 (zcp (Av (Ac By (L o) (G o (zmb w) (zmk w))) (Av (Ac T1 (B1 o (Eo w) (Jf (C3 w)) (A7 (L o) A9)) (B1 o (Eo w) (Jf (C3 w)) (At (A7 (At (L o)) (A7 (L o) A9))))) De))) (Q Be Y) Y) (Q (zes o rfl (Sc znx o (Cm (At (L o))) (L1 (Gl zfH) Ct (A7 (L zfH) A9)))) (Q (ScA znF o (Cm (Ca o (Ib w) (K (L o) Z))) (L1 (Gl Z5) (zco (Ac (Qc (C3 w)) (L Z5) (Ce Z5)) Ct) (L Z5))) (Q (Dh (Rx (Bn (Gl o) (Bn (Gl o) Kl))) (Cm (At (L o))) (Q (Aa (Gl o) (Cg Et (L o) (Sc znV o (Cm (Ca o (Ib w) (K (L o) Z))) (L1 (Gl Zk) (zco (Ac (Qc (C3 w)) (L Zk) (Ce Zk)) Ct) (L Zk))))) Y)) (Q (B4 (zcp (Av (Ac T1 (L o) (Ad Z)) (Av (Ac T1 (B1 o (Eo w) (Jf (C3 w)) (B1 o (zeP w) zgd (At (L o)))) (B1 o (Eo w) (Jf (C3 w)) (At (L o)))) De))) (Q Be Y) Y) (Q (Aa (Y8 (At (L o)) (At (L o))) (L o)) Y)))))))))
theorem Yb (w:World):Bd w zlO H6 2 []:=.of0 (As fun _=>As fun _=>C4 (by kernel_rfl))
theorem Y4 (w:World):Br w 54 Tk:=.mk zlO 596 (oc:=zop) P5 (Yb w) (Xs w)
noncomputable def Lg:List (Str × NameKind):=[(.ofString "self",.local),(.ofString "name",.local),(.ofString "KindFault",.globalImplicit)]
theorem Ti:Ae Lg:=.of (by kernel_rfl)
theorem zbR (w:World):SSs w Lg (A1 O6 (A1 Oq A5)) (Aq (su 48 3)):=by unfold O6 Oq; have o:=Ti; exact (Q (B4 (Ac (Qc (C3 w)) (L o) (At (L o))) (Q Be Y) Y) (Q (Af (A7 (At (L o)) (L o))) Y))
theorem zbM (w:World):Bd w zmD Lg 2 []:=.of0 (As fun _=>As fun _=>C4 (by kernel_rfl))
theorem zbC (w:World):Br w 55 Yz:=.mk zmD 610 (oc:=zpH) Ti (zbM w) (zbR w)
noncomputable def Fk:List (Str × NameKind):=[(.ofString "self",.local),(.ofString "kind",.local),(.ofString "decl",.local),(.ofString "TYPE",.globalImplicit),(.ofString "FUNCTION",.globalImplicit),(.ofString "ANY",.globalImplicit),(.ofString "substituted",.globalImplicit)]
theorem Nj:Ae Fk:=.of (by kernel_rfl)
theorem X0 (w:World):SSs w Fk (A1 Go (A1 Gp (A1 H9 (A1 Hc (A1 Gn A5))))) (Aq (su 48 4)):=by unfold Go Gp H9 Hc Gn; have o:=Nj; exact (Q (B4 (Ac By (A7 (L o) A9) Sr) (Q Be Y) Y) (Q (B4 (Ac By (A7 (L o) A9) Sr) (Q Be Y) Y) (Q (B4 (zcp (Av (Ac T1 (A7 (L o) A9) Sr) (Av (Ac By (L o) (G o (Ci w) (Ch w))) De))) (Q Be Y) Y) (Q (Aa (Gl o) (Me (L o) (K (A7 (L o) A9) Z))) (Q (Af (Ca o (Od w) (K (At (L o)) (K (Me (L o) (K (A7 (L o) A9) Z)) Z)))) Y)))))
theorem W5 (w:World):Bd w zmA Fk 2 []:=.of0 (As fun _=>As fun _=>C4 (by kernel_rfl))
theorem Wc (w:World):Br w 56 Rw:=.mk zmA 617 (oc:=zpU) Nj (W5 w) (X0 w)
noncomputable def Hz:List (Str × NameKind):=[(.ofString "self",.local),(.ofString "kind",.local),(.ofString "found",.local),(.ofString "ANY",.globalImplicit)]
theorem Pt:Ae Hz:=.of (by kernel_rfl)
theorem Yr (w:World):SSs w Hz (A1 K8 (A1 Kg (A1 Kn A5))) (Aq (su 48 5)):=by unfold K8 Kg Kn; have o:=Pt; exact (Q (Aa (Gl o) (Ad (K (L o) Z))) (Q (U7 (Ac T1 (A7 (L o) zgN) (G o (Ci w) (Ch w))) (Q (B9 (Pg (L o) (Me (L o) (K (A7 (L o) zgN) Z)))) Y)) (Q (Af (L o)) Y)))
theorem Yk (w:World):Bd w zmh Hz 2 []:=.of0 (As fun _=>As fun _=>C4 (by kernel_rfl))
theorem Zv (w:World):Br w 57 Vc:=.mk zmh 624 (oc:=zoW) Pt (Yk w) (Yr w)
noncomputable def Sf:List (Str × NameKind):=[(.ofString "kinds",.local),(.ofString "name",.local),(.ofString "above",.local),(.ofString "is_abstract",.local),(.ofString "Decl",.globalImplicit)]
theorem Yl:Ae Sf:=.of (by kernel_rfl)
theorem zeg (w:World):SSs w Sf (A1 Uq A5) (Aq (st 49)):=by unfold Uq; have o:=Yl; exact (Q (B9 (Me (L o) (K (Nw o (Ed w) (K (L o) (K (Ad Z) (K (L o) (K (L o) Z))))) Z))) Y)
theorem zee (w:World):Bd w znd Sf 4 [(.bool false)]:=fun s vals top h1 h2=>match vals,h1,h2 with
  | [],h1,h2=>.no (by simp at h2)
  | [v0],h1,h2=>.no (by simp at h2)
  | [v0,v1],h1,h2=>.no (by simp at h2)
  | [v0,v1,v2],h1,h2=>.dfl (T:=666) rfl (top 666 zmf (Dt w.params (by kernel_rfl) (by kernel_rfl))) rfl (by rfl) (by rfl)
  | [v0,v1,v2,v3],h1,h2=>.dfl (T:=666) rfl (top 666 zmf (Dt w.params (by kernel_rfl) (by kernel_rfl))) rfl (by rfl) (by rfl)
  | v0 :: v1 :: v2 :: v3 :: v4 :: r,h1,h2=>.no (by simp only [List.length_cons] at h1; lia)
theorem zeH (w:World):Br w 58 zdZ:=.mk znd 672 (oc:=zoo) Yl (zee w) (zeg w)
noncomputable def Jo:List (Str × NameKind):=[(.ofString "kinds",.local),(.ofString "name",.local),(.ofString "above",.local),(.ofString "Kinds",.globalImplicit),(.ofString "nominal",.globalImplicit),(.ofString "ANY",.globalImplicit),(.ofString "named",.globalImplicit),(.ofString "SIGNED",.globalImplicit),(.ofString "UNSIGNED",.globalImplicit),(.ofString "Decl",.globalImplicit),(.ofString "start_errors",.globalImplicit),(.ofString "start_rows",.globalImplicit)]
theorem Rl:Ae Jo:=.of (by kernel_rfl)
theorem zay (w:World):SSs w Jo (A1 Mc (A1 M2 (A1 M4 (A1 Ms (A1 Ly (A1 Ml (A1 Lz (A1 Ll (A1 Lj (A1 Mp (A1 Jq (A1 Kx (A1 Ji (A1 Jj (A1 Ky A5))))))))))))))) (Aq (st 50)):=by unfold Mc M2 M4 Ms Ly Ml Lz Ll Lj Mp Jq Kx Ji Jj Ky; have o:=Rl; exact (Q (Aa (Gl o) (Nw o (ziJ w) Z)) (Q (Dh (Gl o) (Cm (Ak (K Sr (K Sr (K Sr (K Sr (K Sr (K Sr Z)))))))) (Q (B9 (Ca o (D8 w) (K (L o) (K (L o) (K (G o (Ci w) (Ch w)) (K Ba Z)))))) Y)) (Q (B9 (Ca o (D8 w) (K (L o) (K Sr (K (Ca o (Dl w) (K Sr Z)) (K Ba Z)))))) (Q (B9 (Ca o (D8 w) (K (L o) (K Sr (K (Ca o (Dl w) (K Sr Z)) (K Ba Z)))))) (Q (B9 (Ca o (D8 w) (K (L o) (K Sr (K (Ca o (Dl w) (K Sr Z)) (K Ba Z)))))) (Q (B9 (Ca o (D8 w) (K (L o) (K Sr (K (Ca o (Dl w) (K Sr Z)) (K Ba Z)))))) (Q (Dh (Gl o) (Cm (G o (zh8 w) (zik w))) (Q (B9 (Ca o (D8 w) (K (L o) (K (L o) (K (Ca o (Dl w) (K Sr Z)) Z))))) Y)) (Q (Dh (Gl o) (Cm (G o (zfa w) (zfn w))) (Q (B9 (Ca o (D8 w) (K (L o) (K (L o) (K (Ca o (Dl w) (K Sr Z)) Z))))) Y)) (Q (Dh (Rx (Bn (Gl o) (Bn (Gl o) Kl))) (Cm (Ak (K (Ak (K Sr (K Sr Z))) (K (Ak (K Sr (K Sr Z))) (K (Ak (K Sr (K Sr Z))) Z))))) (Q (B9 (Ca o (D8 w) (K (L o) (K (L o) (K (Ca o (Dl w) (K (L o) Z)) Z))))) Y)) (Q (B9 (Ca o (D8 w) (K (L o) (K Sr (K (G o (Ci w) (Ch w)) Z))))) (Q (B9 (Ca o (D8 w) (K (L o) (K Sr (K (G o (Ci w) (Ch w)) Z))))) (Q (B9 (Me (L o) (K (Nw o (Ed w) (K Sr (K (Ad Z) (K (G o (Ci w) (Ch w)) (K Ba (K Ba (K (Ad (K (Ak (K Sr (K (Ca o (Dl w) (K Sr Z)) Z))) (K (Ak (K Sr (K (G o (Ci w) (Ch w)) Z))) Z))) Z))))))) Z))) (Q (B9 (Ca o (zbt w) (K (L o) Z))) (Q (B9 (Ca o (zdP w) (K (L o) Z))) (Q (Af (L o)) Y)))))))))))))))
theorem zaL (w:World):Bd w zms Jo 0 []:=.of0 (C4 (by kernel_rfl))
theorem zas (w:World):Br w 59 Xi:=.mk zms 679 (oc:=zps) Rl (zaL w) (zay w)
noncomputable def J6:List (Str × NameKind):=[(.ofString "kinds",.local),(.ofString "above",.local),(.ofString "name",.local),(.ofString "named",.globalImplicit),(.ofString "PLAIN_ERRORS",.globalImplicit),(.ofString "nominal",.globalImplicit),(.ofString "TEXT_ERRORS",.globalImplicit),(.ofString "Decl",.globalImplicit),(.ofString "ANY",.globalImplicit),(.ofString "CALL_ERRORS",.globalImplicit)]
theorem Q7:Ae J6:=.of (by kernel_rfl)
theorem Yy (w:World):SSs w J6 (A1 Kz (A1 Kj (A1 Kd (A1 Ks (A1 K1 (A1 Jm A5)))))) (Aq (st 51)):=by unfold Kz Kj Kd Ks K1 Jm; have o:=Q7; exact (Q (Aa (Gl o) (Ca o (Dl w) (K Sr Z))) (Q (Dh (Gl o) (Cm (G o (zbQ w) (zbs w))) (Q (B9 (Ca o (D8 w) (K (L o) (K (L o) (K (L o) Z))))) Y)) (Q (Dh (Gl o) (Cm (G o (zcP w) (zce w))) (Q (B9 (Me (L o) (K (Nw o (Ed w) (K (L o) (K (Ad Z) (K (L o) (K Ba (K Ba (K (Ad (K (Ak (K Sr (K (G o (Ci w) (Ch w)) Z))) Z)) Z))))))) Z))) Y)) (Q (Dh (Gl o) (Cm (G o (zc5 w) (zcV w))) (Q (B9 (Me (L o) (K (Nw o (Ed w) (K (L o) (K (Ad Z) (K (L o) (K Ba (K Ba (K (Ad (K (Ak (K Sr (K (G o (Ci w) (Ch w)) Z))) (K (Ak (K Sr (K (G o (Ci w) (Ch w)) Z))) Z))) Z))))))) Z))) Y)) (Q (B9 (Me (L o) (K (Nw o (Ed w) (K Sr (K (Ad Z) (K (L o) (K Ba (K Ba (K (Ad (K (Ak (K Sr (K (G o (Ci w) (Ch w)) Z))) Z)) Z))))))) Z))) (Q (B9 (Me (L o) (K (Nw o (Ed w) (K Sr (K (Ad Z) (K (L o) (K Ba (K Ba (K (Ad (K (Ak (K Sr (K (G o (Ci w) (Ch w)) Z))) (K (Ak (K Sr (K (G o (Ci w) (Ch w)) Z))) Z))) Z))))))) Z))) Y))))))
theorem Zg (w:World):Bd w zlH J6 1 []:=.of0 (As fun _=>C4 (by kernel_rfl))
theorem Z1 (w:World):Br w 60 V2:=.mk zlH 686 (oc:=zox) Q7 (Zg w) (Yy w)
noncomputable def M9:List (Str × NameKind):=[(.ofString "kinds",.local),(.ofString "anything",.local),(.ofString "item",.local),(.ofString "rank",.local),(.ofString "name",.local),(.ofString "one",.local),(.ofString "above",.local),(.ofString "whole",.local),(.ofString "BOTTOM",.globalImplicit),(.ofString "ANY",.globalImplicit),(.ofString "Decl",.globalImplicit),(.ofString "named",.globalImplicit)]
theorem T9:Ae M9:=.of (by kernel_rfl)
theorem zbf (w:World):SSs w M9 (A1 O4 (A1 Pj (A1 Og (A1 P8 (A1 Os (A1 Oe (A1 Oh (A1 O8 (A1 Ol (A1 On (A1 Mn (A1 Mm A5)))))))))))) (Aq (st 52)):=by unfold O4 Pj Og P8 Os Oe Oh O8 Ol On Mn Mm; have o:=T9; exact (Q (Aa (Gl o) (Ad (K (Ak (K Sr (K (G o (Hm w) (Hn w)) (K (G o (Ci w) (Ch w)) Z)))) (K (Ak (K Sr (K (G o (Hm w) (Hn w)) (K (G o (Ci w) (Ch w)) Z)))) Z)))) (Q (zfr (Rx (Bn (Gl o) (Bn (Gl o) Kl))) (Ak (K (Ak (K Sr (K Sr Z))) (K (Ak (K Sr (K Sr Z))) Z)))) (Q (B9 (Me (L o) (K (Nw o (Ed w) (K Sr (K (L o) (K (G o (Ci w) (Ch w)) (K Ba Z))))) Z))) (Q (Dh (Gl o) (Cm (Ak (K Sr (K Sr Z)))) (Q (B9 (Me (L o) (K (Nw o (Ed w) (K (L o) (K (L o) (K (Ca o (Dl w) (K Sr (K (Ak (K (L o) (K (L o) Z))) Z))) (K Ba (K Ba Z)))))) Z))) Y)) (Q (Aa (Gl o) (Ad (K (Ak (K Sr (K (G o (Hm w) (Hn w)) (K (G o (Ci w) (Ch w)) Z)))) Z))) (Q (B9 (Me (L o) (K (Nw o (Ed w) (K Sr (K (L o) (K (Ca o (Dl w) (K Sr (K (Ak (K (L o) (K (Ak (K Sr (K A9 Z))) Z))) Z))) (K Ba Z))))) Z))) (Q (Aa (Gl o) (Ca o (Dl w) (K Sr (K (Ak (K (L o) Z)) Z)))) (Q (B9 (Me (L o) (K (Nw o (Ed w) (K Sr (K (L o) (K (L o) (K Ba (K Ba (K (Ad (K (Ak (K Sr (K (L o) Z))) (K (Ak (K Sr (K (L o) Z))) Z))) Z))))))) Z))) (Q (B9 (Me (L o) (K (Nw o (Ed w) (K Sr (K (L o) (K (L o) (K Ba (K Ba (K (Ad (K (Ak (K Sr (K (L o) Z))) (K (Ak (K Sr (K (L o) Z))) (K (Ak (K Sr (K (L o) Z))) Z)))) Z))))))) Z))) (Q (B9 (Me (L o) (K (Nw o (Ed w) (K Sr (K (L o) (K (G o (Ci w) (Ch w)) (K Ba (K Ba (K (Ad (K (Ak (K Sr (K (L o) Z))) Z)) Z))))))) Z))) (Q (Aa (Gl o) (Ad (K (Ak (K Sr (K (G o (Hm w) (Hn w)) (K (Ca o (Dl w) (K Sr Z)) Z)))) Z))) (Q (B9 (Me (L o) (K (Nw o (Ed w) (K Sr (K (L o) (K (Ca o (Dl w) (K Sr Z)) (K Ba (K Ba (K (Ad (K (Ak (K Sr (K (L o) Z))) (K (Ak (K Sr (K (L o) Z))) Z))) Z))))))) Z))) Y))))))))))))
theorem zbE (w:World):Bd w zmi M9 1 []:=.of0 (As fun _=>C4 (by kernel_rfl))
theorem zbH (w:World):Br w 61 Zp:=.mk zmi 693 (oc:=zpG) T9 (zbE w) (zbf w)
noncomputable def Ew:List (Str × NameKind):=[(.ofString "self",.local),(.ofString "number",.local),(.ofString "table",.local),(.ofString "sig",.local),(.ofString "names",.local),(.ofString "has_rest",.local),(.ofString "code",.local),(.ofString "tree",.local),(.ofString "world_from",.local),(.ofString "world_to",.local)]
theorem Lb:Ae Ew:=.of (by kernel_rfl)
theorem Vh (w:World):SSs w Ew (A1 Cs (A1 Cv (A1 Co (A1 Cu (A1 Cr (A1 Cw (A1 Cq (A1 Cn (A1 Cp A5))))))))) (Aq (su 54 0)):=by unfold Cs Cv Co Cu Cr Cw Cq Cn Cp; have o:=Lb; exact (Q (Aa (Ga (L o)) (L o)) (Q (Aa (GaT (L o)) (L o)) (Q (Aa (Ga (L o)) (L o)) (Q (Aa (Ga (L o)) (L o)) (Q (Aa (Ga (L o)) (L o)) (Q (Aa (Ga (L o)) (L o)) (Q (Aa (Ga (L o)) (L o)) (Q (Aa (Ga (L o)) (L o)) (Q (Aa (Ga (L o)) (L o)) Y)))))))))
theorem Ub (w:World):Bd w zne Ew 10 [(.int 0 1171),.none]:=fun s vals top h1 h2=>match vals,h1,h2 with
  | [],h1,h2=>.no (by simp at h2)
  | [v0],h1,h2=>.no (by simp at h2)
  | [v0,v1],h1,h2=>.no (by simp at h2)
  | [v0,v1,v2],h1,h2=>.no (by simp at h2)
  | [v0,v1,v2,v3],h1,h2=>.no (by simp at h2)
  | [v0,v1,v2,v3,v4],h1,h2=>.no (by simp at h2)
  | [v0,v1,v2,v3,v4,v5],h1,h2=>.no (by simp at h2)
  | [v0,v1,v2,v3,v4,v5,v6],h1,h2=>.no (by simp at h2)
  | [v0,v1,v2,v3,v4,v5,v6,v7],h1,h2=>.dfl (T:=702) rfl (top 702 ziQ (Dt w.params (by kernel_rfl) (by kernel_rfl))) rfl (by rfl) (by rfl)
  | [v0,v1,v2,v3,v4,v5,v6,v7,v8],h1,h2=>.dfl (T:=702) rfl (top 702 ziQ (Dt w.params (by kernel_rfl) (by kernel_rfl))) rfl (by rfl) (by rfl)
  | [v0,v1,v2,v3,v4,v5,v6,v7,v8,v9],h1,h2=>.dfl (T:=702) rfl (top 702 ziQ (Dt w.params (by kernel_rfl) (by kernel_rfl))) rfl (by rfl) (by rfl)
  | v0 :: v1 :: v2 :: v3 :: v4 :: v5 :: v6 :: v7 :: v8 :: v9 :: v10 :: r,h1,h2=>.no (by simp only [List.length_cons] at h1; lia)
theorem V5 (w:World):Br w 62 Iz:=.mk zne 708 (oc:=zpi) Lb (Ub w) (Vh w)
noncomputable def Fu:List (Str × NameKind):=[(.ofString "self",.local),(.ofString "world",.local)]
theorem Nk:Ae Fu:=.of (by kernel_rfl)
theorem Wj (w:World):SSs w Fu (A1 D9 (A1 Da A5)) (Aq (su 54 1)):=by unfold D9 Da; have o:=Nk; exact (Q (B4 (Ac ziE (L o) (At (L o))) (Q (Af Ba) Y) Y) (Q (Af (zt3 (Vp (P1 zby (At (L o)) Cf) (zaG (P1 ziE (L o) (At (L o))))))) Y))
theorem X1 (w:World):Bd w zlq Fu 2 []:=.of0 (As fun _=>As fun _=>C4 (by kernel_rfl))
theorem X2 (w:World):Br w 63 K2:=.mk zlq 715 (oc:=zpB) Nk (X1 w) (Wj w)
noncomputable def M0:List (Str × NameKind):=[(.ofString "self",.local),(.ofString "world",.local)]
theorem Te:Ae M0:=.of (by kernel_rfl)
theorem zbL (w:World):SSs w M0 (A1 Fa A5) (Aq (su 54 2)):=by unfold Fa; have o:=Te; exact (Q (Aa (Ga (L o)) (L o)) Y)
theorem zbN (w:World):Bd w znj M0 2 []:=.of0 (As fun _=>As fun _=>C4 (by kernel_rfl))
theorem zbO (w:World):Br w 64 S7:=.mk znj 722 (oc:=zow) Te (zbN w) (zbL w)
noncomputable def Jv:List (Str × NameKind):=[(.ofString "self",.local)]
theorem R9:Ae Jv:=.of (by kernel_rfl)
theorem zaP (w:World):SSs w Jv (A1 Ef A5) (Aq (su 54 3)):=by unfold Ef; have o:=R9; exact (Q (Af (Ak (K (At (L o)) (K (AtT (L o)) (K (At (L o)) (K (At (L o)) (K (At (L o)) Z))))))) Y)
theorem zao (w:World):Bd w zlY Jv 1 []:=.of0 (As fun _=>C4 (by kernel_rfl))
theorem zaV (w:World):Br w 65 R3:=.mk zlY 729 (oc:=zqC) R9 (zao w) (zaP w)
noncomputable def Pb:List (Str × NameKind):=[(.ofString "script",.local),(.ofString "spun",.local),(.ofString "cell",.local),(.ofString "first",.local),(.ofString "int",.globalImplicit),(.ofString "len",.globalImplicit),(.ofString "abs",.globalImplicit)]
theorem Vd:Ae Pb:=.of (by kernel_rfl)
theorem zcE (w:World):SSs w Pb (A1 G5 (A1 G7 (A1 Gb (A1 Ge A5)))) (Aq (st 56)):=by unfold G5 G7 Gb Ge; have o:=Vd; exact (Q (Aa (Gl o) A9) (Q (Dh (Gl o) (Cm (ziS (L o) A9)) (Q (Aa (Gl o) (Cg zfK (Cg Et (Cg zla (L o) A9) (Cg zfK (B1 o (zgb w) zjV (L o)) A9)) A9)) Y)) (Q (Aa (Gl o) (Dv (Ac zgy (B1 o (Eo w) (Jf (C3 w)) (L o)) A9) (B1 o (zpN w) ztF (B1 o (zgb w) zjV (A7 (L o) A9))) A9)) (Q (Af (Ad (K (Dv (Ac zrW (L o) (Cg zus A9 A9)) (L o) A9) (K (L o) Z)))) Y))))
theorem zcQ (w:World):Bd w zlW Pb 1 []:=.of0 (As fun _=>C4 (by kernel_rfl))
theorem zdk (w:World):Br w 66 Uk:=.mk zlW 743 (oc:=zra) Vd (zcQ w) (zcE w)
noncomputable def Ot:List (Str × NameKind):=[(.ofString "drum",.local),(.ofString "many",.local),(.ofString "found",.local)]
theorem Vf:Ae Ot:=.of (by kernel_rfl)
theorem zc1 (w:World):SSs w Ot (A1 Do (A1 Ek (A1 El A5))) (Aq (st 57)):=by unfold Do Ek El; have o:=Vf; exact (Q (B4 (Ac zgy (A7 (L o) A9) A9) (Q (Vu (Rx (Bn (Y8 (L o) A9) (Bn (Gl o) Kl))) (Ak (K (Cg zkc (A7 (L o) A9) (L o)) (K (Cg zfK (A7 (L o) A9) (L o)) Z)))) (Q (Af (L o)) Y)) Y) (Q (Aa (Y8 (L o) A9) (Cg zfK (Cg Et (Cg zla (A7 (L o) A9) A9) A9) A9)) (Q (Af (Cg zfK (Cg zkc (A7 (L o) A9) A9) (L o))) Y)))
theorem zdp (w:World):Bd w zll Ot 2 []:=.of0 (As fun _=>As fun _=>C4 (by kernel_rfl))
theorem zcg (w:World):Br w 67 Pr:=.mk zll 750 (oc:=zpL) Vf (zdp w) (zc1 w)
noncomputable def Ou:List (Str × NameKind):=[(.ofString "word",.local),(.ofString "is_turned",.local),(.ofString "some",.local),(.ofString "union_of",.globalImplicit),(.ofString "ANY",.globalImplicit)]
theorem V8:Ae Ou:=.of (by kernel_rfl)
theorem zcZ (w:World):SSs w Ou (A1 R4 (A1 Qe A5)) (Aq (st 58)):=by unfold R4 Qe; have o:=V8; exact (Q (B4 (Ac By (L o) Sr) (Q (Aa (Gl o) (Ad (K (Ak (K Sr (K Sr (K (Ak Z) Z)))) (K (Ak (K Sr (K Sr (K (Ak Z) Z)))) Z)))) (Q (Af (Ca o (za4 w) (K (Dv (Pl (L o)) (zgj (L o)) (L o)) Z))) Y)) Y) (Q (Af (Dv (Ac By (L o) Sr) (G o (Ci w) (Ch w)) (Ak (K Sr (K (L o) (K (Ak Z) Z)))))) Y))
theorem zcl (w:World):Bd w zlZ Ou 2 []:=.of0 (As fun _=>As fun _=>C4 (by kernel_rfl))
theorem zcO (w:World):Br w 68 zba:=.mk zlZ 757 (oc:=zqb) V8 (zcl w) (zcZ w)
noncomputable def G0:List (Str × NameKind):=[(.ofString "name",.local),(.ofString "words",.local),(.ofString "way",.cell),(.ofString "parts",.local),(.ofString "whole",.local),(.ofString "tuple_of",.globalImplicit)]
theorem Nl:Ae G0:=.of (by kernel_rfl)
theorem W7 (w:World):SSs w G0 (A1 Gk (A1 Gy (A1 Hb A5))) (Aq (st 59)):=by unfold Gk Gy Hb; have o:=Nl; exact (Q (ScA znR o (Cm (L o)) (L1 (Gl Zb) Ct (Ca Zb (zeL w) (K (L Zb) (K (P1 By (Ce Zb) A9) Z))))) (Q (B4 (Th (Av (Ac By (Ce o) A9) (Av (Ac (zb7 (C3 w)) (A7 (L o) A9) (Ak (K Sr (K Sr Z)))) De))) (Q (Aa (Gl o) (Ca o (U0 w) (K (Cg Et (Ad (K (Ak (K Sr (K (L o) Z))) (K (Ak (K Sr (K Sr Z))) Z))) (zpS (L o) A9)) Z))) (Q (Af (Ak (K Sr (K Sr (K (A7 (L o) A9) (K (A7 (L o) A9) (K (L o) Z))))))) Y)) Y) (Q (Af (Ca o (U0 w) (K (Cg Et (Ad (K (Ak (K Sr (K (L o) Z))) Z)) (L o)) Z))) Y)))
theorem W8 (w:World):Bd w zlz G0 3 []:=.of0 (As fun _=>As fun _=>As fun _=>C4 (by kernel_rfl))
theorem W9 (w:World):Br w 69 Rf:=.mk zlz 762 (oc:=zpX) Nl (W8 w) (W7 w)
noncomputable def Pc:List (Str × NameKind):=[(.ofString "tables",.local),(.ofString "name",.local),(.ofString "world",.local)]
theorem Uc:Ae Pc:=.of (by kernel_rfl)
theorem zcu (w:World):SSs w Pc (A1 G4 A5) (Aq (st 60)):=by unfold G4; have o:=Uc; exact (Q (Af (Sc znB o (Cm (Me (L o) (K (L o) (K (L o) Z)))) (L1 (Gl ze0) Ct (At (L ze0))))) Y)
theorem zcI (w:World):Bd w zml Pc 3 []:=.of0 (As fun _=>As fun _=>As fun _=>C4 (by kernel_rfl))
theorem zcC (w:World):Br w 70 Uh:=.mk zml 767 (oc:=zoD) Uc (zcI w) (zcu w)
noncomputable def zcF:List (Str × NameKind):=[(.ofString "script",.local),(.ofString "drum",.cell),(.ofString "kinds",.local),(.ofString "name",.cell),(.ofString "tables",.local),(.ofString "due",.local),(.ofString "turn",.local),(.ofString "words",.local),(.ofString "sig",.local),(.ofString "method",.local),(.ofString "world",.cell),(.ofString "row",.local),(.ofString "there",.local),(.ofString "rows",.local),(.ofString "_law_drum",.globalImplicit),(.ofString "start_kinds",.globalImplicit),(.ofString "Decl",.globalImplicit),(.ofString "ANY",.globalImplicit),(.ofString "Tables",.globalImplicit),(.ofString "_law_seen",.globalImplicit),(.ofString "range",.globalImplicit),(.ofString "_law_beat",.globalImplicit),(.ofString "int",.globalImplicit),(.ofString "_law_signature",.globalImplicit),(.ofString "Method",.globalImplicit),(.ofString "len",.globalImplicit),(.ofString "BOTTOM",.globalImplicit)]
theorem ze2:Ae zcF:=.of (by kernel_rfl)
theorem zk0 (w:World):SSs w zcF (A1 Vy (A1 Ys (A1 zaj (A1 Z7 (A1 Zo (A1 Sk (A1 Vv (A1 Vw (A1 Vt (A1 Vo A5)))))))))) (Aq (st 61)):=by unfold Vy Ys zaj Z7 Zo Sk Vv Vw Vt Vo; have o:=ze2; exact (Q (Aa (Gc o) (Ca o (zeF w) (K (L o) Z))) (Q (Aa (Gl o) (Ca o (zdt w) Z)) (Q (Dh (Gc o) (Cm (Ak (K Sr (K Sr Z)))) (Q (B9 (Me (L o) (K (Nw o (Ed w) (K (Ce o) (K (Ad Z) (K (G o (Ci w) (Ch w)) (K Ba (K Ba (K (Ad Z) Z))))))) Z))) Y)) (Q (zb5 o rfl rfl (K (Nw o (zhV w) (K (L o) Z)) (K (Ad Z) Z))) (Q (B4 (zcp (Av (Ac T1 (At (L o)) A9) (Av (Ac T1 (Ca o (Zd w) (K (L o) (K Sr (K A9 Z)))) (Ad Z)) De))) (Q (Af Ba) Y) Y) (Q (Dh (Gl o) (Ir o (Zn w) (Cg Et A9 (Ca o (Jb w) (K (Ce o) (K A9 Z))))) (Q (Aa (Gc o) (A7 (Ad (K Sr (K Sr (K Sr (K Sr Z))))) (Ca o (Jb w) (K (Ce o) (K A9 Z))))) (Q (ScA zn9 o (Ir o (Zn w) (Cg Et A9 (B1 o (zgb w) zjV (P1 By (Ca o (Jb w) (K (Ce o) (K A9 Z))) A9)))) (L1 (Gl zcG) Ct (A7 (Ad (K Sr (K Sr (K Sr (K Sr Z))))) (Ca zcG (Jb w) (K (Ce zcG) (K A9 Z)))))) (Q (Aa (Gl o) (Ca o (Zf w) (K (Ce o) (K (L o) (K (Ca o (Jb w) (K (Ce o) (K A9 Z))) Z))))) (Q (Aa (Gl o) (Me (L o) (K (Nw o (zh3 w) (K A9 (K (Ce o) (K (L o) (K (Ad (K Sr Z)) (K Ba (K Cf (K Cf Z)))))))) Z))) (Q (Aa (Gc o) (Cg Et (L o) A9)) (Q (B4 (Ac T1 (Ak (K (At (L o)) (K (At (L o)) (K (At (L o)) (K (At (L o)) Z))))) (Ak (K (L o) (K (Ce o) (K Cf (K (Ce o) Z)))))) (Q (Af Ba) Y) Y) (Q (Dh (Gl o) (Cm (L o)) (Q (B4 (Th (Av (Ac By (A7 (L o) A9) (Ce o)) (Av (Ac By (A7 (L o) A9) (L o)) (Av (Ac zby (A7 (L o) A9) Cf) De)))) (Q (Aa (Y8 (L o) A9) (Ce o)) Y) Y) Y)) (Q (B9 (Pg (L o) (Ad (K (Ce o) (K (L o) (K (L o) (K (Ce o) (K Cf (K (L o) Z))))))))) Y))))))))) (Q (Dh (Gc o) (Ir o (Zn w) (Cg Et (B1 o (Eo w) (Jf (C3 w)) (L o)) A9)) (Q (Dh (Gc o) (Cm (Ak (K Sr (K Sr (K Sr Z))))) (Q (ScA znT o (Cm (L o)) (L1 (Gl Hw) (zco (Th (Av (Ac By (A7 (L Hw) A9) (Ce Hw)) (Av (Ac zt4 (A7 (L Hw) A9) (Ce Hw)) (Av (zcp (Av (Ac zby (A7 (L Hw) A9) Cf) (Av (Ac ziE (Ce Hw) (A7 (L Hw) A9)) De))) De)))) Ct) (A7 (L Hw) A9))) (Q (B4 (Ac T1 (Ca o (Zd w) (K (L o) (K (Ce o) (K (Ce o) Z)))) (L o)) (Q (Af Ba) Y) Y) Y))) Y)) (Q (ScA znQ o (Cm (L o)) (L1 (Gl Rr) Ct (Ak (K (A7 (L Rr) A9) (K (A7 (L Rr) A9) (K (A7 (L Rr) A9) (K (A7 (L Rr) A9) (K (A7 (L Rr) A9) Z)))))))) (Q (B4 (zcp (Av (Ac T1 (Sc zn2 o (Cm (At (L o))) (L1 (Gl zeT) Ct (Me (L zeT) Z))) (L o)) (Av (Ac By (G o (Hm w) (Hn w)) (G o (Ci w) (Ch w))) De))) (Q (Af Ba) Y) Y) (Q (Af (P1 By (Sc znN o (Cm (At (Me (L o) (K Sr Z)))) (L1 (Gl zfE) Ct (At (L zfE)))) (Sc znH o (Cm (L o)) (L1 (Gl zcB) (zco (Ac By (A7 (L zcB) A9) Sr) Ct) (A7 (L zcB) A9))))) Y))))))))))
theorem ziT (w:World):Bd w zme zcF 1 []:=.of0 (As fun _=>C4 (by kernel_rfl))
theorem zjx (w:World):Br w 71 zkT:=.mk zme 772 (oc:=zq9) ze2 (ziT w) (zk0 w)
noncomputable def k0:Option Bb:=some (.list [])
noncomputable def k1:T Bb:=.node k0 .nil .nil
noncomputable def k2:T Bb:=.node k0 k1 k1
noncomputable def k3:D:=.str [110,97,109,101]
noncomputable def k4:D:=.tup []
noncomputable def k5:D:=.tup [k3,(.str [65,110,121]),k4]
noncomputable def k6:T Bb:=.node (some (.list [(.tup [(.str [102]),k5]),(.tup [(.str [97,114,103,115]),k5])])) .nil .nil
noncomputable def k7:Nat × D:=(66,(.tup [k3,(.str [85,110,115,105,103,110,101,100]),k4]))
noncomputable def k8:Nat × D:=(27,(.bool false))
noncomputable def k9:Nat × D:=(34,(.bool false))
noncomputable def k10:Option Bb:=some (.dict [])
noncomputable def k11:T Bb:=.node k10 k1 k1
noncomputable def k12:Nat × D:=(27,(.bool true))
noncomputable def k13:T Bb:=.node (some (.list [(.tup [(.str [109,115,103]),k5])])) .nil .nil
noncomputable def k14:D:=.str [84,46,48]
noncomputable def k15:T Bb:=.node (some (.list [k14])) .nil .nil
noncomputable def k16:T Bb:=.node k0 k1 k15
noncomputable def k17:D:=.str [65,98,115,116,114,97,99,116,65,114,114,97,121]
noncomputable def k18:D:=.tup [(.str [118,97,114]),k14]
noncomputable def k19:D:=.tup [(.str [118,97,114]),(.str [78,46,48])]
noncomputable def k20:Option Bb:=some (.cell (some k4))
noncomputable def k21:T Bb:=.node k20 .nil .nil
noncomputable def k22:T Bb:=.node k0 k1 k21
noncomputable def k23:T Bb:=.node k10 .nil .nil
noncomputable def k24:Nat × D:=(66,(.tup [k3,(.str [83,105,103,110,101,100]),k4]))
noncomputable def k25:T Bb:=.node k0 k21 k1
noncomputable def k26:D:=.tup [(.str [98,111,116,116,111,109])]
noncomputable def k27:T Bb:=.node k0 k1 (.node (some (.list [(.tup [k14,k26,k5])])) .nil .nil)
noncomputable def k28:T Bb:=.node k0 k1 (.node (some (.list [k14,(.str [78,46,48])])) .nil .nil)
noncomputable def k29:T Bb:=.node k0 k2 k2
noncomputable def k30:D:=.tup [(.str [110]),(.int (.ofNat 1))]
noncomputable def k31:Nat × D:=(66,(.tup [k3,(.str [69,120,99,101,112,116,105,111,110]),k4]))
noncomputable def k32:T Bb:=.node (some (.list [k18])) .nil .nil
noncomputable def k33:T Bb:=.node (some (.dict [([109,115,103],k5)])) .nil .nil
noncomputable def k34:T Bb:=.node k20 k1 k1
noncomputable def k35:Nat × D:=(66,(.tup [k3,(.str [73,110,116,101,103,101,114]),k4]))
noncomputable def k36:T Bb:=.node (some (.list [(.tup [k14,k26,k5]),(.tup [(.str [78,46,48]),k26,k5])])) .nil .nil
noncomputable def SKH:T Bb:=(.node none (.node none (.node none (.node k0 (.node k0 (.node k0 (.node k0 (.node k0 k2 (.node k0 k6 k1)) (.node k0 (.node (some (.ns [(48,(.str [85,73,110,116,54,52])),(55,(.ref 320)),k7,k8,k9,(22,(.ref 321))])) k1 k1) k2)) (.node k0 (.node k0 k2 (.node k0 k1 (.node (some (.ns [(48,(.str [82,101,102])),(55,(.ref 928)),(66,k5),k8,(34,(.bool true)),(22,(.ref 929))])) .nil .nil))) (.node k0 k11 (.node (some (.cell (some (.ref 480)))) k1 k1)))) (.node (some (.ns [(48,(.str [78,117,109,98,101,114])),(55,(.ref 48)),(66,k5),k12,k9,(22,(.ref 49))])) (.node k10 (.node k0 (.node (some (.cell (some (.ref 272)))) k13 k1) k16) (.node k0 k2 (.node k0 (.node (some (.cell (some (.ref 720)))) .nil .nil) k1))) (.node k0 (.node k0 (.node k0 (.node (some (.cell (some (.ref 560)))) .nil .nil) (.node (some (.ns [(48,(.str [83,117,98,65,114,114,97,121])),(55,(.ref 816)),(66,(.tup [k3,k17,(.tup [k18,k19])])),k8,(34,(.bool true)),(22,(.ref 817))])) .nil .nil)) k2) (.node k20 k16 k22)))) (.node k0 (.node k0 (.node k0 (.node (some (.cell (some (.ref 136)))) k2 k22) (.node k0 (.node k0 k13 k21) k16)) (.node k20 (.node k0 (.node k0 k1 (.node (some (.list [k19,k18])) .nil .nil)) k2) (.node k0 (.node k0 (.node (some (.cell (some (.ref 616)))) .nil .nil) k21) (.node k0 (.node (some (.list [(.tup [(.str [97]),k5]),(.tup [(.str [105]),k5])])) .nil .nil) k23)))) (.node k0 (.node k0 (.node k0 k2 (.node (some (.cell (some (.ref 408)))) k1 k1)) (.node k10 (.node k0 k1 (.node (some (.list [(.tup [(.str [115,116,97,114,116]),k18]),(.tup [(.str [115,116,111,112]),k18])])) .nil .nil)) k2)) (.node k0 (.node (some (.ns [(48,(.str [73,110,116,56])),(55,(.ref 184)),k24,k8,k9,(22,(.ref 185))])) k2 (.node k0 k1 (.node (some (.list [(.tup [(.str [110,117,109]),k18]),(.tup [(.str [100,101,110]),k18])])) .nil .nil))) (.node k0 (.node k20 k1 (.node (some (.list [(.tup [(.str [115,116,97,114,116]),k18]),(.tup [(.str [115,116,101,112]),k18]),(.tup [(.str [115,116,111,112]),k18])])) .nil .nil)) k2))))) (.node (some (.dict [([65,110,121],(.obj 5 8)),([84,121,112,101],(.obj 5 13)),([70,117,110,99,116,105,111,110],(.obj 5 30)),([78,117,109,98,101,114],(.obj 5 47)),([65,98,115,116,114,97,99,116,67,104,97,114],(.obj 5 64)),([65,98,115,116,114,97,99,116,83,116,114,105,110,103],(.obj 5 81)),([69,120,99,101,112,116,105,111,110],(.obj 5 98)),([82,101,97,108],(.obj 5 115)),([73,110,116,101,103,101,114],(.obj 5 132)),([83,105,103,110,101,100],(.obj 5 149)),([85,110,115,105,103,110,101,100],(.obj 5 166)),([73,110,116,56],(.obj 5 183)),([73,110,116,49,54],(.obj 5 200)),([73,110,116,51,50],(.obj 5 217)),([73,110,116,54,52],(.obj 5 234)),([66,105,103,73,110,116],(.obj 5 251)),([85,73,110,116,56],(.obj 5 268)),([85,73,110,116,49,54],(.obj 5 285)),([85,73,110,116,51,50],(.obj 5 302)),([85,73,110,116,54,52],(.obj 5 319)),([66,111,111,108],(.obj 5 336)),([67,104,97,114],(.obj 5 353)),([83,116,114,105,110,103],(.obj 5 370)),([83,121,109,98,111,108],(.obj 5 387)),([78,111,116,104,105,110,103],(.obj 5 404)),([69,120,112,114],(.obj 5 422)),([68,105,118,105,100,101,69,114,114,111,114],(.obj 5 459)),([73,110,101,120,97,99,116,69,114,114,111,114],(.obj 5 476)),([84,121,112,101,69,114,114,111,114],(.obj 5 493)),([83,116,97,99,107,79,118,101,114,102,108,111,119,69,114,114,111,114],(.obj 5 510)),([65,114,103,117,109,101,110,116,69,114,114,111,114],(.obj 5 528)),([79,118,101,114,102,108,111,119,69,114,114,111,114],(.obj 5 556)),([68,105,109,101,110,115,105,111,110,77,105,115,109,97,116,99,104],(.obj 5 584)),([69,114,114,111,114,69,120,99,101,112,116,105,111,110],(.obj 5 612)),([77,101,116,104,111,100,69,114,114,111,114],(.obj 5 640)),([65,109,98,105,103,117,111,117,115,69,114,114,111,114],(.obj 5 678)),([85,110,100,101,102,86,97,114,69,114,114,111,114],(.obj 5 716)),([66,111,117,110,100,115,69,114,114,111,114],(.obj 5 744)),([65,98,115,116,114,97,99,116,65,114,114,97,121],(.obj 5 781)),([65,114,114,97,121],(.obj 5 797)),([83,117,98,65,114,114,97,121],(.obj 5 815)),([65,98,115,116,114,97,99,116,82,97,110,103,101],(.obj 5 834)),([85,110,105,116,82,97,110,103,101],(.obj 5 856)),([83,116,101,112,82,97,110,103,101],(.obj 5 888)),([82,101,102],(.obj 5 927)),([82,97,116,105,111,110,97,108],(.obj 5 952)),([77],(.obj 5 984)),([78],(.obj 5 1002))])) (.node k0 (.node k20 (.node (some (.cell (some (.ref 68)))) (.node k0 k25 (.node (some (.ns [(48,(.str [83,121,109,98,111,108])),(55,(.ref 388)),(66,k5),k8,k9,(22,(.ref 389))])) (.node (some (.cell (some (.ref 644)))) .nil .nil) (.node (some (.list [(.tup [k18,k4])])) .nil .nil))) (.node k0 k27 k2)) (.node k0 (.node k0 k28 (.node k10 (.node (some (.dict [([102],k5),([97,114,103,115],k5)])) .nil .nil) k15)) (.node k0 (.node k0 k13 (.node (some (.list [(.tup [k18,k4])])) .nil .nil)) k2))) (.node k0 (.node k0 (.node k10 (.node k0 (.node (some (.cell (some (.ref 532)))) .nil .nil) k1) k2) (.node k0 (.node (some (.cell (some (.ref 340)))) k1 k1) k2)) (.node (some (.ns [(48,(.str [82,101,97,108])),(55,(.ref 116)),(66,(.tup [k3,(.str [78,117,109,98,101,114]),k4])),k12,k9,(22,(.ref 117))])) (.node k0 (.node k20 k1 (.node (some (.list [k14,(.str [78,46,48])])) .nil .nil)) k2) k29))) (.node k0 (.node k0 (.node k0 (.node k0 (.node k0 k1 (.node (some (.dict [([97],k5),([105],k5)])) .nil .nil)) k2) (.node (some (.cell (some (.ref 204)))) (.node k0 (.node (some (.cell (some (.ref 588)))) .nil .nil) (.node (some (.list [k18,k30])) .nil .nil)) (.node (some (.ns [(48,(.str [68,105,118,105,100,101,69,114,114,111,114])),(55,(.ref 460)),k31,k8,k9,(22,(.ref 461))])) (.node (some (.list [(.tup [(.str [118,97,114]),k5])])) .nil .nil) k1))) (.node k0 (.node k20 (.node k0 k13 k1) (.node k20 k21 k1)) (.node k0 k2 (.node k10 (.node (some (.cell (some (.ref 748)))) .nil .nil) k1)))) (.node k0 (.node k0 (.node k0 k11 k2) (.node k0 (.node k0 k1 (.node (some (.cell (some (.ref 860)))) .nil .nil)) (.node k0 k1 (.node (some (.cell (some (.ref 988)))) .nil .nil)))) (.node k0 (.node k0 k2 (.node k0 k1 (.node (some (.cell (some (.ref 956)))) .nil .nil))) (.node (some (.ns [(48,(.str [66,105,103,73,110,116])),(55,(.ref 252)),k24,k8,k9,(22,(.ref 253))])) (.node k0 k1 (.node (some (.cell (some (.ref 892)))) .nil .nil)) (.node k0 k1 .nil))))))) (.node none (.node k0 (.node k0 (.node (some (.cell (some (.ref 34)))) (.node k0 (.node k0 (.node k0 (.node (some (.cell (some (.ref 514)))) .nil .nil) k1) (.node k10 k1 k32)) (.node k0 k27 k2)) (.node k0 (.node k0 k28 (.node k0 k1 (.node (some (.list [(.tup [(.str [120]),k18])])) .nil .nil))) (.node k0 (.node (some (.ns [(48,(.str [67,104,97,114])),(55,(.ref 354)),(66,(.tup [k3,(.str [65,98,115,116,114,97,99,116,67,104,97,114]),k4])),k8,k9,(22,(.ref 355))])) k33 k32) k34))) (.node k0 (.node (some (.ns [(48,(.str [65,98,115,116,114,97,99,116,83,116,114,105,110,103])),(55,(.ref 82)),(66,k5),k12,k9,(22,(.ref 83))])) (.node k0 (.node k20 k1 (.node (some (.list [k14,(.str [78,46,48])])) .nil .nil)) k2) (.node k0 k2 k25)) (.node k10 (.node k0 (.node (some (.cell (some (.ref 306)))) k21 k1) k2) k29))) (.node k0 (.node k0 (.node k0 (.node k20 k2 k2) (.node k0 k2 (.node (some (.dict [([104,101,97,100],(.tup [k3,(.str [83,121,109,98,111,108]),k4])),([97,114,103,115],k5)])) (.node (some (.dict [([102],k5),([97,114,103,115],k5)])) .nil .nil) k1))) (.node k0 (.node (some (.cell (some (.ref 170)))) (.node k0 k33 k1) (.node (some (.cell (some (.ref 426)))) (.node (some (.cell (some (.ref 682)))) .nil .nil) k1)) (.node k0 k25 k2))) (.node k0 (.node k0 (.node k0 k2 k34) (.node (some (.ns [(48,(.str [73,110,116,51,50])),(55,(.ref 218)),k24,k8,k9,(22,(.ref 219))])) k27 k2)) (.node k0 (.node k0 (.node k0 k1 (.node (some (.list [k19,k18])) .nil .nil)) (.node k0 k1 (.node (some (.list [(.tup [k14,k26,(.tup [k3,(.str [73,110,116,101,103,101,114]),k4])])])) .nil .nil))) (.node k10 k27 (.node k0 k1 k23)))))) (.node (some (.ns [(48,(.str [84,121,112,101])),(55,(.ref 14)),(66,k5),k12,k9,(22,(.ref 15))])) (.node k0 (.node k0 (.node k20 (.node k0 k2 k25) (.node k0 (.node k0 k33 (.node (some (.cell (some (.ref 838)))) .nil .nil)) k2)) (.node (some (.cell (some (.ref 102)))) (.node k0 k2 (.node (some (.list [(.tup [(.str [104,101,97,100]),(.tup [k3,(.str [83,121,109,98,111,108]),k4])]),(.tup [(.str [97,114,103,115]),k5])])) k6 k1)) (.node k0 k2 (.node k0 (.node (some (.dict [([118,97,114],k5)])) .nil .nil) k1)))) (.node k0 (.node k0 (.node (some (.ns [(48,(.str [83,105,103,110,101,100])),(55,(.ref 150)),k35,k12,k9,(22,(.ref 151))])) k25 k22) (.node k0 k34 (.node k0 k1 (.node (some (.dict [([110,117,109],k18),([100,101,110],k18)])) .nil .nil)))) (.node k0 (.node k10 k28 (.node k0 k1 (.node (some (.dict [([120],k18)])) .nil .nil))) (.node k0 (.node (some (.cell (some (.ref 374)))) k1 k1) k2)))) (.node k0 (.node k10 (.node k0 (.node k0 (.node k0 k23 (.node (some (.ns [(48,k17),(55,(.ref 782)),(66,k5),k12,k9,(22,(.ref 783))])) .nil .nil)) k2) (.node k20 (.node k0 k21 (.node (some (.list [(.tup [k30,k4]),(.tup [k18,k4])])) .nil .nil)) k22)) (.node k0 (.node k0 k2 k22) (.node (some (.cell (some (.ref 238)))) k2 (.node (some (.ns [(48,(.str [84,121,112,101,69,114,114,111,114])),(55,(.ref 494)),k31,k8,k9,(22,(.ref 495))])) k21 (.node (some (.cell (some (.ref 1006)))) .nil .nil))))) (.node k0 (.node k0 (.node k0 (.node (some (.ns [(48,(.str [85,73,110,116,49,54])),(55,(.ref 286)),k7,k8,k9,(22,(.ref 287))])) k1 (.node (some (.ns [(48,(.str [65,114,114,97,121])),(55,(.ref 798)),(66,(.tup [k3,k17,(.tup [k18,k19])])),k8,(34,(.bool true)),(22,(.ref 799))])) .nil .nil)) (.node k0 k1 (.node (some (.dict [([115,116,97,114,116],k18),([115,116,101,112],k18),([115,116,111,112],k18)])) .nil .nil))) (.node k0 k22 k22)) (.node k0 (.node k0 k11 k22) (.node k0 (.node k0 k33 k21) (.node k0 k1 .nil)))))))) (.node none (.node none (.node (some (.ns [(48,(.str [65,110,121])),(55,(.ref 9)),(66,.none),k12,k9,(22,(.ref 10))])) (.node (some (.cell (some (.ref 17)))) (.node k0 (.node (some (.ns [(48,(.str [65,98,115,116,114,97,99,116,67,104,97,114])),(55,(.ref 65)),(66,k5),k12,k9,(22,(.ref 66))])) (.node k0 (.node k20 k1 k21) (.node k0 (.node (some (.ns [(48,(.str [77,101,116,104,111,100,69,114,114,111,114])),(55,(.ref 641)),k31,k8,k9,(22,(.ref 642))])) .nil .nil) k1)) (.node k0 (.node k0 k1 k23) k2)) (.node k10 (.node k0 (.node (some (.cell (some (.ref 289)))) k1 (.node (some (.cell (some (.ref 801)))) .nil .nil)) k27) k29)) (.node k0 (.node k0 (.node k0 (.node k0 (.node (some (.ns [(48,(.str [65,114,103,117,109,101,110,116,69,114,114,111,114])),(55,(.ref 529)),k31,k8,k9,(22,(.ref 530))])) .nil .nil) (.node (some (.cell (some (.ref 785)))) .nil .nil)) k2) (.node k0 (.node (some (.ns [(48,(.str [66,111,111,108])),(55,(.ref 337)),k35,k8,k9,(22,(.ref 338))])) k1 k1) k34)) (.node k0 (.node k0 (.node k0 k1 k36) k2) (.node k0 k11 (.node (some (.cell (some (.ref 497)))) k1 k1))))) (.node k0 (.node k0 (.node k0 (.node k0 k2 (.node k20 k1 k15)) (.node (some (.ns [(48,(.str [73,110,116,49,54])),(55,(.ref 201)),k24,k8,k9,(22,(.ref 202))])) (.node k0 (.node (some (.ns [(48,(.str [68,105,109,101,110,115,105,111,110,77,105,115,109,97,116,99,104])),(55,(.ref 585)),k31,k8,k9,(22,(.ref 586))])) .nil .nil) k15) k2)) (.node k0 (.node k0 (.node k0 k1 (.node (some (.list [(.tup [k19,k4]),(.tup [k18,k4])])) .nil .nil)) (.node (some (.list [(.tup [(.str [104,101,97,100]),(.tup [k3,(.str [83,121,109,98,111,108]),k4])]),(.tup [(.str [97,114,103,115]),k5])])) k6 k1)) (.node k10 k16 (.node k0 (.node (some (.ns [(48,(.str [66,111,117,110,100,115,69,114,114,111,114])),(55,(.ref 745)),k31,k8,k9,(22,(.ref 746))])) .nil .nil) k1)))) (.node k0 (.node k0 (.node (some (.cell (some (.ref 153)))) k2 k25) (.node k0 (.node k0 k1 (.node (some (.ns [(48,(.str [85,110,105,116,82,97,110,103,101])),(55,(.ref 857)),(66,(.tup [k3,(.str [65,98,115,116,114,97,99,116,82,97,110,103,101]),(.tup [k18])])),k8,k9,(22,(.ref 858))])) .nil .nil)) (.node k0 k1 (.node (some (.ns [(48,(.str [77])),(55,(.ref 985)),(66,k5),k8,k9,(22,(.ref 986))])) .nil .nil)))) (.node k20 (.node k0 (.node k0 k1 (.node (some (.list [k18,k19])) .nil .nil)) (.node k0 k1 (.node (some (.ns [(48,(.str [82,97,116,105,111,110,97,108])),(55,(.ref 953)),(66,(.tup [k3,(.str [82,101,97,108]),k4])),k8,k9,(22,(.ref 954))])) .nil .nil))) (.node k0 (.node k0 k1 (.node (some (.ns [(48,(.str [83,116,101,112,82,97,110,103,101])),(55,(.ref 889)),(66,(.tup [k3,(.str [65,98,115,116,114,97,99,116,82,97,110,103,101]),(.tup [k18])])),k8,k9,(22,(.ref 890))])) .nil .nil)) k2))))) (.node k0 (.node k0 (.node k0 (.node k0 (.node (some (.ns [(48,(.str [73,110,116,101,103,101,114])),(55,(.ref 133)),(66,(.tup [k3,(.str [82,101,97,108]),k4])),k12,k9,(22,(.ref 134))])) k2 k2) (.node k0 k34 k2)) (.node k0 (.node k10 k2 k22) (.node k0 (.node (some (.cell (some (.ref 357)))) (.node (some (.ns [(48,(.str [69,114,114,111,114,69,120,99,101,112,116,105,111,110])),(55,(.ref 613)),k31,k8,k9,(22,(.ref 614))])) .nil .nil) k1) k2))) (.node k20 (.node (some (.cell (some (.ref 85)))) (.node k0 k2 (.node (some (.ns [(48,(.str [78,111,116,104,105,110,103])),(55,(.ref 405)),(66,k5),k8,k9,(22,(.ref 406))])) k1 k1)) k29) (.node k0 (.node k0 k22 (.node k20 k21 k1)) k29))) (.node k10 (.node k0 (.node k0 (.node k0 (.node (some (.ns [(48,(.str [85,73,110,116,56])),(55,(.ref 269)),k7,k8,k9,(22,(.ref 270))])) k1 k36) k2) (.node k0 (.node k0 k1 (.node (some (.list [k30,k18])) .nil .nil)) (.node k0 (.node (some (.ns [(48,(.str [85,110,100,101,102,86,97,114,69,114,114,111,114])),(55,(.ref 717)),k31,k8,k9,(22,(.ref 718))])) .nil .nil) k1))) (.node k0 (.node k0 (.node k10 (.node (some (.ns [(48,(.str [79,118,101,114,102,108,111,119,69,114,114,111,114])),(55,(.ref 557)),k31,k8,k9,(22,(.ref 558))])) .nil .nil) k1) k2) k29)) (.node k0 (.node k0 (.node k0 (.node k0 k1 k23) k2) (.node (some (.cell (some (.ref 221)))) k16 (.node (some (.ns [(48,(.str [73,110,101,120,97,99,116,69,114,114,111,114])),(55,(.ref 477)),k31,k8,k9,(22,(.ref 478))])) k1 k1))) (.node k0 (.node k20 k2 k16) (.node k0 k16 (.node k10 k1 .nil))))))) (.node (some (.ns [(18,(.ref 11))])) (.node k0 (.node k20 (.node k0 (.node k0 (.node k10 k2 (.node k0 k6 k32)) (.node k0 (.node (some (.cell (some (.ref 323)))) k1 (.node (some (.ns [(48,(.str [65,98,115,116,114,97,99,116,82,97,110,103,101])),(55,(.ref 835)),(66,(.tup [k3,k17,(.tup [k18,k30])])),k12,k9,(22,(.ref 836))])) .nil .nil)) k2)) (.node (some (.ns [(48,(.str [69,120,99,101,112,116,105,111,110])),(55,(.ref 99)),(66,k5),k12,k9,(22,(.ref 100))])) (.node k0 (.node k20 k1 k21) (.node k0 k1 (.node (some (.cell (some (.ref 931)))) .nil .nil))) (.node k0 (.node k0 k1 k32) k2))) (.node (some (.cell (some (.ref 51)))) (.node k0 (.node k0 (.node k0 k13 k21) k11) k29) (.node k0 (.node k0 (.node k0 k1 (.node (some (.cell (some (.ref 819)))) .nil .nil)) k2) (.node k0 (.node (some (.ns [(48,(.str [83,116,114,105,110,103])),(55,(.ref 371)),(66,(.tup [k3,(.str [65,98,115,116,114,97,99,116,83,116,114,105,110,103]),k4])),k8,k9,(22,(.ref 372))])) k21 k1) k34)))) (.node k0 (.node k0 (.node k0 (.node k0 k11 k2) (.node k0 (.node k0 k13 k1) k2)) (.node k0 k29 (.node (some (.ns [(48,(.str [73,110,116,54,52])),(55,(.ref 235)),k24,k8,k9,(22,(.ref 236))])) k2 (.node k0 (.node (some (.list [(.tup [(.str [97]),k5]),(.tup [(.str [105]),k5])])) .nil .nil) (.node (some (.ns [(48,(.str [78])),(55,(.ref 1003)),(66,k5),k8,k9,(22,(.ref 1004))])) .nil .nil))))) (.node k0 (.node k0 (.node k20 k2 k2) (.node k0 (.node k0 k1 (.node (some (.list [(.tup [(.str [115,116,97,114,116]),k18]),(.tup [(.str [115,116,111,112]),k18])])) .nil .nil)) (.node k10 k21 k1))) (.node k0 (.node (some (.cell (some (.ref 187)))) (.node k0 k21 (.node (some (.list [(.tup [k19,k4]),(.tup [k18,k4])])) .nil .nil)) (.node k0 k1 (.node (some (.list [(.tup [(.str [110,117,109]),k18]),(.tup [(.str [100,101,110]),k18])])) .nil .nil))) (.node k0 (.node k0 k1 (.node (some (.list [(.tup [(.str [115,116,97,114,116]),k18]),(.tup [(.str [115,116,101,112]),k18]),(.tup [(.str [115,116,111,112]),k18])])) .nil .nil)) (.node k0 k1 .nil)))))) (.node k0 (.node k0 (.node k0 (.node k0 (.node k0 k2 (.node (some (.cell (some (.ref 391)))) k1 k1)) (.node k10 k16 k22)) (.node k0 (.node (some (.ns [(48,(.str [85,110,115,105,103,110,101,100])),(55,(.ref 167)),k35,k12,k9,(22,(.ref 168))])) (.node k0 k1 (.node (some (.list [k18,k19])) .nil .nil)) (.node (some (.ns [(48,(.str [69,120,112,114])),(55,(.ref 423)),(66,k5),k8,(34,(.bool true)),(22,(.ref 424))])) (.node (some (.ns [(48,(.str [65,109,98,105,103,117,111,117,115,69,114,114,111,114])),(55,(.ref 679)),k31,k8,k9,(22,(.ref 680))])) .nil .nil) k1)) (.node k0 (.node k20 k13 k1) k2))) (.node k0 (.node k20 (.node k0 k2 k16) (.node k0 (.node k0 k21 k23) k2)) (.node (some (.cell (some (.ref 119)))) (.node k0 k2 (.node k0 k1 (.node (some (.list [(.tup [k14,k26,(.tup [k3,(.str [73,110,116,101,103,101,114]),k4])])])) .nil .nil))) (.node k0 (.node k0 k1 (.node (some (.dict [([115,116,97,114,116],k18),([115,116,111,112],k18)])) .nil .nil)) k25)))) (.node (some (.ns [(48,(.str [70,117,110,99,116,105,111,110])),(55,(.ref 31)),(66,k5),k12,k9,(22,(.ref 32))])) (.node k0 (.node k0 (.node k0 (.node k0 k1 k36) (.node k0 k21 k21)) (.node k0 k11 (.node (some (.cell (some (.ref 463)))) (.node (some (.list [(.tup [(.str [118,97,114]),k5])])) .nil .nil) k15))) (.node k0 (.node k0 (.node (some (.ns [(48,(.str [85,73,110,116,51,50])),(55,(.ref 303)),k7,k8,k9,(22,(.ref 304))])) k13 k23) k16) (.node k0 k22 k2))) (.node k10 (.node k0 (.node k0 (.node k0 k21 k36) (.node k0 k1 (.node (some (.list [(.tup [(.str [120]),k18])])) .nil .nil))) (.node k20 k16 k2)) (.node k0 (.node k0 k2 (.node k20 k21 k1)) (.node (some (.cell (some (.ref 255)))) k16 (.node (some (.ns [(48,(.str [83,116,97,99,107,79,118,101,114,102,108,111,119,69,114,114,111,114])),(55,(.ref 511)),k31,k8,k9,(22,(.ref 512))])) k1 .nil)))))))))
noncomputable def sm:St:=⟨1018,1018,SKH⟩
noncomputable def kM:D:=.tup [.str [110,97,109,101],.str [77],.tup []]
noncomputable def kN:D:=.tup [.str [110,97,109,101],.str [78],.tup []]
noncomputable def kA:D:=.tup [.str [110,97,109,101],.str [65,110,121],.tup []]
noncomputable def kB:D:=.tup [.str [117,110,105,111,110],.tup [kM,kN]]
noncomputable def s1:D:=.str [83,46,49]
noncomputable def tK (x:D) (l:List D):D:=.tup [.str [116,117,112,108,101],.tup (.tup [.str [102,110],x] :: l),.none]
noncomputable def aK (x k:D) (l:List D):D:=.tup [.str [97,108,108],s1,k,k,tK x (.tup [.str [118,97,114],s1] :: l)]
noncomputable def Bu (x:D):List D:=[tK x [kM],tK x [kN],tK x [kA],tK x [kB],
  tK x [kM,kM],tK x [kM,kN],tK x [kM,kA],tK x [kM,kB],tK x [kN,kM],tK x [kN,kN],tK x [kN,kA],tK x [kN,kB],
  tK x [kA,kM],tK x [kA,kN],tK x [kA,kA],tK x [kA,kB],tK x [kB,kM],tK x [kB,kN],tK x [kB,kA],tK x [kB,kB],
  aK x kM [],aK x kN [],aK x kM [kM],aK x kM [kN],aK x kM [kA],aK x kM [kB],aK x kN [kM],aK x kN [kN],aK x kN [kA],aK x kN [kB]]
noncomputable def Bm:List Nat:=[0,1,2,3,4,5,6,7,8,9,10,11,12,13,14,15,16,17,18,19,0,1,4,5,6,7,8,9,10,11]
noncomputable def Eb (l:List D) (i:Nat):D:=Option.rec (motive:=fun _=>D) .none (fun d=>d) (D0 l i)
noncomputable def Df (l:List Nat) (i:Nat):Nat:=Option.rec (motive:=fun _=>Nat) 0 (fun d=>d) (D0 l i)
noncomputable def isB (r:Bool) (x:Ans):Bool:=Option.rec (motive:=fun _=>Bool) false (fun p=>D.rec (motive_1:=fun _=>Bool) (motive_2:=fun _=>PUnit) false (fun b=>Di b r) (fun _=>false) (fun _=>false) (fun _ _=>false) (fun _=>false) (fun _ _=>false) false ⟨⟩ (fun _ _ _ _=>⟨⟩) p.1) x
noncomputable def Fs (d:D) (i:Nat) (ds:List D) (ws:List Nat):Bool:=List.rec (motive:=fun _=>List Nat→Bool) (fun _=>true) (fun e _ ih ws=>List.rec (motive:=fun _=>Bool) false (fun j r _=>ifB (isB (Nat.beq i j) (run FNS 40 43 [.obj 6 6,d,e] sm fun d st=>some (d,st))) (ih r) false) ws) ds ws
section
variable {w:World}
noncomputable def Jp:List Nat→List Nat→Bool
  | [],[]=>true
  | a :: r,b :: s=>Nat.beq a b && Jp r s
  | _,_=>false
theorem R8:∀ {a b:List Nat},Jp a b = true→a = b
  | [],[],_=>rfl
  | a :: r,b :: s,h=>by
    have h:(Nat.beq a b && Jp r s) = true:=h
    rw [Bool.and_eq_true] at h
    rw [Nat.eq_of_beq_eq_true h.1,R8 h.2]
  | [],b :: s,h=>by cases h
  | a :: r,[],h=>by cases h
mutual
noncomputable def cv (x:Option (List Nat)) (n0:Nat) (ρ:Nat→Nat):D→D→Bool
  | .none,d=>match d with | .none=>true | _=>false
  | .bool a,d=>match d with | .bool b=>a == b | _=>false
  | .int a,d=>match d with | .int b=>decide (a = b) | _=>false
  | .str a,d=>match d with | .str b=>Jp a b | _=>false
  | .sym,d=>match d with | .str b=>(match x with | some l=>Jp l b | none=>false) | _=>false
  | .ref a,d=>match d with | .ref b=>Nat.blt a n0 && Nat.beq (ρ a) b | _=>false
  | .obj C a,d=>match d with | .obj C' b=>Nat.beq C C' && (Nat.blt a n0 && Nat.beq (ρ a) b) | _=>false
  | .tup xs,d=>match d with | .tup ys=>cvL x n0 ρ xs ys | _=>false
noncomputable def cvL (x:Option (List Nat)) (n0:Nat) (ρ:Nat→Nat):List D→List D→Bool
  | [],ys=>match ys with | []=>true | _=>false
  | a :: r,ys=>match ys with | b :: s=>cv x n0 ρ a b && cvL x n0 ρ r s | []=>false
end
section
variable {σ σ':Sg} {N n0:Nat} {h:Heap} {x:Option (List Nat)} {ρ:Nat→Nat}
theorem zhb {ds:List D} (e:cvL x n0 ρ ds [] = true):RL σ' n0 h [] ds:=by
  cases ds with
  | nil=>exact .nil
  | cons a r=>exact absurd e Bool.false_ne_true
theorem zeX {v:Value} {vs:List Value} {d:D} {ds:List D} (p:∀ d',cv x n0 ρ d' d = true→R σ' n0 h v d') (q:∀ ds',cvL x n0 ρ ds' ds = true→RL σ' n0 h vs ds') (ds':List D) (e:cvL x n0 ρ ds' (d :: ds) = true):RL σ' n0 h (v :: vs) ds':=by
  cases ds' with
  | nil=>exact absurd e Bool.false_ne_true
  | cons a r=>
    have e:=Bool.and_eq_true_iff.mp (show (cv x n0 ρ a _ && cvL x n0 ρ r _) = true from e)
    exact .cons (p a e.1) (q r e.2)
theorem R.cv (hx:∀ l,x = some l→σ'.nm.cps.toList = l ∧ PyData.strOk σ'.nm = true) (ha:∀ n,n < n0→σ'.a n = σ.a (ρ n)) {v:Value} {d:D} (r:R σ N h v d):∀ d':D,cv x n0 ρ d' d = true→R σ' n0 h v d':=by
  refine R.rec (motive_1:=fun v d _=>∀ d':D,Mine.cv x n0 ρ d' d = true→R σ' n0 h v d') (motive_2:=fun vs ds _=>∀ ds':List D,cvL x n0 ρ ds' ds = true→RL σ' n0 h vs ds') (fun d' e=>?_) (fun b d' e=>?_) (fun b t d' e=>?_) (fun s t q d' e=>?_) (fun t q d' e=>?_) (fun {a o vs n xs} h1 h2 h3 _ ih d' e=>?_) (fun b hn d' e=>?_) (fun {a} C' b hC hn hg d' e=>?_) (fun _ e=>zhb e) (fun _ _ p q=>zeX p q) r
  · cases d' with | none=>exact .none | _=>exact absurd e Bool.false_ne_true
  · cases d' with
    | bool a=>
      have:a = b:=beq_iff_eq.mp (show (a == b) = true from e)
      subst this; exact .bool _
    | _=>exact absurd e Bool.false_ne_true
  · cases d' with
    | int a=>
      have:a = b:=of_decide_eq_true (show decide (a = b) = true from e)
      subst this; exact .int _ _
    | _=>exact absurd e Bool.false_ne_true
  · cases d' with
    | str a=>
      have:=R8 (show Jp a s.cps.toList = true from e)
      subst this; exact .str _ _ q
    | sym=>
      cases x with
      | none=>exact absurd e Bool.false_ne_true
      | some l=>
        have:=R8 (show Jp l s.cps.toList = true from e)
        obtain ⟨h1,h2⟩:=hx l rfl
        have:s = σ'.nm:=zgR (this.symm.trans h1.symm)
        subst this; exact .sym t h2
    | _=>exact absurd e Bool.false_ne_true
  · cases d' <;> exact absurd e Bool.false_ne_true
  · cases d' with
    | tup xs=>exact .tup h1 h2 h3 (ih xs e)
    | _=>exact absurd e Bool.false_ne_true
  · cases d' with
    | ref a=>
      have e:=Bool.and_eq_true_iff.mp (show (Nat.blt a n0 && Nat.beq (ρ a) b) = true from e)
      have l:=Nat.blt_eq.mp e.1
      have q:=Nat.eq_of_beq_eq_true e.2
      subst q
      rw [← ha a l]; exact .ref a l
    | _=>exact absurd e Bool.false_ne_true
  · cases d' with
    | obj C a=>
      have e:=Bool.and_eq_true_iff.mp (show (Nat.beq C C' && (Nat.blt a n0 && Nat.beq (ρ a) b)) = true from e)
      have e2:=Bool.and_eq_true_iff.mp e.2
      have l:=Nat.blt_eq.mp e2.1
      have q:=Nat.eq_of_beq_eq_true e2.2
      have q2:=Nat.eq_of_beq_eq_true e.1
      subst q q2
      exact .obj _ a hC l (by rw [ha a l]; exact hg)
    | _=>exact absurd e Bool.false_ne_true
theorem RL.cv (hx:∀ l,x = some l→σ'.nm.cps.toList = l ∧ PyData.strOk σ'.nm = true) (ha:∀ n,n < n0→σ'.a n = σ.a (ρ n)) {vs:List Value} {ds:List D} (r:RL σ N h vs ds):∀ ds':List D,cvL x n0 ρ ds' ds = true→RL σ' n0 h vs ds':=
  RL.ind (P:=fun vs ds=>∀ ds':List D,cvL x n0 ρ ds' ds = true→RL σ' n0 h vs ds') (fun _ e=>zhb e) (fun p _ q=>zeX (p.cv hx ha) q) r
noncomputable def cvD (x:Option (List Nat)) (n0:Nat) (ρ:Nat→Nat):List (List Nat × D)→List (List Nat × D)→Bool
  | [],[]=>true
  | p :: r,q :: s=>Jp p.1 q.1 && cv x n0 ρ p.2 q.2 && cvD x n0 ρ r s
  | _,_=>false
noncomputable def cvN (x:Option (List Nat)) (n0:Nat) (ρ:Nat→Nat):List (Nat × D)→List (Nat × D)→Bool
  | [],[]=>true
  | p :: r,q :: s=>Nat.beq p.1 q.1 && cv x n0 ρ p.2 q.2 && cvN x n0 ρ r s
  | _,_=>false
noncomputable def cvO (x:Option (List Nat)) (n0:Nat) (ρ:Nat→Nat):Bb→Bb→Bool
  | .list xs,.list ys=>cvL x n0 ρ xs ys
  | .dict xs,.dict ys=>cvD x n0 ρ xs ys
  | .ns xs,.ns ys=>cvN x n0 ρ xs ys
  | .cell none,.cell none=>true
  | .cell (some a),.cell (some b)=>cv x n0 ρ a b
  | _,_=>false
theorem RD.cv (hx:∀ l,x = some l→σ'.nm.cps.toList = l ∧ PyData.strOk σ'.nm = true) (ha:∀ n,n < n0→σ'.a n = σ.a (ρ n)) {kvs:List (Str × Value)} {ds:List (List Nat × D)} (r:RD σ N h kvs ds):∀ ds',cvD x n0 ρ ds' ds = true→RD σ' n0 h kvs ds':=by
  induction r with
  | nil=>intro ds' e; cases ds' with | nil=>exact .nil | cons a r=>exact absurd e Bool.false_ne_true
  | cons q a b ih=>
    intro ds' e
    cases ds' with
    | nil=>exact absurd e Bool.false_ne_true
    | cons p r=>
      obtain ⟨k,v⟩:=p
      have e:(Jp k _ && Mine.cv x n0 ρ v _ && cvD x n0 ρ r _) = true:=e
      rw [Bool.and_eq_true,Bool.and_eq_true] at e
      have:=R8 e.1.1
      subst this
      exact .cons q (a.cv hx ha v e.1.2) (ih r e.2)
theorem zhf:∀ {xs ys:List (Nat × D)},cvN x n0 ρ xs ys = true→xs.length = ys.length
  | [],[],_=>rfl
  | p :: r,q :: s,e=>congrArg (· + 1) (zhf (Bool.and_eq_true_iff.mp (show (Nat.beq p.1 q.1 && cv x n0 ρ p.2 q.2 && cvN x n0 ρ r s) = true from e)).2)
  | [],q :: s,e=>absurd e Bool.false_ne_true
  | p :: r,[],e=>absurd e Bool.false_ne_true
theorem zjR:∀ {xs ys:List (Nat × D)},cvN x n0 ρ xs ys = true→∀ i,(∃ a b,lk xs i = some a ∧ lk ys i = some b ∧ cv x n0 ρ a b = true) ∨ (lk xs i = none ∧ lk ys i = none)
  | [],[],_,i=>.inr ⟨rfl,rfl⟩
  | p :: r,q :: s,e,i=>by
    have e:(Nat.beq p.1 q.1 && cv x n0 ρ p.2 q.2 && cvN x n0 ρ r s) = true:=e
    rw [Bool.and_eq_true,Bool.and_eq_true] at e
    have:=Nat.eq_of_beq_eq_true e.1.1
    rw [Nm,Nm,← this]
    by_cases z:p.1 = i
    · rw [if_pos z,if_pos z]; exact .inl ⟨_,_,rfl,rfl,e.1.2⟩
    · rw [if_neg z,if_neg z]; exact zjR e.2 i
  | [],q :: s,e,i=>absurd e Bool.false_ne_true
  | p :: r,[],e,i=>absurd e Bool.false_ne_true
theorem Lo.cv (hx:∀ l,x = some l→σ'.nm.cps.toList = l ∧ PyData.strOk σ'.nm = true) (ha:∀ n,n < n0→σ'.a n = σ.a (ρ n)) {a:Addr} {o o':Bb} (r:Lo w σ N h a o) (e:cvO x n0 ρ o' o = true):Lo w σ' n0 h a o':=by
  cases o' with
  | list xs=>
    cases o with
    | list ys=>obtain ⟨vs,hl,q⟩:=r; exact ⟨vs,hl,q.cv hx ha xs e⟩
    | _=>exact absurd e Bool.false_ne_true
  | dict xs=>
    cases o with
    | dict ys=>obtain ⟨kvs,hl,q⟩:=r; exact ⟨kvs,hl,q.cv hx ha xs e⟩
    | _=>exact absurd e Bool.false_ne_true
  | ns xs=>
    cases o with
    | ns ys=>
      obtain ⟨m,hm,hz,q⟩:=r
      refine ⟨m,hm,by rw [zhf e]; exact hz,fun i y hy=>?_⟩
      have:=q i y hy
      rcases zjR e i with ⟨c,d,h1,h2,h3⟩ | ⟨h1,h2⟩
      · rw [h2] at this; rw [h1]
        obtain ⟨v,hv,rv⟩:=this
        exact ⟨v,hv,rv.cv hx ha c h3⟩
      · rw [h2] at this; rw [h1]; exact this
    | _=>exact absurd e Bool.false_ne_true
  | cell c=>
    cases o with
    | cell d=>
      obtain ⟨ov,hc,q⟩:=r
      refine ⟨ov,hc,?_⟩
      cases c with
      | none=>cases d with | none=>exact q | some d=>exact absurd e Bool.false_ne_true
      | some c=>
        cases d with
        | none=>exact absurd e Bool.false_ne_true
        | some d=>obtain ⟨v,hv,rv⟩:=q; exact ⟨v,hv,rv.cv hx ha c e⟩
    | _=>cases c <;> exact absurd e Bool.false_ne_true
end
theorem frame {b f:Nat} {st small st2:St} {ds ds':List D} {dv:D} {x:Option (List Nat)} {nm:Str} {ρ:Nat→Nat} (hx:∀ l,x = some l→nm.cps.toList = l ∧ PyData.strOk nm = true)
    (hget:∀ n o',small.get n = some o'→∃ o,st.get (ρ n) = some o ∧ cvO x small.N ρ o' o = true) (hinj:∀ n m,n < small.N→m < small.N→ρ n = ρ m→n = m) (hlt:∀ n o,small.get n = some o→n < small.N) (hb:small.base = small.N) (hN:small.N ≤ 1000000)
    (hds:cvL x small.N ρ ds' ds = true) (hdv:cv none 0 (fun n=>n) dv dv = true) (c:Hi w b small (fnA f) ds' dv st2):Hi w b st (fnA f) ds dv st:=fun vs A σ s R rm o rl k=>by
  have ha:∀ n,n < small.N→(⟨fun n=>σ.a (ρ n),nm⟩:Sg).a n = σ.a (ρ n):=fun n _=>rfl
  have os:Ok w ⟨fun n=>σ.a (ρ n),nm⟩ s.heap small:={
    top:=o.top
    obj:=fun n o' e=>by
      obtain ⟨ob,e1,e2⟩:=hget n o' e
      exact (o.obj _ _ e1).cv hx ha e2
    lt:=hlt
    inj:=fun n m o1 o2 e1 e2 q=>by
      obtain ⟨ob,f1,_⟩:=hget n o1 e1
      obtain ⟨oc,f2,_⟩:=hget m o2 e2
      exact hinj n m (hlt n _ e1) (hlt m _ e2) (o.inj _ _ _ _ f1 f2 q)
    new:=fun n o' e=>by
      obtain ⟨ob,f1,_⟩:=hget n o' e
      exact o.new _ _ f1
    bN:=Nat.le_of_eq hb
    sz:=hN }
  refine c vs A _ s R rm os (rl.cv hx ha ds' hds) fun v σ2 h' tk' o2 rv g=>?_
  have keep:∀ b o,s.heap.get? b = some o→h'.get? b = some o:=fun b ob e=>g.keptB b ob e (fun f=>f) fun n o' hb' e'=>absurd (hlt n o' e') (by rw [← hb]; exact Nat.not_lt.mpr hb')
  refine k v σ h' tk' (o.grow keep) ?_ (Aw.grow o keep)
  exact (rv.cv (x:=none) (n0:=0) (σ':=σ) (fun l e=>nomatch e) (fun n l=>absurd l (Nat.not_lt_zero n)) dv hdv).mono (.refl _ _) (Nat.zero_le _) (.all fun _ _ e=>e)
theorem Hi.mono {b b':Nat} {st st':St} {a:Addr} {ds:List D} {dv:D} (c:Hi w b st a ds dv st') (h:b ≤ b'):Hi w b' st a ds dv st':=fun vs A σ s R rm=>c vs A σ s R ⟨rm.hd,by have:=rm.dp; lia,by have:=rm.un; lia⟩
end
section
variable {w:World}
noncomputable def T.AllI {α:Type} (P:Nat→α→Prop):T α→Nat→Nat→Prop
  | .nil,_,_=>True
  | .node v l r,a,b=>(∀ x,v = some x→P b x) ∧ T.AllI P l (2 * a) (a + b) ∧ T.AllI P r (2 * a) (2 * a + b)
set_option tactic.hygienic true in
theorem T.AllI.get {α:Type} {P:Nat→α→Prop}:∀ {t:T α} {a b:Nat},T.AllI P t a b→∀ n x,t.get n = some x→P (a * n + b) x
  | .nil,a,b,_,n,x,e=>by cases n <;> cases e
  | .node v l r,a,b,h,0,x,e=>by
    rw [Nat.mul_zero,Nat.zero_add]; exact h.1 x e
  | .node v l r,a,b,h,n + 1,x,e=>by
    rw [T.get_succ] at e
    have hn:=Nat.div_add_mod n 2
    split at e
    · rename_i q
      have:=T.AllI.get h.2.1 (n / 2) x e
      have z:2 * a * (n / 2) + (a + b) = a * (n + 1) + b:=by
        rw [q,Nat.add_zero] at hn
        rw [Nat.mul_comm 2 a,Nat.mul_assoc,hn,Nat.mul_add,Nat.mul_one,Nat.add_assoc]
      rw [← z]; exact this
    · rename_i q
      have q1:n % 2 = 1:=by lia
      have:=T.AllI.get h.2.2 (n / 2) x e
      have z:2 * a * (n / 2) + (2 * a + b) = a * (n + 1) + b:=by
        have hm:n + 1 = 2 * (n / 2) + 2:=by lia
        rw [hm,Nat.mul_add,Nat.mul_comm 2 a,Nat.mul_assoc,Nat.add_assoc]
      rw [← z]; exact this
theorem T.AllI.get1 {α:Type} {P:Nat→α→Prop} {t:T α} (h:T.AllI P t 1 0) (n:Nat) (x:α) (e:t.get n = some x):P n x:=by
  have:=h.get n x e
  rwa [Nat.one_mul,Nat.add_zero] at this
noncomputable def zuc {α:Type} (f:α→Bool):Option α→Bool
  | some x=>f x
  | none=>true
noncomputable def T.allB {α:Type} (f:Nat→α→Bool):T α→Nat→Nat→Bool
  | .nil,_,_=>true
  | .node v l r,a,b=>zuc (f b) v && (T.allB f l (2 * a) (a + b) && T.allB f r (2 * a) (2 * a + b))
theorem T.allB_all {α:Type} {f:Nat→α→Bool}:∀ {t:T α} {a b:Nat},T.allB f t a b = true→T.AllI (fun n x=>f n x = true) t a b
  | .nil,_,_,_=>trivial
  | .node v l r,a,b,h=>by
    have h:=Bool.and_eq_true_iff.mp (show (zuc (f b) v && (T.allB f l (2 * a) (a + b) && T.allB f r (2 * a) (2 * a + b))) = true from h)
    have h2:=Bool.and_eq_true_iff.mp h.2
    exact ⟨fun x e=>by have:=h.1; rw [e] at this; exact this,T.allB_all h2.1,T.allB_all h2.2⟩
theorem zj6 (w:World):T.AllI (Br w) FNS 1 0:=
  ⟨(fun x e=>Option.some.inj e ▸ zfN w),⟨(fun x e=>Option.some.inj e ▸ zdx w),⟨(fun x e=>Option.some.inj e ▸ Xv w),⟨(fun x e=>nomatch e),⟨(fun x e=>Option.some.inj e ▸ Z3 w),⟨(fun x e=>Option.some.inj e ▸ Wr w),⟨(fun x e=>Option.some.inj e ▸ X2 w),trivial,trivial⟩,trivial⟩,⟨(fun x e=>Option.some.inj e ▸ V1 w),trivial,trivial⟩⟩,⟨(fun x e=>nomatch e),⟨(fun x e=>Option.some.inj e ▸ zeR w),⟨(fun x e=>Option.some.inj e ▸ zjx w),trivial,trivial⟩,trivial⟩,⟨(fun x e=>Option.some.inj e ▸ zbC w),trivial,trivial⟩⟩⟩,⟨(fun x e=>nomatch e),⟨(fun x e=>Option.some.inj e ▸ Vg w),⟨(fun x e=>Option.some.inj e ▸ Xz w),⟨(fun x e=>Option.some.inj e ▸ zcg w),trivial,trivial⟩,trivial⟩,⟨(fun x e=>Option.some.inj e ▸ Xp w),trivial,trivial⟩⟩,⟨(fun x e=>Option.some.inj e ▸ zdF w),⟨(fun x e=>Option.some.inj e ▸ zdb w),trivial,trivial⟩,⟨(fun x e=>Option.some.inj e ▸ zas w),trivial,trivial⟩⟩⟩⟩,⟨(fun x e=>Option.some.inj e ▸ zaT w),⟨(fun x e=>Option.some.inj e ▸ Y3 w),⟨(fun x e=>Option.some.inj e ▸ zbW w),⟨(fun x e=>Option.some.inj e ▸ Wq w),⟨(fun x e=>Option.some.inj e ▸ zaV w),trivial,trivial⟩,trivial⟩,⟨(fun x e=>Option.some.inj e ▸ zbD w),trivial,trivial⟩⟩,⟨(fun x e=>Option.some.inj e ▸ zbj w),⟨(fun x e=>Option.some.inj e ▸ zbu w),trivial,trivial⟩,⟨(fun x e=>Option.some.inj e ▸ Zv w),trivial,trivial⟩⟩⟩,⟨(fun x e=>Option.some.inj e ▸ zbm w),⟨(fun x e=>Option.some.inj e ▸ Tw w),⟨(fun x e=>Option.some.inj e ▸ Wy w),⟨(fun x e=>Option.some.inj e ▸ W9 w),trivial,trivial⟩,trivial⟩,⟨(fun x e=>Option.some.inj e ▸ Wd w),trivial,trivial⟩⟩,⟨(fun x e=>Option.some.inj e ▸ Uu w),⟨(fun x e=>Option.some.inj e ▸ zcf w),trivial,trivial⟩,⟨(fun x e=>Option.some.inj e ▸ zbH w),trivial,trivial⟩⟩⟩⟩⟩,⟨(fun x e=>Option.some.inj e ▸ zdE w),⟨(fun x e=>Option.some.inj e ▸ Yv w),⟨(fun x e=>Option.some.inj e ▸ zdc w),⟨(fun x e=>Option.some.inj e ▸ Yh w),⟨(fun x e=>Option.some.inj e ▸ zaD w),⟨(fun x e=>Option.some.inj e ▸ zbO w),trivial,trivial⟩,trivial⟩,⟨(fun x e=>Option.some.inj e ▸ zam w),trivial,trivial⟩⟩,⟨(fun x e=>Option.some.inj e ▸ zaN w),⟨(fun x e=>Option.some.inj e ▸ zbl w),trivial,trivial⟩,⟨(fun x e=>Option.some.inj e ▸ Wc w),trivial,trivial⟩⟩⟩,⟨(fun x e=>nomatch e),⟨(fun x e=>nomatch e),⟨(fun x e=>Option.some.inj e ▸ Yj w),⟨(fun x e=>Option.some.inj e ▸ zcO w),trivial,trivial⟩,trivial⟩,⟨(fun x e=>Option.some.inj e ▸ Wn w),trivial,trivial⟩⟩,⟨(fun x e=>Option.some.inj e ▸ zel w),⟨(fun x e=>Option.some.inj e ▸ W6 w),trivial,trivial⟩,⟨(fun x e=>Option.some.inj e ▸ Z1 w),trivial,trivial⟩⟩⟩⟩,⟨(fun x e=>Option.some.inj e ▸ zcj w),⟨(fun x e=>Option.some.inj e ▸ V3 w),⟨(fun x e=>Option.some.inj e ▸ Wm w),⟨(fun x e=>Option.some.inj e ▸ Z8 w),⟨(fun x e=>Option.some.inj e ▸ zdk w),trivial,trivial⟩,trivial⟩,⟨(fun x e=>Option.some.inj e ▸ zaE w),trivial,trivial⟩⟩,⟨(fun x e=>Option.some.inj e ▸ zaU w),⟨(fun x e=>Option.some.inj e ▸ zbp w),trivial,trivial⟩,⟨(fun x e=>Option.some.inj e ▸ zeH w),trivial,trivial⟩⟩⟩,⟨(fun x e=>Option.some.inj e ▸ Wl w),⟨(fun x e=>Option.some.inj e ▸ zaA w),⟨(fun x e=>Option.some.inj e ▸ Qq w),⟨(fun x e=>Option.some.inj e ▸ zcC w),trivial,trivial⟩,trivial⟩,⟨(fun x e=>Option.some.inj e ▸ Y4 w),trivial,trivial⟩⟩,⟨(fun x e=>Option.some.inj e ▸ zbK w),⟨(fun x e=>Option.some.inj e ▸ zbk w),trivial,trivial⟩,⟨(fun x e=>Option.some.inj e ▸ V5 w),trivial,trivial⟩⟩⟩⟩⟩⟩
theorem zj4 (w:World):∀ f F,FNS.get f = some F→Br w f F:=fun f F e=>(zj6 w).get1 f F e
noncomputable def big (A:Nat→List D→St→Option D) (d:Nat):Cal:=
  Nat.rec (motive:=fun _=>Cal) (fun _ _ _ _=>none) (fun _ ih f ds st k=>Option.rec (motive:=fun _=>Ans) (ob (FNS.get f) fun F=>V9 F ds st fun e st=>F.body ih e st k fun _ st=>k .none st) (fun dv=>k dv st) (A f ds st)) d
theorem zdY {A:Nat→List D→St→Option D} (hA:∀ f ds st dv,A f ds st = some dv→Hi w 82 st (fnA f) ds dv st):∀ d,Cx w (40 + d) (big A d)
  | 0=>fun f ds st k r h=>by cases h
  | d + 1=>fun f ds st k r h=>by
    cases q:A f ds st with
    | some dv=>
      have h:k dv st = some r:=by
        have h':Option.rec (motive:=fun _=>Ans) (ob (FNS.get f) fun F=>V9 F ds st fun e st=>F.body (big A d) e st k fun _ st=>k .none st) (fun dv=>k dv st) (A f ds st) = some r:=h
        rw [q] at h'; exact h'
      exact ⟨dv,st,h,(hA f ds st dv q).mono (by lia)⟩
    | none=>
      have h:ob (FNS.get f) (fun F=>V9 F ds st fun e st=>F.body (big A d) e st k fun _ st=>k .none st) = some r:=by
        have h':Option.rec (motive:=fun _=>Ans) (ob (FNS.get f) fun F=>V9 F ds st fun e st=>F.body (big A d) e st k fun _ st=>k .none st) (fun dv=>k dv st) (A f ds st) = some r:=h
        rw [q] at h'; exact h'
      obtain ⟨F,h1,h2⟩:=Bf.mp h
      exact zdq (zi6 w) (zj4 w f F h1) (zdY hA d) h2
end
section
variable {w:World}
noncomputable def w0:D:=.str [77]
noncomputable def w1:D:=.str [78]
noncomputable def w2:D:=.str [65,110,121]
noncomputable def w3:D:=.str [98,111,116,104]
noncomputable def wsL:List (List D):=[[w0],[w1],[w2],[w3],[w0,w0],[w0,w1],[w0,w2],[w0,w3],[w1,w0],[w1,w1],[w1,w2],[w1,w3],[w2,w0],[w2,w1],[w2,w2],[w2,w3],[w3,w0],[w3,w1],[w3,w2],[w3,w3]]
noncomputable def sgL:List (List Nat):=[[0,0,20],[1,1,21],[2,2,2],[3,3,3],[4,4,22],[5,5,23],[6,6,24],[7,7,25],[8,8,26],[9,9,27],[10,10,28],[11,11,29],[12,12,12],[13,13,13],[14,14,14],[15,15,15],[16,16,16],[17,17,17],[18,18,18],[19,19,19]]
noncomputable def Nv (u:Nat):List D:=Option.rec (motive:=fun _=>List D) [] (fun d=>d) (D0 wsL u)
noncomputable def zdM (u way:Nat):Nat:=Df (Option.rec (motive:=fun _=>List Nat) [] (fun d=>d) (D0 sgL u)) way
noncomputable def S (x:List Nat) (i:Nat):D:=Eb (Bu (.str x)) i
noncomputable def okX (x:List Nat):Prop:=x = [102] ∨ x = [103]
mutual
theorem zn3 {n0:Nat}:∀ {a b:D},cv none n0 (fun n=>n) a b = true→a = b
  | .none,b,e=>by cases b with | none=>rfl | _=>exact absurd e Bool.false_ne_true
  | .bool a,b,e=>by cases b with | bool b=>rw [beq_iff_eq.mp (show (a == b) = true from e)] | _=>exact absurd e Bool.false_ne_true
  | .int a,b,e=>by cases b with | int b=>rw [of_decide_eq_true (show decide (a = b) = true from e)] | _=>exact absurd e Bool.false_ne_true
  | .str a,b,e=>by cases b with | str b=>rw [R8 (show Jp a b = true from e)] | _=>exact absurd e Bool.false_ne_true
  | .sym,b,e=>by cases b <;> exact absurd e Bool.false_ne_true
  | .ref a,b,e=>by cases b with | ref b=>rw [Nat.eq_of_beq_eq_true (Bool.and_eq_true_iff.mp (show (Nat.blt a n0 && Nat.beq a b) = true from e)).2] | _=>exact absurd e Bool.false_ne_true
  | .obj C a,b,e=>by
    cases b with
    | obj C' b=>
      have e:=Bool.and_eq_true_iff.mp (show (Nat.beq C C' && (Nat.blt a n0 && Nat.beq a b)) = true from e)
      rw [Nat.eq_of_beq_eq_true e.1,Nat.eq_of_beq_eq_true (Bool.and_eq_true_iff.mp e.2).2]
    | _=>exact absurd e Bool.false_ne_true
  | .tup xs,b,e=>by cases b with | tup ys=>rw [zkX (show cvL none n0 (fun n=>n) xs ys = true from e)] | _=>exact absurd e Bool.false_ne_true
theorem zkX {n0:Nat}:∀ {a b:List D},cvL none n0 (fun n=>n) a b = true→a = b
  | [],b,e=>by cases b with | nil=>rfl | cons b s=>exact absurd e Bool.false_ne_true
  | a :: r,b,e=>by
    cases b with
    | nil=>exact absurd e Bool.false_ne_true
    | cons b s=>
      have e:=Bool.and_eq_true_iff.mp (show (cv none n0 (fun n=>n) a b && cvL none n0 (fun n=>n) r s) = true from e)
      rw [zn3 e.1,zkX e.2]
end
noncomputable def KAt (st:St):Prop:=1018 ≤ st.N ∧ ∀ n o,T.get SKH n = some o→st.get n = some o
theorem zuD (x:Option (List Nat)):T.allB (fun n o=>Nat.blt n 1018 && cvO x 1018 (fun n=>n) o o) SKH 1 0 = true:=by kernel_rfl
theorem zgC (x:Option (List Nat)) (n:Nat) (o:Bb) (e:T.get SKH n = some o):n < 1018 ∧ cvO x 1018 (fun n=>n) o o = true:=by
  have:=(T.allB_all (zuD x)).get1 n o e
  rw [Bool.and_eq_true,Nat.blt_eq] at this
  exact this
noncomputable def Wv (f:Nat→Bool):Nat→Bool
  | 0=>true
  | n + 1=>f n && Wv f n
theorem E7 {f:Nat→Bool}:∀ {n:Nat},Wv f n = true→∀ i,i < n→f i = true:=by
  intro n
  induction n with
  | zero=>exact fun _=>Xx
  | succ n ih=>
    intro h
    have h:=Bool.and_eq_true_iff.mp (show (f n && Wv f n) = true from h)
    exact bel (ih h.2) h.1
theorem zrz:Wv (fun i=>cv (some [102]) 1018 (fun n=>n) (Eb (Bu .sym) i) (S [102] i) && cv (some [103]) 1018 (fun n=>n) (Eb (Bu .sym) i) (S [103] i)) 30 = true:=by kernel_rfl
noncomputable def nmX (x:List Nat):Str:=⟨x.toArray⟩
theorem zoR {x:List Nat} (h:okX x):(nmX x).cps.toList = x ∧ PyData.strOk (nmX x) = true:=by
  rcases h with rfl | rfl <;> exact ⟨rfl,by kernel_rfl⟩
noncomputable def zqJ (f:Nat→Bool):Nat→Nat
  | 0=>0
  | n + 1=>if f n then n else zqJ f n
noncomputable def wdS (d:D):Nat:=Df Bm (zqJ (fun k=>cv none 0 (fun n=>n) (S [102] k) d || cv none 0 (fun n=>n) (S [103] k) d) 30)
theorem zoh:Wv (fun i=>Nat.beq (wdS (S [102] i)) (Df Bm i) && Nat.beq (wdS (S [103] i)) (Df Bm i)) 30 = true:=by kernel_rfl
theorem zg3 {x:List Nat} (h:okX x) {i:Nat} (l:i < 30):wdS (S x i) = Df Bm i:=by
  have:=E7 zoh i l
  rw [Bool.and_eq_true] at this
  rcases h with rfl | rfl
  · exact Nat.eq_of_beq_eq_true this.1
  · exact Nat.eq_of_beq_eq_true this.2
noncomputable def uOf (l:List D):Nat:=zqJ (fun k=>cvL none 0 (fun n=>n) (Nv k) l) 20
theorem zqz:Wv (fun u=>Nat.beq (uOf (Nv u)) u) 20 = true:=by kernel_rfl
theorem zeD {u:Nat} (l:u < 20):uOf (Nv u) = u:=Nat.eq_of_beq_eq_true (E7 zqz u l)
noncomputable def Xn (ds:List D) (st:St) (dv:D):Prop:=∃ x i j,okX x ∧ i < 30 ∧ j < 30 ∧ KAt st ∧ ds = [.obj 6 6,S x i,S x j] ∧ dv = .bool (Nat.beq (Df Bm i) (Df Bm j))
noncomputable def Xq (ds:List D) (st:St) (dv:D):Prop:=∃ x u way wl,okX x ∧ u < 20 ∧ way < 3 ∧ ds = [.str x,.ref wl,.int (.ofNat way)] ∧ st.get wl = some (.list (Nv u)) ∧ dv = S x (zdM u way)
theorem zfS {ds:List D} {st:St} {dv dv':D} (a:Xn ds st dv) (b:Xn ds st dv'):dv = dv':=by
  obtain ⟨x,i,j,hx,hi,hj,_,e,rfl⟩:=a
  obtain ⟨x',i',j',hx',hi',hj',_,e',rfl⟩:=b
  rw [e] at e'
  injection e' with _ e'
  injection e' with h1 e'
  injection e' with h2 _
  rw [← zg3 hx hi,← zg3 hx hj,← zg3 hx' hi',← zg3 hx' hj',h1,h2]
theorem zgi {ds:List D} {st:St} {dv dv':D} (a:Xq ds st dv) (b:Xq ds st dv'):dv = dv':=by
  obtain ⟨x,u,way,wl,hx,hu,hw,e,hl,rfl⟩:=a
  obtain ⟨x',u',way',wl',hx',hu',hw',e',hl',rfl⟩:=b
  rw [e] at e'
  injection e' with h1 e'
  injection e' with h2 e'
  injection e' with h3 _
  injection h1 with h1
  injection h2 with h2
  injection h3 with h3
  injection h3 with h3
  subst h1 h2 h3
  rw [hl] at hl'
  injection hl' with hl'
  injection hl' with hl'
  rw [← zeD hu,← zeD hu',hl']
open Classical in
noncomputable def A43 (ds:List D) (st:St):Option D:=if h:∃ dv,Xn ds st dv then some (choose h) else none
open Classical in
noncomputable def A69 (ds:List D) (st:St):Option D:=if h:∃ dv,Xq ds st dv then some (choose h) else none
theorem zpJ {ds:List D} {st:St} {dv:D} (g:Xn ds st dv):A43 ds st = some dv:=by
  have h:∃ dv,Xn ds st dv:=⟨dv,g⟩
  unfold A43
  rw [dif_pos h,zfS g (Classical.choose_spec h)]
theorem zoI {ds:List D} {st:St} {dv:D} (g:Xq ds st dv):A69 ds st = some dv:=by
  have h:∃ dv,Xq ds st dv:=⟨dv,g⟩
  unfold A69
  rw [dif_pos h,zgi g (Classical.choose_spec h)]
set_option tactic.hygienic true in
theorem zk3 {ds:List D} {st:St} {dv:D} (g:A43 ds st = some dv):Xn ds st dv:=by
  unfold A43 at g
  split at g
  · rename_i h; injection g with g; rw [← g]; exact Classical.choose_spec h
  · cases g
set_option tactic.hygienic true in
theorem zjN {ds:List D} {st:St} {dv:D} (g:A69 ds st = some dv):Xq ds st dv:=by
  unfold A69 at g
  split at g
  · rename_i h; injection g with g; rw [← g]; exact Classical.choose_spec h
  · cases g
noncomputable def orc (f:Nat) (ds:List D) (st:St):Option D:=ifB (Nat.beq f 43) (A43 ds st) (ifB (Nat.beq f 69) (A69 ds st) none)
theorem znC (w:World) {f:Nat} {ds:List D} {st st':St} {dv:D} (h:run FNS 40 f ds st (fun d st=>some (d,st)) = some (dv,st')):Hi w 82 st (fnA f) ds dv st':=by
  obtain ⟨dv',st2,e,c⟩:=zdQ (zi6 w) (zj4 w) 40 f ds st _ _ h
  injection e with e
  injection e with e1 e2
  subst e1 e2
  exact c
noncomputable def isV (d:D) (x:Ans):Bool:=Option.rec (motive:=fun _=>Bool) false (fun p=>cv none 0 (fun n=>n) p.1 d) x
theorem zke {d:D} {x:Ans} (h:isV d x = true):∃ st,x = some (d,st):=by
  cases x with
  | none=>cases h
  | some p=>
    obtain ⟨d',st⟩:=p
    have:d' = d:=zn3 (show cv none 0 (fun n=>n) d' d = true from h)
    subst this; exact ⟨st,rfl⟩
noncomputable def sWs (u:Nat):St:=⟨1,1,.node (some (.list (Nv u))) .nil .nil⟩
noncomputable def za9 (x:List Nat) (u way:Nat):Bool:=isV (S x (zdM u way)) (run FNS 40 69 [.str x,.ref 0,.int (.ofNat way)] (sWs u) fun d st=>some (d,st)) && (cv none 0 (fun n=>n) (S x (zdM u way)) (S x (zdM u way)) && cvL none 0 (fun n=>n) (Nv u) (Nv u))
theorem zp4:Wv (fun u=>za9 [102] u 0) 20 = true:=by kernel_rfl
theorem zoU:Wv (fun u=>za9 [102] u 1) 20 = true:=by kernel_rfl
theorem zoY:Wv (fun u=>za9 [102] u 2) 20 = true:=by kernel_rfl
theorem zpZ:Wv (fun u=>za9 [103] u 0) 20 = true:=by kernel_rfl
theorem zqD:Wv (fun u=>za9 [103] u 1) 20 = true:=by kernel_rfl
theorem zp8:Wv (fun u=>za9 [103] u 2) 20 = true:=by kernel_rfl
theorem zih {x:List Nat} (hx:okX x) {u:Nat} (hu:u < 20):∀ way,way < 3→za9 x u way = true:=by
  rcases hx with rfl | rfl
  · exact bel (bel (bel Xx (E7 zp4 u hu)) (E7 zoU u hu)) (E7 zoY u hu)
  · exact bel (bel (bel Xx (E7 zpZ u hu)) (E7 zqD u hu)) (E7 zp8 u hu)
theorem za8:∀ l:List Nat,Jp l l = true
  | []=>rfl
  | a :: r=>by show (Nat.beq a a && Jp r r) = true; rw [za8 r,Bool.and_true]; exact Nat.beq_refl a
theorem zoQ:∀ (l:List D) (n0:Nat) (ρ:Nat→Nat),cvL none 0 (fun n=>n) l l = true→∀ x,cvL x n0 ρ l l = true:=by
  intro l n0 ρ h x
  revert h
  refine (D.rec (motive_1:=fun d=>cv none 0 (fun n=>n) d d = true→cv x n0 ρ d d = true) (motive_2:=fun l=>cvL none 0 (fun n=>n) l l = true→cvL x n0 ρ l l = true) ?_ ?_ ?_ ?_ ?_ ?_ ?_ ?_ ?_ ?_ (D.tup l):cv none 0 (fun n=>n) (D.tup l) (D.tup l) = true→cv x n0 ρ (D.tup l) (D.tup l) = true)
  · intro h; exact h
  · intro b h; exact h
  · intro i h; exact h
  · intro s h; exact h
  · intro xs ih h; exact ih h
  · intro n h; exact absurd (show (Nat.blt n 0 && Nat.beq n n) = true from h) (by simp [Nat.blt])
  · intro C n h; exact absurd (show (Nat.beq C C && (Nat.blt n 0 && Nat.beq n n)) = true from h) (by simp [Nat.blt])
  · intro h; exact absurd h Bool.false_ne_true
  · intro h; exact h
  · intro a r iha ihr h
    have h:=Bool.and_eq_true_iff.mp (show (cv none 0 (fun n=>n) a a && cvL none 0 (fun n=>n) r r) = true from h)
    exact Bool.and_eq_true_iff.mpr ⟨iha h.1,ihr h.2⟩
theorem zhI {ds:List D} {st:St} {dv:D} (g:Xq ds st dv):Hi w 82 st (fnA 69) ds dv st:=by
  obtain ⟨x,u,way,wl,hx,hu,hw,rfl,hl,rfl⟩:=g
  have h:=zih hx hu way hw
  unfold za9 at h
  rw [Bool.and_eq_true,Bool.and_eq_true] at h
  obtain ⟨st2,hr⟩:=zke h.1
  refine frame (x:=none) (nm:="") (ρ:=fun _=>wl) (fun l e=>nomatch e) (fun n o' e=>?_) (fun n m a b _=>?_) (fun n o e=>?_) rfl (show (1:Nat) ≤ 1000000 by lia) ?_ h.2.1 (znC w hr)
  · cases n with
    | zero=>cases e; exact ⟨_,hl,zoQ _ _ _ h.2.2 none⟩
    | succ n=>
      have:=T.get_succ (sWs u).H n
      have e:T.get (sWs u).H (n + 1) = some o':=e
      rw [this] at e
      split at e
      · exact absurd (show T.get T.nil (n / 2) = some o' from e) (by cases n / 2 <;> exact fun e=>nomatch e)
      · exact absurd (show T.get T.nil (n / 2) = some o' from e) (by cases n / 2 <;> exact fun e=>nomatch e)
  · have a:n < 1:=a
    have b:m < 1:=b
    lia
  · cases n with
    | zero=>exact Nat.one_pos
    | succ n=>
      have:=T.get_succ (sWs u).H n
      have e:T.get (sWs u).H (n + 1) = some o:=e
      rw [this] at e
      split at e
      · exact absurd (show T.get T.nil (n / 2) = some o from e) (by cases n / 2 <;> exact fun e=>nomatch e)
      · exact absurd (show T.get T.nil (n / 2) = some o from e) (by cases n / 2 <;> exact fun e=>nomatch e)
  · have:(Jp x x && ((Nat.blt 0 1 && Nat.beq wl wl) && (decide ((Int.ofNat way) = Int.ofNat way) && true))) = true:=by
      rw [za8,Nat.beq_refl]; simp [Nat.blt]
    exact this
end
section
theorem znD {n N k:Nat} (h:1025 ≤ N ∧ N ≤ k) (hn:n < 1025):n < N:=Nat.lt_of_lt_of_le hn h.1
theorem nb_le' {n N k:Nat} (h:1025 ≤ N ∧ N ≤ k) (hn:n ≤ 1025):n ≤ N:=Nat.le_trans hn h.1
theorem ztO {c N k:Nat} (h:1025 ≤ N ∧ N ≤ k) (hc:k < c):N < c:=Nat.lt_of_le_of_lt h.2 hc
theorem zr8 {c N k:Nat} (h:1025 ≤ N ∧ N ≤ k) (hc:k ≤ c):N ≤ c:=Nat.le_trans h.2 hc
theorem zpM {a c N k:Nat} (h:1025 ≤ N ∧ N ≤ k) (hc:k + a ≤ c):N + a ≤ c:=Nat.le_trans (Nat.add_le_add_right h.2 a) hc
theorem zks {a c N k:Nat} (h:1025 ≤ N ∧ N ≤ k) (hc:k + a < c):N + a < c:=Nat.lt_of_le_of_lt (Nat.add_le_add_right h.2 a) hc
theorem ztg {n N k:Nat} (h:1025 ≤ N ∧ N ≤ k) (hn:n < 1025):¬ n = N:=Nat.ne_of_lt (znD h hn)
theorem zsv {n N:Nat} (h:1025 ≤ N) (hn:n < 1025):n < N:=Nat.lt_of_lt_of_le hn h
def sO:Lean.Syntax:=syB (sN `Lean.Parser.Tactic.assumption #[syA "assumption"])
def sF (a:Array Lean.Syntax):Lean.Syntax:=sQ #[sN `Lean.Parser.Tactic.first #[syA "first",sN `null (a.map fun t=>sN `group #[syA "|",sQ #[t]])]]
def tOm:Lean.Syntax:=sF (#[sD,sN `Lean.Parser.Tactic.assumption #[syA "assumption"]] ++ (#[`Mine.zsv,`Nat.lt_of_lt_of_le,`Nat.lt_of_le_of_lt,`Mine.znD,`Mine.ztO,`Mine.zr8,`Mine.nb_le',`Mine.zpM,`Mine.zks,`Mine.ztg].map fun f=>sE f #[sO,syB sD]) ++ #[sN `Lean.Parser.Tactic.lia #[syA "lia",sN `Lean.Parser.Tactic.optConfig #[sN `null #[]]]])
theorem om {p:Prop} (h:autoParam p tOm):p:=h
theorem bo {n:Nat} (h:autoParam (n ≤ 1000000) tOm):n + 1 < 2 ^ Ee:=B7 h
theorem zqh {n:Nat} (h:n = 2 ∨ n = 5):n < 6:=by lia
theorem znM {n:Nat} {P:Prop} (h:n < 6):(n ≠ 1018 ∧ n ≠ 1019 ∧ n ≠ 1020) ∧ (1025 ≤ n→P):=⟨by lia,fun h=>absurd h (by lia)⟩
theorem znA {n:Nat} {P:Prop} (h:n < 6):n ≠ 1021 ∧ (1025 ≤ n→P):=⟨by lia,fun h=>absurd h (by lia)⟩
theorem lt3 {n:Nat} (h:n = 3):n < 6:=by lia
noncomputable def obI {α β:Type} (o:Option α) [f:Inhabited (α→Option β)]:Option β:=ob o f.1
noncomputable def ifI {β:Type} (b:Bool) [x:Inhabited β] [y:Inhabited β]:β:=ifB b x.1 y.1
noncomputable def onI {β:Type} (b:Bool) [x:Inhabited (Option β)]:Option β:=Bk b x.1
theorem Xk {α β:Type} (a:α) (f:α→Option β):ob (some a) f = f a:=Eq.trans rfl rfl
theorem Y1 {β:Type} (f:Option β):Bk true f = f:=Eq.trans rfl rfl
theorem Of {β:Type} (x y:β):ifB true x y = x:=Eq.trans rfl rfl
theorem Sy {β:Type} (x y:β):ifB false x y = y:=Eq.trans rfl rfl
theorem C8 {α β:Type} (a:α) (f:α→Option β):@obI _ _ (some a) ⟨f⟩ = f a:=Eq.trans rfl rfl
theorem zpW {β:Type} (i:Int) (f:Int→Option β):Eh (.int i) f = f i:=Eq.trans rfl rfl
theorem zg7 {β:Type} (i:Bool) (f:Bool→Option β):zdr (.bool i) f = f i:=Eq.trans rfl rfl
theorem zov {β:Type} (i:List Nat) (f:List Nat→Option β):Wz (.str i) f = f i:=Eq.trans rfl rfl
theorem zqw {β:Type} (i:List D) (f:List D→Option β):zev (.tup i) f = f i:=Eq.trans rfl rfl
theorem ziZ {β:Type} (i:Nat) (f:Nat→Option β):Mb (.ref i) f = f i:=Eq.trans rfl rfl
theorem Lr {β:Type} (C i:Nat) (f:Nat→Nat→Option β):zax (.obj C i) f = f C i:=Eq.trans rfl rfl
theorem zej {β:Type} (f:Option β):Xb .none f = f:=Eq.trans rfl rfl
theorem zfb {β:Type} (f:Option β):@onI _ true ⟨f⟩ = f:=Eq.trans rfl rfl
theorem zcY {β:Type} (x y:β):@ifI _ true ⟨x⟩ ⟨y⟩ = x:=Eq.trans rfl rfl
theorem zcW {β:Type} (x y:β):@ifI _ false ⟨x⟩ ⟨y⟩ = y:=Eq.trans rfl rfl
theorem Bx {β:Type} {st:St} {n:Nat} {xs:List D} (h:st.get n = some (.list xs)) (f:List D→Option β):Au st n f = f xs:=by
  have h:T.get st.H n = some (.list xs):=h
  unfold Au; rw [h]; rfl
theorem Bo {β:Type} {st:St} {n:Nat} {xs:List (Nat × D)} (h:st.get n = some (.ns xs)) (f:List (Nat × D)→Option β):C9 st n f = f xs:=by
  have h:T.get st.H n = some (.ns xs):=h
  unfold C9; rw [h]; rfl
theorem zhK {β:Type} {st:St} {n:Nat} {xs:List (List Nat × D)} (h:st.get n = some (.dict xs)) (f:List (List Nat × D)→Option β):Np st n f = f xs:=by
  have h:T.get st.H n = some (.dict xs):=h
  unfold Np; rw [h]; rfl
theorem Bq {β:Type} {st:St} {n:Nat} {xs:Option D} (h:st.get n = some (.cell xs)) (f:Option D→Option β):C1 st n f = f xs:=by
  have h:T.get st.H n = some (.cell xs):=h
  unfold C1; rw [h]; rfl
theorem E1 {β:Type} {st:St} {n:Nat} {xs:List D} (h:st.get n = some (.list xs)) (f:List D→Option β):Dq st (.ref n) f = f xs:=Bx h f
theorem zd1 {β:Type} {st:St} {xs:List D} (f:List D→Option β):Dq st (.tup xs) f = f xs:=rfl
theorem Je {β:Type} {st:St} {n:Nat} {o:Bb} (hb:st.base ≤ n) (k:St→Option β):upd st n o k = k (st.put n o):=by
  rw [ziy,C2]
  have:Nat.blt n st.base = false:=by
    cases z:Nat.blt n st.base with
    | false=>rfl
    | true=>rw [Nat.blt_eq] at z; lia
  rw [this]; rfl
theorem Ec {β:Type} {st:St} {o:Bb} (h:st.N < 1000000) (k:Nat→St→Option β):Dg st o k = k st.N (st.new o):=by
  rw [zfl]
  have:Nat.blt st.N 1000000 = true:=by rw [Nat.blt_eq]; exact h
  rw [this]; rfl
theorem Jg {α β:Type} {xs:List α} (h:xs.length < 100000) (x:Option β):fit xs x = x:=by
  unfold fit
  rw [Mine.En]
  have:Nat.blt xs.length 100000 = true:=by rw [Nat.blt_eq]; exact h
  rw [this]; rfl
theorem Yi {a b:Nat} (h:a < b):Nat.blt a b = true:=Nat.blt_eq.mpr h
theorem ziX {A:Nat→List D→St→Option D} {d f:Nat} {ds:List D} {st:St} {F:Fn} (hA:A f ds st = none) (hF:FNS.get f = some F) (k:D→St→Ans):
    big A (d + 1) f ds st k = V9 F ds st fun e st=>F.body (big A d) e st k fun _ st=>k .none st:=by
  show Option.rec (motive:=fun _=>Ans) (ob (FNS.get f) fun F=>V9 F ds st fun e st=>F.body (big A d) e st k fun _ st=>k .none st) (fun dv=>k dv st) (A f ds st) = _
  rw [hA,hF]; rfl
theorem Ds {A:Nat→List D→St→Option D} {d f:Nat} {ds:List D} {st:St} {k:D→St→Ans} (F:Fn) (vals:List (Option D)) (R:Sx) (hA:A f ds st = none) (hF:FNS.get f = some F) (hc:F.cl = [])
    (g:(Nat.ble (len ds) F.np && Nat.ble F.np (len ds + len F.dfl)) = true) (hv:app (ziw some (app ds (zdg (len ds + len F.dfl - F.np) F.dfl))) (nones (F.nn - F.np)) = vals) (hb:F.body = R):
    big A (d + 1) f ds st k = R (big A d) ⟨vals,[]⟩ st k fun _ st=>k .none st:=by
  rw [ziX hA hF]
  rw [Bool.and_eq_true] at g
  unfold V9 zeJ
  rw [g.1,g.2,hc,hv,hb]; rfl
section
variable {c:Cal} {e:Ax} {st:St}
theorem Bc {s r:Sx} {ret:D→St→Ans} {next:Ax→St→Ans}:A1 s r c e st ret next = s c e st ret fun e st=>r c e st ret next:=Eq.trans rfl rfl
theorem za0 {ret:D→St→Ans} {next:Ax→St→Ans}:A5 c e st ret next = next e st:=Eq.trans rfl rfl
theorem zn4 {t:Sm Bool} {a b:Sx} {ret:D→St→Ans} {next:Ax→St→Ans}:sIf t a b c e st ret next = t c e st fun r st=>@ifI _ r ⟨a c e st ret next⟩ ⟨b c e st ret next⟩:=Eq.trans rfl rfl
theorem zcr {x:Sm D} {ret:D→St→Ans} {next:Ax→St→Ans}:Bg x c e st ret next = x c e st ret:=Eq.trans rfl rfl
theorem Ke {t:Tg} {x:Sm D} {ret:D→St→Ans} {next:Ax→St→Ans}:Ap t x c e st ret next = x c e st fun d st=>t c e d st next:=Eq.trans rfl rfl
theorem zgK {x:Sm D} {ret:D→St→Ans} {next:Ax→St→Ans}:C0 x c e st ret next = x c e st fun d st=>Xb d (next e st):=Eq.trans rfl rfl
theorem Gw {d:D} {k:D→St→Ans}:A3 d c e st k = k d st:=Eq.trans rfl rfl
theorem C5 {i:Nat} {k:D→St→Ans}:A2 i c e st k = @obI _ _ (Bi e.vals i) ⟨fun d=>k d st⟩:=Eq.trans rfl rfl
theorem zb1 {i:Nat} {k:D→St→Ans}:Ab i c e st k = @obI _ _ (lk e.cells i) ⟨fun j=>C1 st j fun v=>@obI _ _ v ⟨fun d=>k d st⟩⟩:=Eq.trans rfl rfl
theorem Ut {k:List D→St→Ans}:A4 c e st k = k [] st:=Eq.trans rfl rfl
theorem Es {x:Sm D} {xs:Sm (List D)} {k:List D→St→Ans}:A0 x xs c e st k = x c e st fun d st=>xs c e st fun ds st=>k (d :: ds) st:=Eq.trans rfl rfl
theorem zgz {xs:Sm (List D)} {k:D→St→Ans}:B6 xs c e st k = xs c e st fun ds st=>k (.tup ds) st:=Eq.trans rfl rfl
theorem zhn {xs:Sm (List D)} {k:D→St→Ans}:Al xs c e st k = xs c e st fun ds st=>Dg st (.list ds) fun n st=>k (.ref n) st:=Eq.trans rfl rfl
theorem zkY {k:D→St→Ans}:zc7 zgn c e st k = Dg st (.dict []) fun n st=>k (.ref n) st:=Eq.trans rfl rfl
theorem Po {a:Nat} {x:Sm D} {k:D→St→Ans}:Ah a x c e st k = x c e st fun d st=>zax d fun _ n=>C9 st n fun es=>@obI _ _ (lk es a) ⟨fun r=>k r st⟩:=Eq.trans rfl rfl
theorem zjs {C a:Nat} {x:Sm D} {k:D→St→Ans}:Mh C a x c e st k = x c e st fun d st=>zax d fun C' n=>@onI _ (Nat.beq C' C) ⟨C9 st n fun es=>@obI _ _ (lk es a) ⟨fun r=>k r st⟩⟩:=Eq.trans rfl rfl
theorem zuC {f:Op1} {x:Sm D} {k:D→St→Ans}:x1 f x c e st k = x c e st fun a st=>f st a k:=Eq.trans rfl rfl
theorem zlK {f:Op2} {x y:Sm D} {k:D→St→Ans}:x2 f x y c e st k = x c e st fun a st=>y c e st fun b st=>f st a b k:=Eq.trans rfl rfl
theorem zjZ {f:St→D→D→Option Bool} {x y:Sm D} {k:D→St→Ans}:Sw f x y c e st k = x c e st fun a st=>y c e st fun b st=>@obI _ _ (f st a b) ⟨fun r=>k (.bool r) st⟩:=Eq.trans rfl rfl
theorem Sz {f:St→D→D→Option Bool} {x y:Sm D} {k:Bool→St→Ans}:Ao f x y c e st k = x c e st fun a st=>y c e st fun b st=>@obI _ _ (f st a b) ⟨fun r=>k r st⟩:=Eq.trans rfl rfl
theorem zkh {x:Sm D} {k:Bool→St→Ans}:T3 x c e st k = x c e st fun a st=>zdr a fun b=>k b st:=Eq.trans rfl rfl
theorem Qs {b:Bool} {k:Bool→St→Ans}:Bp b c e st k = k b st:=Eq.trans rfl rfl
theorem L4 {a:Bool} {x xs:Sm Bool} {k:Bool→St→Ans}:B3 a x xs c e st k = x c e st fun b st=>@ifI _ (Di b a) ⟨xs c e st k⟩ ⟨k b st⟩:=Eq.trans rfl rfl
theorem zqT {a:Bool} {x xs:Sm D} {k:D→St→Ans}:zfo a x xs c e st k = x c e st fun d st=>zdr d fun b=>@ifI _ (Di b a) ⟨xs c e st k⟩ ⟨k (.bool b) st⟩:=Eq.trans rfl rfl
theorem zp5 {t:Sm Bool} {a b:Sm D} {k:D→St→Ans}:Hh t a b c e st k = t c e st fun r st=>@ifI _ r ⟨a c e st k⟩ ⟨b c e st k⟩:=Eq.trans rfl rfl
theorem zgT {f:Nat} {xs:Sm (List D)} {k:D→St→Ans}:Am f xs c e st k = xs c e st fun ds st=>c f ds st k:=Eq.trans rfl rfl
theorem zq7 {C f:Nat} {xs:Sm (List D)} {k:D→St→Ans}:Ho C f xs c e st k = xs c e st fun ds st=>Dg st (.ns []) fun n st=>c f (.obj C n :: ds) st fun r st=>Xb r (k (.obj C n) st):=Eq.trans rfl rfl
theorem znK {g:St→D→Ans→Ans} {f:Op2} {x y:Sm D} {k:D→St→Ans}:xM2 g f x y c e st k = x c e st fun a st=>g st a (y c e st fun b st=>f st a b k):=Eq.trans rfl rfl
theorem Gf {i:Nat} {d:D} {k:Ax→St→Ans}:A8 i c e d st k = k ⟨L9 (some d) e.vals i,e.cells⟩ st:=Eq.trans rfl rfl
theorem Rc {i:Nat} {d:D} {k:Ax→St→Ans}:Ck i c e d st k = @obI _ _ (lk e.cells i) ⟨fun j=>C1 st j fun _=>upd st j (.cell (some d)) fun st=>k e st⟩:=Eq.trans rfl rfl
theorem zfG {a:Nat} {x:Sm D} {d:D} {k:Ax→St→Ans}:Bj a x c e d st k = x c e st fun o st=>zax o fun _ n=>C9 st n fun es=>fit es (upd st n (.ns (Gr a d es)) fun st=>k e st):=Eq.trans rfl rfl
theorem zdX {C a:Nat} {x:Sm D} {d:D} {k:Ax→St→Ans}:Si C a x c e d st k = x c e st fun o st=>zax o fun C' n=>@onI _ (Nat.beq C' C) ⟨C9 st n fun es=>fit es (upd st n (.ns (Gr a d es)) fun st=>k e st)⟩:=Eq.trans rfl rfl
theorem zjm {x y:Sm D} {d:D} {k:Ax→St→Ans}:R0 x y c e d st k = x c e st fun o st=>y c e st fun i st=>setItem st o i d fun st=>k e st:=Eq.trans rfl rfl
theorem znk {ts:Tgs} {d:D} {k:Ax→St→Ans}:Nd ts c e d st k = zev d fun ds=>ts c e ds st k:=Eq.trans rfl rfl
theorem zi1 {k:Ax→St→Ans}:Dz c e [] st k = k e st:=Eq.trans rfl rfl
theorem zio {t:Tg} {ts:Tgs} {d:D} {r:List D} {k:Ax→St→Ans}:B5 t ts c e (d :: r) st k = t c e d st fun e st=>ts c e r st k:=Eq.trans rfl rfl
theorem Ur {x:Sm D} {k:It→St→Ans}:iOf x c e st k = x c e st fun d st=>Dq st d fun _=>k (.of d) st:=Eq.trans rfl rfl
theorem ziv {x:Sm D} {k:It→St→Ans}:Pi x c e st k = x c e st fun d st=>Eh d fun i=>zbo i fun n=>@onI _ (Nat.blt n 100000) ⟨k (.range n) st⟩:=Eq.trans rfl rfl
theorem zcw {t:Tg} {i:Sm It} {b:Sx} {ret:D→St→Ans} {next:Ax→St→Ans}:J3 t i b c e st ret next = i c e st fun it st=>zef t b it c e st ret next:=Eq.trans rfl rfl
theorem Vq {n:Nat} {cs:List (Nat × Nat)} {i:Sm It} {l:It→Cb} {k:D→St→Ans}:Bw n cs i l c e st k = i c e st fun it st=>Dg st (.list []) fun acc st=>Ox e.cells cs fun cells=>l it c ⟨nones n,cells⟩ acc st fun _ st=>k (.ref acc) st:=Eq.trans rfl rfl
theorem zei {x:Sm D} {acc:Nat} {k:Ax→St→Ans}:Bz x c e acc st k = x c e st fun d st=>Au st acc fun xs=>fit xs (upd st acc (.list (app xs [d])) fun st=>k e st):=Eq.trans rfl rfl
theorem zg5 {L:List Cl} {a:Nat} {x:Sm D} {xs:Sm (List D)} {k:D→St→Ans}:Az L a x xs c e st k = x c e st fun o st=>zax o fun C n=>C9 st n fun es=>
    Option.rec (motive:=fun _=>Ans) (ob (D0 L C) fun cl=>ob (lk cl.ms a) fun f=>xs c e st fun ds st=>c f (o :: ds) st k) (fun _=>none) (lk es a):=Eq.trans rfl rfl
theorem v0 {a:Option D} {l:List (Option D)}:Bi (a :: l) 0 = a:=rfl
theorem vS {a:Option D} {l:List (Option D)} {n:Nat}:Bi (a :: l) (n + 1) = Bi l n:=rfl
end
noncomputable def C7:=And.intro @zpW <| And.intro @zg7 <| And.intro @zov <| And.intro @zqw <| And.intro @ziZ <| And.intro @Lr <| And.intro @zej <| And.intro @zd1 <| And.intro @Bc <| And.intro @za0 <| And.intro @zn4 <| And.intro @zcr <| And.intro @Ke <| And.intro @zgK <| And.intro @Gw <| And.intro @C5 <| And.intro @zb1 <| And.intro @Ut <| And.intro @Es <| And.intro @zgz <| And.intro @zhn <| And.intro @zkY <| And.intro @Po <| And.intro @zjs <| And.intro @zuC <| And.intro @zlK <| And.intro @zjZ <| And.intro @Sz <| And.intro @zkh <| And.intro @Qs <| And.intro @L4 <| And.intro @zqT <| And.intro @zp5 <| And.intro @zgT <| And.intro @zq7 <| And.intro @znK <| And.intro @Gf <| And.intro @Rc <| And.intro @zfG <| And.intro @zdX <| And.intro @zjm <| And.intro @znk <| And.intro @zi1 <| And.intro @zio <| And.intro @Ur <| And.intro @ziv <| And.intro @zcw <| And.intro @Vq @zei
noncomputable def C6:=And.intro @C8 <| And.intro @zfb <| And.intro @zcY @zcW
end
theorem V7 (a:Int) {m:Nat} (h:0 < m):∃ v:Nat,v < m ∧ Int.fmod a (.ofNat m) = .ofNat v:=by
  have hm:(0:Int) < Int.ofNat m:=Int.ofNat_lt.mpr h
  have h1:=Int.fmod_nonneg_of_pos a hm
  have h2:=Int.fmod_lt_of_pos a hm
  exact ⟨(Int.fmod a (.ofNat m)).toNat,(Int.toNat_lt h1).mpr h2,(Int.toNat_of_nonneg h1).symm⟩
theorem zln {a b:Int} (h:a < b):D4 a b = true:=by rw [Mine.Dw]; exact decide_eq_true h
theorem zuT {a b:Int} (h:¬ a < b):D4 a b = false:=by rw [Mine.Dw]; exact decide_eq_false h
theorem zsT {a b:Nat} (h:¬ a < b):Nat.blt a b = false:=by
  cases z:Nat.blt a b with
  | false=>rfl
  | true=>exact absurd (Nat.blt_eq.mp z) h
theorem Sp {st:St} {n i:Nat} {xs:List D} {x:D} (h:st.get n = some (.list xs)) (hl:xs.length < 1000000) (hx:xs[i]? = some x) (k:D→St→Ans):A6 st (.ref n) (.int (.ofNat i)) k = k x st:=by
  show Dq st (.ref n) (fun xs=>ob (zae (len xs) (.ofNat i)) fun j=>ob (D0 xs j) fun d=>k d st) = _
  rw [E1 h,Mine.En]
  have hi:=(List.getElem?_eq_some_iff.mp hx).1
  have:zae xs.length (.ofNat i) = some i:=by
    show Bk (Nat.blt xs.length 1000000) (Bk (Nat.blt i xs.length) (some i)) = _
    rw [Yi hl,Yi hi]; rfl
  rw [this,Xk,Mine.Hr,hx,Xk]
theorem zaQ {st:St} {n:Nat} {xs:List D} {i:Nat} {d:D} (h:st.get n = some (.list xs)) (hl:xs.length < 100000) (hi:i < xs.length) (hb:st.base ≤ n) (k:St→Ans):setItem st (.ref n) (.int (.ofNat i)) d k = k (st.put n (.list (xs.set i d))):=by
  have h:T.get st.H n = some (.list xs):=h
  show (ob (T.get st.H n) fun b=>_) = _
  rw [h]
  show fit xs (Bk (Nat.blt i (len xs)) (upd st n (.list (L9 d xs i)) k)) = _
  rw [Jg hl,Mine.En,Yi hi,Y1,Je hb,Za]
theorem Ep {st:St} {n:Nat} {o:Bb} (h:n + 1 < 2 ^ Ee):(st.put n o).get n = some o:=by rw [Bs n n o h,if_pos rfl]
theorem zjO (d:Nat) {st:St} {dr many:Nat} {a b:Int} (hm:0 < many) (hm2:many < 1000) (hd:st.get dr = some (.list [.int a,.int b])) (hb:st.base ≤ dr) (hdr:dr < 1000000) (h0:0 ≤ b) (h1:b < 2147483647):
    ∃ (a' b':Int) (v:Nat),v < many ∧ 0 ≤ b' ∧ b' < 2147483647 ∧ ∀ k,big orc (d + 1) 67 [.ref dr,.int (.ofNat many)] st k = k (.int (.ofNat v)) (st.put dr (.list [.int a',.int b'])):=by
  have hB:dr + 1 < 2 ^ Ee:=B7 (by lia)
  have i0:∀ f,A6 st (.ref dr) (.int (.ofNat 0)) f = f (.int a) st:=fun f=>Sp hd (by simp) rfl f
  have i1:∀ f,A6 st (.ref dr) (.int (.ofNat 1)) f = f (.int b) st:=fun f=>Sp hd (by simp) rfl f
  have zm:D4 0 (.ofNat many) = true:=zln (Int.ofNat_lt.mpr hm)
  by_cases q:0 < a
  · obtain ⟨v,hv,ev⟩:=V7 a hm
    refine ⟨Int.fdiv a (.ofNat many),b,v,hv,h0,h1,fun k=>?_⟩
    rw [Ds Pr [some (.ref dr),some (.int (.ofNat many)),none] (A1 Do (A1 Ek (A1 El A5))) rfl rfl rfl rfl rfl rfl]
    unfold Do
    have z:D4 (.ofNat 0) a = true:=zln q
    have zm2:D4 (.ofNat many) 1000 = true:=zln (Int.ofNat_lt.mpr hm2)
    have s0:∀ x f,setItem st (.ref dr) (.int (.ofNat 0)) x f = f (st.put dr (.list [x,.int b])):=fun x f=>zaQ hd (by simp) (by simp) hb f
    simp only [↓C7,C6,v0,vS,↓i0,i0,↓cGt,cGt,↓z,z,↓zds,zds,↓Zy,Zy,↓Xk,Xk,↓Y1,Y1,↓Of,Of,↓Sy,Sy,↓zm,zm,↓zm2,zm2,↓s0,s0,↓ev,ev]
    rfl
  · obtain ⟨b',hb',eb⟩:=V7 (b * .ofNat 16807 + .ofNat 101) (m:=2147483647) (by lia)
    obtain ⟨v,hv,ev⟩:=V7 (Int.fdiv (.ofNat b') (.ofNat 128)) hm
    refine ⟨a,.ofNat b',v,hv,Int.natCast_nonneg _,Int.ofNat_lt.mpr hb',fun k=>?_⟩
    rw [Ds Pr [some (.ref dr),some (.int (.ofNat many)),none] (A1 Do (A1 Ek (A1 El A5))) rfl rfl rfl rfl rfl rfl]
    unfold Do Ek El
    have z:D4 (.ofNat 0) a = false:=zuT q
    have s1:∀ x f,setItem st (.ref dr) (.int (.ofNat 1)) x f = f (st.put dr (.list [.int a,x])):=fun x f=>zaQ hd (by simp) (by simp) hb f
    have i2:∀ f,A6 (st.put dr (.list [.int a,.int (.ofNat b')])) (.ref dr) (.int (.ofNat 1)) f = f (.int (.ofNat b')) (st.put dr (.list [.int a,.int (.ofNat b')])):=fun f=>Sp (Ep hB) (by simp) rfl f
    have zb:Nat.blt b.natAbs 4294967296 = true:=Yi (by lia)
    have zc:Nat.blt (Int.ofNat 16807).natAbs 4294967296 = true:=rfl
    have z1:D4 0 (.ofNat 2147483647) = true:=rfl
    have z2:D4 0 (.ofNat 128) = true:=rfl
    have z3:D4 (.ofNat 128) 1000 = true:=rfl
    have ad:∀ (x y:Int) (s:St) (f:D→St→Ans),Eg s (.int x) (.int y) f = f (.int (x + y)) s:=fun _ _ _ _=>rfl
    simp only [↓C7,C6,v0,vS,↓i0,i0,↓i1,i1,↓i2,i2,↓cGt,cGt,↓z,z,↓zds,zds,↓Zy,Zy,↓Xk,Xk,↓Y1,Y1,↓Of,Of,↓Sy,Sy,↓zer,zer,↓ad,ad,↓zm,zm,↓z1,z1,↓z2,z2,↓z3,z3,↓zb,zb,↓zc,zc,↓s1,s1,↓eb,eb,↓ev,ev]
noncomputable def zeW (t:Tg) (b:Sx) (it:It) (c:Cal) (ret:D→St→Ans) (next:Ax→St→Ans) (n:Nat):Nat→Ax→St→Ans:=
  Nat.rec (motive:=fun _=>Nat→Ax→St→Ans) (fun _ _ _=>none) (fun _ ih i e st=>nth st it i (next e st) fun d=>t c e d st fun e st=>b c e st ret fun e st=>ih (Nat.succ i) e st) n
theorem zdf (t:Tg) (b:Sx) (it:It) (c:Cal) (ret:D→St→Ans) (next:Ax→St→Ans) (n i:Nat) (e:Ax) (st:St):
    zeW t b it c ret next (n + 1) i e st = nth st it i (next e st) fun d=>t c e d st fun e st=>b c e st ret fun e st=>zeW t b it c ret next n (i + 1) e st:=rfl
theorem zid {t:Tg} {b:Sx} {it:It} {c:Cal} {e:Ax} {st:St} {ret:D→St→Ans} {next:Ax→St→Ans}:zef t b it c e st ret next = zeW t b it c ret next LF 0 e st:=rfl
theorem Vr {t:Tg} {b:Sx} {it:It} {c:Cal} (xs:List D) (Inv:Nat→Ax→St→Prop) (hl:xs.length < LF)
    (hnth:∀ i e st,Inv i e st→∀ (k0:Ans) (k:D→Ans),nth st it i k0 k = match xs[i]? with | some d=>k d | none=>k0)
    (step:∀ i d e st,xs[i]? = some d→Inv i e st→∃ e1 st1,Inv (i + 1) e1 st1 ∧ ∀ (ret:D→St→Ans) (nx:Ax→St→Ans),(t c e d st fun e st=>b c e st ret nx) = nx e1 st1) (e:Ax) (st:St) (h0:Inv 0 e st):
    ∃ e' st',Inv xs.length e' st' ∧ ∀ (ret:D→St→Ans) (next:Ax→St→Ans),zef t b it c e st ret next = next e' st':=by
  have go:∀ n i e st,xs.length - i < n→i ≤ xs.length→Inv i e st→∃ e' st',Inv xs.length e' st' ∧ ∀ (ret:D→St→Ans) (next:Ax→St→Ans),zeW t b it c ret next n i e st = next e' st':=by
    intro n
    induction n with
    | zero=>intro i e st h; lia
    | succ n ih=>
      intro i e st hn hi h
      by_cases q:i = xs.length
      · subst q
        refine ⟨e,st,h,fun ret next=>?_⟩
        rw [zdf,hnth _ _ _ h,List.getElem?_eq_none (Nat.le_refl _)]
      · have hi':i < xs.length:=by lia
        obtain ⟨e1,st1,h1,r1⟩:=step i xs[i] e st (List.getElem?_eq_getElem hi') h
        obtain ⟨e',st',h2,r2⟩:=ih (i + 1) e1 st1 (by lia) hi' h1
        refine ⟨e',st',h2,fun ret next=>?_⟩
        rw [zdf,hnth _ _ _ h,List.getElem?_eq_getElem hi']
        show t c e xs[i] st (fun e st=>b c e st ret fun e st=>zeW t b it c ret next n (i + 1) e st) = _
        rw [r1,r2]
  obtain ⟨e',st',a,r⟩:=go LF 0 e st (by lia) (Nat.zero_le _) h0
  exact ⟨e',st',a,fun ret next=>by rw [zid,r]⟩
noncomputable def cGo (t:Tg) (ifs:Sm Bool) (body:Cb) (it:It) (c:Cal) (acc:Nat) (k:Ax→St→Ans) (n:Nat):Nat→Ax→St→Ans:=
  Nat.rec (motive:=fun _=>Nat→Ax→St→Ans) (fun _ _ _=>none) (fun _ ih i e st=>nth st it i (k e st) fun d=>t c e d st fun e st=>ifs c e st fun ok st=>ifB ok (body c e acc st fun e st=>ih (Nat.succ i) e st) (ih (Nat.succ i) e st)) n
theorem zfw (t:Tg) (ifs:Sm Bool) (body:Cb) (it:It) (c:Cal) (acc:Nat) (k:Ax→St→Ans) (n i:Nat) (e:Ax) (st:St):
    cGo t ifs body it c acc k (n + 1) i e st = nth st it i (k e st) fun d=>t c e d st fun e st=>ifs c e st fun ok st=>ifB ok (body c e acc st fun e st=>cGo t ifs body it c acc k n (i + 1) e st) (cGo t ifs body it c acc k n (i + 1) e st):=rfl
theorem zjT {t:Tg} {ifs:Sm Bool} {body:Cb} {it:It} {c:Cal} {acc:Nat} {k:Ax→St→Ans} {e:Ax} {st:St}:Bl t ifs body it c e acc st k = cGo t ifs body it c acc k LF 0 e st:=rfl
theorem zeS {t:Tg} {ifs:Sm Bool} {body:Cb} {it:It} {c:Cal} {acc:Nat} (xs:List D) (Inv:Nat→Ax→St→Prop) (hl:xs.length < LF)
    (hnth:∀ i e st,Inv i e st→∀ (k0:Ans) (k:D→Ans),nth st it i k0 k = match xs[i]? with | some d=>k d | none=>k0)
    (step:∀ i d e st,xs[i]? = some d→Inv i e st→∃ e1 st1,Inv (i + 1) e1 st1 ∧ ∀ (nx:Ax→St→Ans),(t c e d st fun e st=>ifs c e st fun ok st=>ifB ok (body c e acc st nx) (nx e st)) = nx e1 st1) (e:Ax) (st:St) (h0:Inv 0 e st):
    ∃ e' st',Inv xs.length e' st' ∧ ∀ (k:Ax→St→Ans),Bl t ifs body it c e acc st k = k e' st':=by
  have go:∀ n i e st,xs.length - i < n→i ≤ xs.length→Inv i e st→∃ e' st',Inv xs.length e' st' ∧ ∀ (k:Ax→St→Ans),cGo t ifs body it c acc k n i e st = k e' st':=by
    intro n
    induction n with
    | zero=>intro i e st h; lia
    | succ n ih=>
      intro i e st hn hi h
      by_cases q:i = xs.length
      · subst q
        refine ⟨e,st,h,fun k=>?_⟩
        rw [zfw,hnth _ _ _ h,List.getElem?_eq_none (Nat.le_refl _)]
      · have hi':i < xs.length:=by lia
        obtain ⟨e1,st1,h1,r1⟩:=step i xs[i] e st (List.getElem?_eq_getElem hi') h
        obtain ⟨e',st',h2,r2⟩:=ih (i + 1) e1 st1 (by lia) hi' h1
        refine ⟨e',st',h2,fun k=>?_⟩
        rw [zfw,hnth _ _ _ h,List.getElem?_eq_getElem hi']
        show (t c e xs[i] st fun e st=>ifs c e st fun ok st=>ifB ok (body c e acc st fun e st=>cGo t ifs body it c acc k n (i + 1) e st) (cGo t ifs body it c acc k n (i + 1) e st)) = _
        rw [r1 fun e st=>cGo t ifs body it c acc k n (i + 1) e st,r2]
  obtain ⟨e',st',a,r⟩:=go LF 0 e st (by lia) (Nat.zero_le _) h0
  exact ⟨e',st',a,fun k=>by rw [zjT,r]⟩
theorem Zl {st:St} {l i:Nat} {xs:List D} (h:st.get l = some (.list xs)) (k0:Ans) (k:D→Ans):nth st (.of (.ref l)) i k0 k = match xs[i]? with | some d=>k d | none=>k0:=by
  show Dq st (.ref l) (fun xs=>Option.rec (motive:=fun _=>Ans) k0 k (D0 xs i)) = _
  rw [E1 h,Mine.Hr]
  cases xs[i]? <;> rfl
theorem znn {st:St} {i:Nat} {xs:List D} (k0:Ans) (k:D→Ans):nth st (.of (.tup xs)) i k0 k = match xs[i]? with | some d=>k d | none=>k0:=by
  show Option.rec (motive:=fun _=>Ans) k0 k (D0 xs i) = _
  rw [Mine.Hr]
  cases xs[i]? <;> rfl
noncomputable def rng (n:Nat):List D:=(List.range n).map fun i=>.int (.ofNat i)
theorem Q8 (n:Nat):(rng n).length = n:=by unfold rng; rw [List.length_map,List.length_range]
theorem zgt {n i:Nat} {d:D} (h:(rng n)[i]? = some d):i < n ∧ d = .int (.ofNat i):=by
  have:=(List.getElem?_eq_some_iff.mp h).1
  rw [Q8] at this
  unfold rng at h
  rw [List.getElem?_map,List.getElem?_range this] at h
  exact ⟨this,(Option.some.inj h).symm⟩
theorem zaM {st:St} {n i:Nat} (k0:Ans) (k:D→Ans):nth st (.range n) i k0 k = match (rng n)[i]? with | some d=>k d | none=>k0:=by
  show ifB (Nat.blt i n) (k (.int (.ofNat i))) k0 = _
  by_cases q:i < n
  · rw [Yi q,Of]
    unfold rng
    rw [List.getElem?_map,List.getElem?_range q]; rfl
  · rw [zsT q,Sy,List.getElem?_eq_none (by rw [Q8]; lia)]
theorem zkv (d:Nat) {st:St} {sl:Nat} (xs:List Int) (h:st.get sl = some (.list (xs.map .int))) (hx:xs.length < 100000) (hN:st.N + 2 < 1000000) (hsl:sl < st.N):
    ∃ (a b:Int),0 ≤ b ∧ b < 2147483647 ∧ ∀ k,big orc (d + 1) 66 [.ref sl] st k = k (.ref (st.N + 1)) ((st.new (.list ((xs.map D.int).take 30))).new (.list [.int a,.int b])):=by
  refine bg fun P fin=>?_
  generalize hs1:st.new (.list ((xs.map D.int).take 30)) = s1
  have N1:s1.N = st.N + 1:=by rw [← hs1]; rfl
  have g1:s1.get st.N = some (.list ((xs.map D.int).take 30)):=by
    rw [← hs1,Ai _ _ (B7 (by lia)),if_pos rfl]
  have g0:s1.get sl = some (.list (xs.map .int)):=by
    rw [← hs1,Ai _ _ (B7 (by lia)),if_neg (by lia)]; exact h
  have sl1:∀ f,K4 zj3 st (.ref sl) (.int (.ofNat 30)) f = f (.ref st.N) s1:=fun f=>by
    show Au st sl (fun xs=>fit xs (ob (zj3 xs (.int (.ofNat 30))) fun r=>newList st r f)) = _
    rw [Bx h,Jg (by rw [List.length_map]; exact hx)]
    show newList st (zha 30 (xs.map D.int)) f = _
    rw [zb8]
    unfold newList
    rw [Jg (by rw [List.length_take,List.length_map]; lia),Ec (by lia),hs1]
  have z1:D4 0 (.ofNat 1000003) = true:=rfl
  have z2:D4 0 (.ofNat 2147483647) = true:=rfl
  have zc:Nat.blt (Int.ofNat 131).natAbs 4294967296 = true:=rfl
  have ad:∀ (x y:Int) (s:St) (f:D→St→Ans),Eg s (.int x) (.int y) f = f (.int (x + y)) s:=fun _ _ _ _=>rfl
  have bi:∀ (x:Int) (s:St) (f:D→St→Ans),zdL s (.int x) f = f (.int x) s:=fun _ _ _=>rfl
  obtain ⟨e',st',⟨rfl,b,hb0,hb1,y2,he⟩,run⟩:=Vr (t:=A8 2) (b:=A1 (Ap (A8 1) (x2 Zy (x2 Eg (x2 zer (A2 1) (A3 (.int (.ofNat 131)))) (x2 Zy (x1 zdL (A2 2)) (A3 (.int (.ofNat 1000003))))) (A3 (.int (.ofNat 2147483647))))) A5) (it:=.of (.ref st.N)) (c:=big orc d)
    ((xs.map D.int).take 30) (fun _ e s=>s1 = s ∧ ∃ b:Int,0 ≤ b ∧ b < 2147483647 ∧ ∃ y2,e = ⟨[some (.ref sl),some (.int b),y2,none,none,none,none],[]⟩) (by rw [List.length_take,List.length_map]; show _ < 100000; lia)
    (fun i e s hi=>by obtain ⟨rfl,_⟩:=hi; exact Zl g1)
    (fun i dd e s hd hi=>by
      obtain ⟨rfl,b,hb0,hb1,y2,rfl⟩:=hi
      have:∃ y,dd = .int y:=by
        have m:=List.mem_of_getElem? hd
        have m:=List.mem_of_mem_take m
        obtain ⟨y,_,rfl⟩:=List.mem_map.mp m
        exact ⟨y,rfl⟩
      obtain ⟨y,rfl⟩:=this
      obtain ⟨v,hv,ev⟩:=V7 y (m:=1000003) (by lia)
      obtain ⟨v2,hv2,ev2⟩:=V7 (b * .ofNat 131 + .ofNat v) (m:=2147483647) (by lia)
      refine ⟨⟨[some (.ref sl),some (.int (.ofNat v2)),some (.int y),none,none,none,none],[]⟩,s1,⟨rfl,.ofNat v2,Int.natCast_nonneg _,Int.ofNat_lt.mpr hv2,_,rfl⟩,fun ret nx=>?_⟩
      have zb:Nat.blt b.natAbs 4294967296 = true:=Yi (by lia)
      have st1:L9 (some (D.int y)) [some (.ref sl),some (.int b),y2,none,none,none,none] 2 = [some (.ref sl),some (.int b),some (.int y),none,none,none,none]:=rfl
      simp only [↓C7,C6,v0,vS,↓st1,st1,↓bi,bi,↓Zy,Zy,↓zer,zer,↓ad,ad,↓z1,z1,↓z2,z2,↓zb,zb,↓zc,zc,↓ev,ev,↓ev2,ev2]
      rfl) ⟨[some (.ref sl),some (.int (.ofNat 7)),none,none,none,none,none],[]⟩ s1 ⟨rfl,.ofNat 7,by decide,by decide,none,rfl⟩
  subst he
  obtain ⟨f0,first⟩:∃ f0:Int,∀ (e:Ax) (f:D→St→Ans),e = ⟨[some (.ref sl),some (.int b),y2,none,none,none,none],[]⟩→Hh (Ao cGt (x1 No (A2 0)) (A3 (.int (.ofNat 0)))) (x1 zkD (x1 zdL (x2 A6 (A2 0) (A3 (.int (.ofNat 0)))))) (A3 (.int (.ofNat 0))) (big orc d) e s1 f = f (.int f0) s1:=by
    have bl:∀ f,No s1 (.ref sl) f = f (.int (.ofNat xs.length)) s1:=fun f=>by
      have g:T.get s1.H sl = some (.list (xs.map .int)):=g0
      show (ob (T.get s1.H sl) fun o=>_) = _
      rw [g]
      show fit (xs.map D.int) (f (.int (.ofNat (len (xs.map D.int)))) s1) = _
      rw [Jg (by rw [List.length_map]; exact hx),Mine.En,List.length_map]
    cases xs with
    | nil=>
      refine ⟨.ofNat 0,fun e f he=>?_⟩
      subst he
      have z:D4 (.ofNat 0) (.ofNat ([]:List Int).length) = false:=rfl
      simp only [↓C7,C6,v0,vS,↓bl,bl,↓cGt,cGt,↓z,z]
    | cons y r=>
      refine ⟨.ofNat y.natAbs,fun e f he=>?_⟩
      subst he
      have z:D4 (.ofNat 0) (.ofNat (y :: r).length) = true:=zln (Int.ofNat_lt.mpr (by rw [List.length_cons]; lia))
      have it0:∀ f,A6 s1 (.ref sl) (.int (.ofNat 0)) f = f (.int y) s1:=fun f=>Sp g0 (by rw [List.length_map]; lia) rfl f
      simp only [↓C7,C6,v0,vS,↓bl,bl,↓cGt,cGt,↓z,z,↓it0,it0,↓bi,bi,↓zkD,zkD]
  have last:∃ a:Int,∀ (f:D→St→Ans),Hh (Ao cGe (A2 3) (x2 znl (A3 (.int (.ofNat 10))) (A3 (.int (.ofNat 18))))) (A2 3) (A3 (.int (.ofNat 0))) (big orc d) ⟨[some (.ref sl),some (.int b),y2,some (.int f0),none,none,none],[]⟩ s1 f = f (.int a) s1:=by
    have pw:∀ (f:D→St→Ans),znl s1 (.int (.ofNat 10)) (.int (.ofNat 18)) f = f (.int ((Int.ofNat 10) ^ 18)) s1:=fun f=>rfl
    cases z:D4 f0 ((Int.ofNat 10) ^ 18) with
    | true=>
      refine ⟨.ofNat 0,fun f=>?_⟩
      simp only [↓C7,C6,v0,vS,↓pw,pw,↓cGe,cGe,↓z,z]
      rfl
    | false=>
      refine ⟨f0,fun f=>?_⟩
      simp only [↓C7,C6,v0,vS,↓pw,pw,↓cGe,cGe,↓z,z]
      rfl
  obtain ⟨a,ha⟩:=last
  refine fin ⟨a,b,hb0,hb1,fun k=>?_⟩
  rw [Ds Uk [some (.ref sl),none,none,none,none,none,none] (A1 G5 (A1 G7 (A1 Gb (A1 Ge A5)))) rfl rfl rfl rfl rfl rfl]
  unfold G5 G7
  have q1:L9 (some (D.int (.ofNat 7))) [some (.ref sl),none,none,none,none,none,none] 1 = [some (.ref sl),some (.int (.ofNat 7)),none,none,none,none,none]:=rfl
  have q3:L9 (some (D.int f0)) [some (.ref sl),some (.int b),y2,none,none,none,none] 3 = [some (.ref sl),some (.int b),y2,some (.int f0),none,none,none]:=rfl
  have itm:∀ f:List D→Ans,Dq s1 (.ref st.N) f = f ((xs.map D.int).take 30):=fun f=>E1 g1 f
  rw [Bc,Ke,Gw,Gf,q1,Bc,zcw,Ur,zlK,C5,v0,C8,Gw,sl1,itm,run,Bc]
  unfold Gb Ge
  rw [Ke,first _ _ rfl,Gf,q3,Bc,zcr,zhn,Es,ha,Es,C5,vS,v0,C8,Ut,Ec (by lia),N1,← hs1]
noncomputable def sA0 (xs:List D):St:=⟨1,1,.node (some (.list xs)) .nil .nil⟩
noncomputable def sA3 (xs:List D):St:=(((sA0 xs).new (.cell none)).new (.cell none)).new (.cell none)
noncomputable def sA (xs ys:List D) (a b:Int):St:=(((sA3 xs).new (.list ys)).new (.list [.int a,.int b])).put 1 (.cell (some (.ref 5)))
noncomputable def cL:List (Nat × Nat):=[(1,1),(3,2),(10,3)]
noncomputable def vL (x2 x4 x5 x6 x7 x8 x9 x11 x12 x13:Option D):List (Option D):=[some (.ref 0),none,x2,none,x4,x5,x6,x7,x8,x9,none,x11,x12,x13,none,none,none,none,none,none,none,none,none,none,none,none,none]
noncomputable def eA:Ax:=⟨vL none none none none none none none none none none,cL⟩
noncomputable def eB:Ax:=⟨vL (some (.obj 6 6)) (some (.obj 4 1018)) (some (.ref 1021)) none none none none none none none,cL⟩
noncomputable def hB (xs ys:List D) (a b:Int):T Bb:=
  T.put (.list []) Ee (T.put (.list []) Ee (T.put (.list []) Ee (T.put (.list []) Ee (T.put (.list []) Ee (T.put (.dict []) Ee (T.put (.ns [(38,.obj 6 6),(71,.ref 1019),(5,.ref 1020),(80,.int (.ofNat 1))]) Ee
  (T.put (.list [.int a,.int b]) Ee (T.put (.list ys) Ee (T.put (.cell none) Ee (T.put (.cell (some (.str [78]))) Ee (T.put (.cell (some (.ref 5))) Ee (T.put (.list xs) Ee SKH 0) 1) 2) 3) 4) 5) 1018) 1019) 1020) 1021) 1022) 1023) 1024
noncomputable def sB (xs ys:List D) (a b:Int):St:=⟨1,1025,hB xs ys a b⟩
theorem zmW (xs ys:List D) (a b:Int) (R:Sx) (ret:D→St→Ans) (next:Ax→St→Ans):
    A1 Ys (A1 zaj (A1 Z7 (A1 Zo R))) (big orc 59) eA (sA xs ys a b) ret next = R (big orc 59) eB (sB xs ys a b) ret next:=by kernel_rfl
section
structure Ext (F:Nat→Prop) (c:Nat) (st st':St):Prop where
  base:st'.base = st.base
  le:st.N ≤ st'.N
  up:st'.N ≤ st.N + c
  wf:(∀ n o,st.get n = some o→n < st.N)→∀ n o,st'.get n = some o→n < st'.N
  keep:∀ n,n < st.N→¬ F n→st'.get n = st.get n
section
variable {F F':Nat→Prop} {c c':Nat} {st st' st'':St}
theorem Ext.refl:Ext F c st st:=⟨rfl,Nat.le_refl _,Nat.le_add_right _ _,fun h=>h,fun _ _ _=>rfl⟩
theorem Ext.trans (x:Ext F c st st') (y:Ext F c' st' st''):Ext F (c + c') st st'':=
  ⟨y.base.trans x.base,Nat.le_trans x.le y.le,by have:=x.up; have:=y.up; lia,fun h=>y.wf (x.wf h),fun n hn hF=>(y.keep n (Nat.lt_of_lt_of_le hn x.le) hF).trans (x.keep n hn hF)⟩
theorem Ext.more (x:Ext F c st st') (h:c ≤ c') (hF:∀ n,n < st.N→F n→F' n):Ext F' c' st st':=⟨x.base,x.le,by have:=x.up; lia,x.wf,fun n hn q=>x.keep n hn fun z=>q (hF n hn z)⟩
theorem Ext.nb {k:Nat} (x:Ext F c st st') (h:1025 ≤ st.N ∧ st.N ≤ k):1025 ≤ st'.N ∧ st'.N ≤ k + c:=⟨Nat.le_trans h.1 x.le,Nat.le_trans x.up (Nat.add_le_add_right h.2 c)⟩
set_option tactic.hygienic true in
theorem Ext.new (o:Bb) (hN:st.N < 1000000):Ext F 1 st (st.new o):=by
  have b:st.N + 1 < 2 ^ Ee:=B7 (Nat.le_of_lt hN)
  refine ⟨rfl,Nat.le_succ _,Nat.le_refl _,fun h n o' e=>?_,fun n hn _=>?_⟩
  · rw [Ai n o b] at e
    split at e
    · rename_i q; subst q; exact Nat.lt_succ_self _
    · exact Nat.lt_succ_of_lt (h n o' e)
  · rw [Ai n o b,if_neg (Nat.ne_of_lt hn)]
set_option tactic.hygienic true in
theorem Ext.put {n:Nat} (o:Bb) (hN:st.N ≤ 1000000) (hn:n < st.N) (hF:F n):Ext F 0 st (st.put n o):=by
  have b:n + 1 < 2 ^ Ee:=B7 om
  refine ⟨rfl,Nat.le_refl _,Nat.le_refl _,fun h m o' e=>?_,fun m hm q=>?_⟩
  · rw [Bs n m o b] at e
    split at e
    · rename_i q; subst q; exact hn
    · exact h m o' e
  · rw [Bs n m o b,if_neg fun z:m = n=>q (by rw [z]; exact hF)]
theorem Ext.get {n:Nat} {o:Bb} (x:Ext F c st st') (h:st.get n = some o) (hn:n < st.N) (hF:¬ F n):st'.get n = some o:=(x.keep n hn hF).trans h
theorem Ext.trans' {F2:Nat→Prop} (x:Ext F c st st') (y:Ext F2 c' st' st'') (h:∀ n,n < st.N→F2 n→F n):Ext F (c + c') st st'':=
  ⟨y.base.trans x.base,Nat.le_trans x.le y.le,by have:=x.up; have:=y.up; lia,fun h=>y.wf (x.wf h),fun n hn hF=>(y.keep n (Nat.lt_of_lt_of_le hn x.le) fun z=>hF (h n hn z)).trans (x.keep n hn hF)⟩
end
theorem I9 {st:St} {o:Bb} (h:st.N < 1000000):(st.new o).get st.N = some o:=by rw [Ai _ _ (B7 (Nat.le_of_lt h)),if_pos rfl]
structure Dr (st:St):Prop where
  base:st.base = 1
  lo:1025 ≤ st.N
  hi:st.N + 100 ≤ 1000000
  c1:st.get 1 = some (.cell (some (.ref 5)))
  dr:∃ a b:Int,st.get 5 = some (.list [.int a,.int b]) ∧ 0 ≤ b ∧ b < 2147483647
noncomputable def F5:Nat→Prop:=fun n=>n = 5
theorem Dr.ext {c:Nat} {st st':St} (x:Dr st) (y:Ext F5 c st st') (hN:st'.N + 100 ≤ 1000000) (h:∃ a b:Int,st'.get 5 = some (.list [.int a,.int b]) ∧ 0 ≤ b ∧ b < 2147483647):Dr st':=
  ⟨y.base.trans x.base,Nat.le_trans x.lo y.le,hN,y.get x.c1 (Nat.lt_of_lt_of_le om x.lo) (by unfold F5; lia),h⟩
theorem zgI (d:Nat) {st:St} {many:Nat} (x:Dr st) (hm:0 < many) (hm2:many < 1000):
    ∃ (v:Nat) (st':St),v < many ∧ Ext F5 0 st st' ∧ Dr st' ∧ st'.N = st.N ∧ ∀ k,big orc (d + 1) 67 [.ref 5,.int (.ofNat many)] st k = k (.int (.ofNat v)) st':=by
  obtain ⟨a,b,g,h0,h1⟩:=x.dr
  have lo:=x.lo
  have hi:=x.hi
  obtain ⟨a',b',v,hv,h2,h3,r⟩:=zjO d hm hm2 g (by rw [x.base]; lia) om h0 h1
  have e:Ext F5 0 st (st.put 5 (.list [.int a',.int b'])):=Ext.put _ om om rfl
  exact ⟨v,_,hv,e,x.ext e (show st.N + 100 ≤ 1000000 from hi) ⟨a',b',Ep (B7 om),h2,h3⟩,rfl,r⟩
theorem Dr.new {st:St} (x:Dr st) (o:Bb) (h:st.N + 101 ≤ 1000000):Dr (st.new o):=by
  have e:Ext F5 1 st (st.new o):=Ext.new o om
  obtain ⟨a,b,g,h0,h1⟩:=x.dr
  have lo:=x.lo
  have g':(st.new o).get 5 = some (.list [.int a,.int b]):=by
    rw [Ai _ _ (B7 om),if_neg om]; exact g
  exact x.ext e (show st.N + 1 + 100 ≤ 1000000 by lia) ⟨a,b,g',h0,h1⟩
theorem zli {α:Type} (a b c d:α) (v:Nat) (h:v < 4):∃ y,[a,b,c,d][v]? = some y:=⟨[a,b,c,d][v],List.getElem?_eq_getElem h⟩
theorem znW (d:Nat) {st:St} {e:Ax} {j:Nat} {a b c4 d4:D} (x:Dr st) (hN:st.N + 101 ≤ 1000000) (hc:lk e.cells j = some 1):
    ∃ (v:Nat) (y:D) (st':St),v < 4 ∧ [a,b,c4,d4][v]? = some y ∧ Ext F5 1 st st' ∧ Dr st' ∧ st'.N = st.N + 1 ∧
      ∀ k,x2 A6 (Al (A0 (A3 a) (A0 (A3 b) (A0 (A3 c4) (A0 (A3 d4) A4))))) (Am 67 (A0 (Ab j) (A0 (A3 (.int (.ofNat 4))) A4))) (big orc (d + 1)) e st k = k y st':=by
  have lo:=x.lo
  have x1:=x.new (.list [a,b,c4,d4]) hN
  obtain ⟨v,st2,hv,e2,x2',hN2,r⟩:=zgI d x1 (many:=4) om om
  obtain ⟨y,hy⟩:=zli a b c4 d4 v hv
  have e1:Ext F5 1 st (st.new (.list [a,b,c4,d4])):=Ext.new _ om
  refine ⟨v,y,st2,hv,hy,e1.trans e2,x2',hN2,fun k=>?_⟩
  have gl:st2.get st.N = some (.list [a,b,c4,d4]):=e2.get (I9 om) (Nat.lt_succ_self _) (by unfold F5; lia)
  have it:A6 st2 (.ref st.N) (.int (.ofNat v)) k = k y st2:=Sp gl (by simp) hy k
  have cell:∀ f:Option D→Ans,C1 (st.new (.list [a,b,c4,d4])) 1 f = f (some (.ref 5)):=fun f=>Bq x1.c1 f
  simp only [↓C7,C6,v0,vS,↓Ec (show st.N < 1000000 by lia),↓hc,hc,↓cell,cell,↓r,r,↓it,it]
theorem zkb (d:Nat) {st:St} {e:Ax} (x:Dr st) (hN:st.N + 101 ≤ 1000000) (hc:e.cells = cL):
    ∃ (nm:List Nat) (st':St),okX nm ∧ Ext F5 1 st st' ∧ Dr st' ∧ st'.N = st.N + 1 ∧
      ∀ k,x2 A6 (Al (A0 (A3 (.str [102])) (A0 (A3 (.str [102])) (A0 (A3 (.str [102])) (A0 (A3 (.str [103])) A4))))) (Am 67 (A0 (Ab 1) (A0 (A3 (.int (.ofNat 4))) A4))) (big orc (d + 1)) e st k = k (.str nm) st':=by
  obtain ⟨v,y,st',hv,hy,e1,x1,hN1,r⟩:=znW d (a:=.str [102]) (b:=.str [102]) (c4:=.str [102]) (d4:=.str [103]) x hN (show lk e.cells 1 = some 1 by rw [hc]; rfl)
  have:∃ nm,okX nm ∧ y = .str nm:=by
    have q:∀ v,v < 4→[D.str [102],.str [102],.str [102],.str [103]][v]? = some y→∃ nm,okX nm ∧ y = .str nm:=
      bel (bel (bel (bel Xx (fun h=>⟨_,.inl rfl,(Option.some.inj h).symm⟩)) (fun h=>⟨_,.inl rfl,(Option.some.inj h).symm⟩)) (fun h=>⟨_,.inl rfl,(Option.some.inj h).symm⟩)) (fun h=>⟨_,.inr rfl,(Option.some.inj h).symm⟩)
    exact q v hv hy
  obtain ⟨nm,ok,rfl⟩:=this
  exact ⟨nm,st',ok,e1,x1,hN1,r⟩
noncomputable def wD (v:Nat):D:=[w0,w1,w2,w3].getD v .none
theorem zqa:∀ v,v < 4→[wD v] = Nv v:=bel (bel (bel (bel Xx rfl) rfl) rfl) rfl
theorem zqP:∀ v,v < 4→∀ v',v' < 4→[wD v,wD v'] = Nv (4 + 4 * v + v'):=bel (bel (bel (bel Xx (bel (bel (bel (bel Xx rfl) rfl) rfl) rfl)) (bel (bel (bel (bel Xx rfl) rfl) rfl) rfl)) (bel (bel (bel (bel Xx rfl) rfl) rfl) rfl)) (bel (bel (bel (bel Xx rfl) rfl) rfl) rfl)
theorem app_eq' {α:Type} (x y:List α):app x y = x ++ y:=Mine.Qu x y
theorem zhu (d:Nat) {st:St} {e:Ax} (x:Dr st) (hN:st.N + 110 ≤ 1000000) (hc:e.cells = cL):
    ∃ (u wl:Nat) (st':St),u < 20 ∧ Ext F5 5 st st' ∧ Dr st' ∧ st.N ≤ wl ∧ wl < st'.N ∧ st'.get wl = some (.list (Nv u)) ∧
      ∀ k,Bw 4 [(3,1)] (Pi (x2 Eg (A3 (.int (.ofNat 1))) (x1 zdL (Sw cEq (Am 67 (A0 (Ab 1) (A0 (A3 (.int (.ofNat 3))) A4))) (A3 (.int (.ofNat 0))))))) (Bl (A8 1) (Bp true) (Bz (x2 A6 (Al (A0 (A3 (.str [77])) (A0 (A3 (.str [78])) (A0 (A3 (.str [65,110,121])) (A0 (A3 (.str [98,111,116,104])) A4))))) (Am 67 (A0 (Ab 3) (A0 (A3 (.int (.ofNat 4))) A4)))))) (big orc (d + 1)) e st k = k (.ref wl) st':=by
  refine bg fun P fin=>?_
  have lo:=x.lo
  obtain ⟨v0',s1,hv0,e1,x1,N1,r1⟩:=zgI d x (many:=3) om om
  have x2d:=x1.new (.list []) (by rw [N1]; lia)
  have e2:Ext F5 1 s1 (s1.new (.list [])):=Ext.new _ om
  obtain ⟨n,hn,hn2,rn⟩:∃ n:Nat,0 < n ∧ n ≤ 2 ∧ (Int.ofNat 1 + b2i (X9 (.ofNat v0') (.ofNat 0))) = .ofNat n:=by
    cases X9 (.ofNat v0') (.ofNat 0) with
    | true=>exact ⟨2,by lia,by lia,rfl⟩
    | false=>exact ⟨1,by lia,by lia,rfl⟩
  obtain ⟨e',s',⟨vs,hvl,hvs,e3,x3,N3,gacc,_⟩,run⟩:=zeS (t:=A8 1) (ifs:=Bp true) (body:=Bz (x2 A6 (Al (A0 (A3 (.str [77])) (A0 (A3 (.str [78])) (A0 (A3 (.str [65,110,121])) (A0 (A3 (.str [98,111,116,104])) A4))))) (Am 67 (A0 (Ab 3) (A0 (A3 (.int (.ofNat 4))) A4))))) (it:=.range n) (c:=big orc (d + 1)) (acc:=s1.N)
    (rng n) (fun i e s=>∃ vs:List Nat,vs.length = i ∧ (∀ v ∈ vs,v < 4) ∧ Ext F5 (1 + i) s1 s ∧ Dr s ∧ s.N = s1.N + 1 + i ∧ s.get s1.N = some (.list (vs.map wD)) ∧ e.cells = [(3,1)]) (by rw [Q8]; show _ < 100000; lia)
    (fun i e s _=>zaM)
    (fun i dd e s hd hi=>by
      obtain ⟨vs,hvl,hvs,e3,x3,N3,gacc,hce⟩:=hi
      have hi':=(zgt hd).1
      obtain ⟨v,y,s4,hv,hy,e4,x4,N4,r4⟩:=znW d (e:=⟨L9 (some dd) e.vals 1,e.cells⟩) (j:=3) (a:=.str [77]) (b:=.str [78]) (c4:=.str [65,110,121]) (d4:=.str [98,111,116,104]) x3 om (show lk e.cells 3 = some 1 by rw [hce]; rfl)
      have hy':y = wD v:=by
        have:[w0,w1,w2,w3][v]? = some y:=hy
        unfold wD
        rw [List.getD_eq_getElem?_getD,this]; rfl
      subst hy'
      have g4:s4.get s1.N = some (.list (vs.map wD)):=e4.get gacc om (by unfold F5; lia)
      have e5:Ext (fun n=>n = s1.N) 0 s4 (s4.put s1.N (.list ((vs ++ [v]).map wD))):=Ext.put _ (by have:=x4.hi; lia) om rfl
      obtain ⟨a5,b5,g5,h5⟩:=x4.dr
      have x5:Dr (s4.put s1.N (.list ((vs ++ [v]).map wD))):=⟨x4.base,x4.lo,x4.hi,e5.get x4.c1 (by have:=x4.lo; lia) om,a5,b5,e5.get g5 (by have:=x4.lo; lia) om,h5⟩
      refine ⟨⟨L9 (some dd) e.vals 1,e.cells⟩,_,⟨vs ++ [v],by rw [List.length_append,hvl]; rfl,fun z hz=>?_,?_,x5,by show s4.N = _; lia,Ep (B7 (by have:=x4.hi; lia)),hce⟩,fun nx=>?_⟩
      · rcases List.mem_append.mp hz with hz | hz
        · exact hvs z hz
        · rw [List.mem_singleton.mp hz]; exact hv
      · have:=(e3.trans e4).trans' e5 (fun m hm z=>absurd z (Nat.ne_of_lt hm))
        exact this.more om fun _ _ z=>z
      · have gl:∀ f:List D→Ans,Au s4 s1.N f = f (vs.map wD):=fun f=>Bx g4 f
        have ft:∀ z:Ans,fit (vs.map wD) z = z:=fun z=>Jg (by rw [List.length_map,hvl]; lia) z
        have up:∀ f:St→Ans,upd s4 s1.N (.list (app (vs.map wD) [wD v])) f = f (s4.put s1.N (.list ((vs ++ [v]).map wD))):=fun f=>by
          rw [Je (by rw [x4.base]; lia),app_eq',List.map_append]; rfl
        rw [Gf,Qs,Of,zei,r4,gl,ft,up]) ⟨nones 4,[(3,1)]⟩ (s1.new (.list [])) ⟨[],rfl,fun _ h=>absurd h (List.not_mem_nil),e2.more om fun _ _ z=>z,x2d,rfl,I9 om,rfl⟩
  rw [Q8] at hvl e3 N3
  have hu:∃ u,u < 20 ∧ vs.map wD = Nv u:=by
    match vs,hvl,hvs with
    | [a],_,h=>exact ⟨a,by have:=h a (by simp); lia,zqa a (h a (by simp))⟩
    | [a,b],_,h=>exact ⟨4 + 4 * a + b,by have:=h a (by simp); have:=h b (by simp); lia,zqP a (h a (by simp)) b (h b (by simp))⟩
    | [],h,_=>simp at h; lia
    | _ :: _ :: _ :: _,h,_=>simp at h; lia
  obtain ⟨u,hu,hw⟩:=hu
  rw [hw] at gacc
  refine fin ⟨u,s1.N,s',hu,(e1.trans e3).more om fun _ _ z=>z,x3,by lia,by lia,gacc,fun k=>?_⟩
  have cell:∀ f:Option D→Ans,C1 st 1 f = f (some (.ref 5)):=fun f=>Bq x.c1 f
  have lk1:lk e.cells 1 = some 1:=by rw [hc]; rfl
  have ce:∀ (i j:Int),cEq s1 (.int i) (.int j) = some (X9 i j):=fun i j=>rfl
  have bi:∀ (b:Bool) (s:St) (f:D→St→Ans),zdL s (.bool b) f = f (.int (b2i b)) s:=fun _ _ _=>rfl
  have ad:∀ (x y:Int) (s:St) (f:D→St→Ans),Eg s (.int x) (.int y) f = f (.int (x + y)) s:=fun _ _ _ _=>rfl
  have on:∀ f:Nat→Ans,zbo (.ofNat n) f = f n:=fun f=>rfl
  have bl:Nat.blt n 100000 = true:=Yi om
  have sc:∀ f:List (Nat × Nat)→Ans,Ox e.cells [(3,1)] f = f [(3,1)]:=fun f=>by rw [hc]; rfl
  simp only [↓C7,C6,v0,vS,↓lk1,lk1,↓cell,cell,↓r1,r1,↓ce,ce,↓bi,bi,↓ad,ad,↓rn,rn,↓on,on,↓bl,bl,↓Ec (show s1.N < 1000000 by lia),↓sc,sc,↓run,run]
end
section
theorem zhq {A:Nat→List D→St→Option D} {d f:Nat} {ds:List D} {st:St} {dv:D} (h:A f ds st = some dv) (k:D→St→Ans):big A (d + 1) f ds st k = k dv st:=by
  show Option.rec (motive:=fun _=>Ans) (ob (FNS.get f) fun F=>V9 F ds st fun e st=>F.body (big A d) e st k fun _ st=>k .none st) (fun dv=>k dv st) (A f ds st) = _
  rw [h]
theorem zm6:Wv (fun u=>Wv (fun v=>Nat.blt (zdM u v) 30 && Nat.beq (Df Bm (zdM u v)) u) 3) 20 = true:=by kernel_rfl
theorem zgF {u v:Nat} (hu:u < 20) (hv:v < 3):zdM u v < 30 ∧ Df Bm (zdM u v) = u:=by
  have:=E7 (E7 zm6 u hu) v hv
  rw [Bool.and_eq_true] at this
  exact ⟨Nat.blt_eq.mp this.1,Nat.eq_of_beq_eq_true this.2⟩
theorem znu (d:Nat) {st:St} {e:Ax} {nm:List Nat} {u wl:Nat} (x:Dr st) (hc:e.cells = cL) (h7:Bi e.vals 7 = some (.ref wl)) (hnm:okX nm) (hu:u < 20) (g2:st.get 2 = some (.cell (some (.str nm)))) (gw:st.get wl = some (.list (Nv u))) (hw:wl < st.N) (hw5:wl ≠ 5):
    ∃ (g:Nat) (st':St),g < 30 ∧ Df Bm g = u ∧ Ext F5 0 st st' ∧ Dr st' ∧ st'.N = st.N ∧
      ∀ k,Am 69 (A0 (Ab 3) (A0 (A2 7) (A0 (Am 67 (A0 (Ab 1) (A0 (A3 (.int (.ofNat 3))) A4))) A4))) (big orc (d + 1)) e st k = k (S nm g) st':=by
  have lo:=x.lo
  obtain ⟨v,s1,hv,e1,x1,N1,r1⟩:=zgI d x (many:=3) om om
  have gw1:s1.get wl = some (.list (Nv u)):=e1.get gw hw hw5
  refine ⟨zdM u v,s1,(zgF hu hv).1,(zgF hu hv).2,e1,x1,N1,fun k=>?_⟩
  have cell:∀ f:Option D→Ans,C1 st 1 f = f (some (.ref 5)):=fun f=>Bq x.c1 f
  have cell2:∀ f:Option D→Ans,C1 st 2 f = f (some (.str nm)):=fun f=>Bq g2 f
  have lk1:lk e.cells 1 = some 1:=by rw [hc]; rfl
  have lk3:lk e.cells 3 = some 2:=by rw [hc]; rfl
  have ans:big orc (d + 1) 69 [.str nm,.ref wl,.int (.ofNat v)] s1 k = k (S nm (zdM u v)) s1:=zhq (show A69 _ _ = _ from zoI ⟨nm,u,v,wl,hnm,hu,hv,rfl,gw1,rfl⟩) k
  simp only [↓C7,C6,v0,vS,↓lk1,lk1,↓lk3,lk3,↓cell,cell,↓cell2,cell2,↓h7,h7,↓r1,r1,↓ans,ans]
theorem T.put_put {α:Type} (o o':α):∀ (f:Nat) (t:T α) (i:Nat),T.put o f (T.put o' f t i) i = T.put o f t i
  | 0,t,i=>rfl
  | f + 1,t,0=>by rw [T.put_zero,T.put_zero,T.put_zero]; rfl
  | f + 1,t,i + 1=>by
    rw [T.put_succ,T.put_succ,T.put_succ]
    by_cases q:i % 2 = 0
    · rw [if_pos q,if_pos q,if_pos q]
      show T.node t.top (T.put o f (T.put o' f t.left (i / 2)) (i / 2)) t.right = _
      rw [T.put_put o o' f]
    · rw [if_neg q,if_neg q,if_neg q]
      show T.node t.top t.left (T.put o f (T.put o' f t.right (i / 2)) (i / 2)) = _
      rw [T.put_put o o' f]
theorem put_put (st:St) (n:Nat) (o o':Bb):(st.put n o').put n o = st.put n o:=by
  unfold St.put
  rw [T.put_put]
theorem L7 (st:St) (o o':Bb):(st.new o').put st.N o = st.new o:=by
  unfold St.put St.new
  dsimp only
  rw [T.put_put]
theorem Xl {α:Type} {l:List α} (n:Nat) (h:l.length = n) (hn:Nat.blt n 100000 = true):l.length < 100000:=by rw [h]; exact Nat.blt_eq.mp hn
section
variable {c:Cal} {vals:List (Option D)} {st:St} {ret:D→St→Ans} {next:Ax→St→Ans} {i a n C:Nat} {d:D} {es:List (Nat × D)}
theorem L5 (h0:Bi vals 0 = some (.obj C n)) (hv:Bi vals i = some d) (h:st.get n = some (.ns es)) (hb:st.base ≤ n) (hl:es.length < 100000):
    Ap (Bj a (A2 0)) (A2 i) c ⟨vals,[]⟩ st ret next = next ⟨vals,[]⟩ (st.put n (.ns (Gr a d es))):=by
  rw [Ke,C5,hv,C8,zfG,C5,h0,C8,Lr,Bo h,Jg hl,Je hb]
theorem zi3 (h0:Bi vals 0 = some (.obj C n)) (hv:Bi vals i = some d) (h:st.get n = some (.ns es)) (hb:st.base ≤ n) (hl:es.length < 100000):
    Ap (Si C a (A2 0)) (A2 i) c ⟨vals,[]⟩ st ret next = next ⟨vals,[]⟩ (st.put n (.ns (Gr a d es))):=by
  rw [Ke,C5,hv,C8,zdX,C5,h0,C8,Lr,Nat.beq_refl,zfb,Bo h,Jg hl,Je hb]
end
structure Row where
  i:Nat
  x:List Nat
  u:Nat
  g:Nat
  t:Option Nat
  m:Nat
  r:Nat
  w:Nat
  nl:Nat
noncomputable def toD:Option Nat→D
  | none=>.none
  | some t=>.int (.ofNat t)
noncomputable def mNs (r:Row):List (Nat × D):=[(51,.int (.ofNat r.i)),(69,.str r.x),(62,S r.x r.g),(49,.ref r.nl),(26,.bool false),(14,.none),(73,.none),(81,.int (.ofNat (r.i + 2))),(82,toD r.t)]
noncomputable def rL (r:Row):List D:=[.str r.x,.ref r.w,.int (.ofNat r.i),.int (.ofNat (r.i + 2)),toD r.t,S r.x r.g]
noncomputable def Ty (nm sg nl:D):List (Nat × D):=[(51,.int (.ofNat 99)),(69,nm),(62,sg),(49,nl),(26,.bool false),(14,.none),(73,.none),(81,.int (.ofNat 0)),(82,.none)]
theorem zfO (d:Nat) {st:St} {nm sg nl:D} (hb:st.base = 1) (h1:1025 ≤ st.N) (h2:st.N < 1000000) (k:Nat→St→Ans):
    (Dg st (.ns []) fun n st=>big orc (d + 1) 62 [.obj 7 n,.int (.ofNat 99),nm,sg,nl,.bool false,.none,.none] st fun r st=>Xb r (k n st)) = k st.N (st.new (.ns (Ty nm sg nl))):=by
  have B:st.N + 1 < 2 ^ Ee:=B7 om
  rw [Ec h2,Ds Iz [some (.obj 7 st.N),some (.int (.ofNat 99)),some nm,some sg,some nl,some (.bool false),some .none,some .none,some (.int (.ofNat 0)),some .none]
    (A1 Cs (A1 Cv (A1 Co (A1 Cu (A1 Cr (A1 Cw (A1 Cq (A1 Cn (A1 Cp A5))))))))) rfl rfl rfl rfl rfl rfl]
  unfold Cs Cv Co Cu Cr Cw Cq Cn Cp
  have hbn:(st.new (.ns [])).base ≤ st.N:=by show st.base ≤ _; lia
  have hbp:∀ es,(st.new (.ns es)).base ≤ st.N:=fun es=>by show st.base ≤ _; lia
  have g:∀ es,(st.new (.ns es)).get st.N = some (.ns es):=fun es=>I9 h2
  rw [Bc,L5 (C:=7) (n:=st.N) (d:=.int (.ofNat 99)) (es:=[]) rfl rfl (g _) (hbp _) (Xl 0 rfl rfl),L7,
    Bc,zi3 (C:=7) (n:=st.N) (d:=nm) rfl rfl (g _) (hbp _) (Xl 1 rfl rfl),L7,
    Bc,L5 (C:=7) (n:=st.N) (d:=sg) rfl rfl (g _) (hbp _) (Xl 2 rfl rfl),L7,
    Bc,L5 (C:=7) (n:=st.N) (d:=nl) rfl rfl (g _) (hbp _) (Xl 3 rfl rfl),L7,
    Bc,L5 (C:=7) (n:=st.N) (d:=.bool false) rfl rfl (g _) (hbp _) (Xl 4 rfl rfl),L7,
    Bc,L5 (C:=7) (n:=st.N) (d:=.none) rfl rfl (g _) (hbp _) (Xl 5 rfl rfl),L7,
    Bc,L5 (C:=7) (n:=st.N) (d:=.none) rfl rfl (g _) (hbp _) (Xl 6 rfl rfl),L7,
    Bc,L5 (C:=7) (n:=st.N) (d:=.int (.ofNat 0)) rfl rfl (g _) (hbp _) (Xl 7 rfl rfl),L7,
    Bc,L5 (C:=7) (n:=st.N) (d:=.none) rfl rfl (g _) (hbp _) (Xl 8 rfl rfl),L7,za0,zej]
  rfl
end
theorem zhc {t:Option Nat}:Pv (toD t) = t.isNone:=by cases t <;> rfl
noncomputable def Wu (u wd:Nat) (r:Row):Row:=if r.t.isNone ∧ r.u = u then { r with t:=some wd } else r
theorem KAt.ext {F:Nat→Prop} {c:Nat} {st st':St} (k:KAt st) (x:Ext F c st st') (h:∀ n,F n→n < 1018→n < 6):KAt st':=
  ⟨Nat.le_trans k.1 x.le,fun n o e=>by
    have l:=(zgC none n o e).1
    have l2:6 ≤ n:=by
      have h6:T.allB (fun n (_:Bb)=>Nat.ble 6 n) SKH 1 0 = true:=by kernel_rfl
      exact Nat.le_of_ble_eq_true ((T.allB_all h6).get1 n o e)
    exact x.get (k.2 n o e) (Nat.lt_of_lt_of_le l k.1) fun z=>by have:=h n z l; lia⟩
theorem zmM (d:Nat) {st:St} {m:Nat} {v:D} {es:List (Nat × D)} (h:st.get m = some (.ns es)) (hb:st.base ≤ m) (hl:es.length < 100000) (k:D→St→Ans):
    big orc (d + 1) 64 [.obj 7 m,v] st k = k .none (st.put m (.ns (Gr 82 v es))):=by
  rw [Ds S7 [some (.obj 7 m),some v] (A1 Fa A5) rfl rfl rfl rfl rfl rfl]
  unfold Fa
  rw [Bc,L5 (C:=7) (n:=m) (d:=v) rfl rfl h hb hl,za0]
theorem Q6 {c:Cal} {e:Ax} {st:St} {a C n f:Nat} {es:List (Nat × D)} {cl:Cl} {x:Sm D} {xs:Sm (List D)} {k:D→St→Ans} (hx:∀ f,x c e st f = f (.obj C n) st) (hn:st.get n = some (.ns es)) (hl:lk es a = none) (hc:D0 CLS C = some cl) (hf:lk cl.ms a = some f):
    Az CLS a x xs c e st k = xs c e st fun ds st=>c f (.obj C n :: ds) st k:=by
  rw [zg5,hx,Lr,Bo hn,hl,hc,Xk,hf,Xk]
theorem znb (r:Row):(mNs r).length < 100000:=Xl 9 rfl rfl
theorem W3 {α β:Type} {f:α→β} {l:List α} (h:(l.map f).Nodup) {i j:Nat} {a b:α} (hi:l[i]? = some a) (hj:l[j]? = some b) (e:f a = f b):i = j:=by
  have hi':(l.map f)[i]? = some (f a):=by rw [List.getElem?_map,hi]; rfl
  have hj':(l.map f)[j]? = some (f a):=by rw [List.getElem?_map,hj,e]; rfl
  exact (List.getElem?_inj (List.getElem?_eq_some_iff.mp hi').1 h).mp (hi'.trans hj'.symm)
theorem zdK (d:Nat) {st:St} {tn tl:Nat} {E:List Row} {r0:Row} (hk:KAt st) (hb:st.base = 1) (h1:1025 ≤ st.N) (h2:st.N < 1000000) (gt:st.get tn = some (.ns [(48,.str r0.x),(47,.ref tl)])) (gl:st.get tl = some (.list (E.map fun r=>.obj 7 r.m)))
    (gE:∀ r ∈ E,st.get r.m = some (.ns (mNs r)) ∧ r.x = r0.x ∧ r.g < 30 ∧ Df Bm r.g = r.u ∧ 1025 ≤ r.m ∧ r.m < st.N) (g0:st.get r0.m = some (.ns (mNs r0))) (hx:okX r0.x) (h0:r0.g < 30) (hu0:Df Bm r0.g = r0.u)
    (nd:(E.map (·.m)).Nodup) (hm0:∀ r ∈ E,r.m ≠ r0.m) (htl:∀ r ∈ E,r.m ≠ tl) (htn:∀ r ∈ E,r.m ≠ tn) (htl1:1025 ≤ tl) (htlN:tl < st.N) (htnN:tn < st.N) (hm0N:r0.m < st.N) (hE:E.length < 1000):
    ∃ st',Ext (fun n=>n = tl ∨ ∃ r ∈ E,r.m = n) 0 st st' ∧ st'.N = st.N ∧ (∀ r ∈ E,st'.get r.m = some (.ns (mNs (Wu r0.u (r0.i + 2) r)))) ∧ st'.get tl = some (.list ((E.map fun r=>D.obj 7 r.m) ++ [.obj 7 r0.m])) ∧
      ∀ k,big orc (d + 2) 45 [.obj 3 tn,.obj 7 r0.m,.obj 6 6] st k = k .none st':=by
  refine bg fun P fin=>?_
  have F1:∀ n,(∃ r ∈ E,r.m = n)→n < 1018→n < 6:=fun n ⟨r,hr,e⟩ l=>by have:=(gE r hr).2.2.2.2.1; lia
  obtain ⟨e',s',⟨x1,N1,gs,y3,he⟩,run⟩:=Vr (t:=A8 3) (b:=A1 (sIf (B3 true (Ao cIs (Ah 82 (A2 3)) (A3 .none)) (B3 true (T3 (Am 43 (A0 (A2 2) (A0 (Ah 62 (A2 3)) (A0 (Ah 62 (A2 1)) A4))))) (Bp true))) (A1 (C0 (Az CLS 19 (A2 3) (A0 (Ah 81 (A2 1)) A4))) A5) A5) A5) (it:=.of (.ref tl)) (c:=big orc (d + 1))
    (E.map fun r=>D.obj 7 r.m) (fun i e s=>Ext (fun n=>∃ r ∈ E,r.m = n) 0 st s ∧ s.N = st.N ∧ (∀ (k:Nat) (r:Row),E[k]? = some r→s.get r.m = some (.ns (mNs (if k < i then Wu r0.u (r0.i + 2) r else r)))) ∧ ∃ y3,e = ⟨[some (.obj 3 tn),some (.obj 7 r0.m),some (.obj 6 6),y3,none],[]⟩) (by rw [List.length_map]; show _ < 100000; lia)
    (fun i e s hi=>Zl (hi.1.get gl htlN fun ⟨r,hr,e⟩=>htl r hr e))
    (fun i dd e s hd hi=>by
      obtain ⟨xs,Ns,gs,y3,rfl⟩:=hi
      obtain ⟨r,hr,rfl⟩:∃ r,E[i]? = some r ∧ dd = .obj 7 r.m:=by
        rw [List.getElem?_map] at hd
        cases q:E[i]? with
        | none=>rw [q] at hd; cases hd
        | some r=>rw [q] at hd; cases hd; exact ⟨r,rfl,rfl⟩
      have hrE:=List.mem_of_getElem? hr
      have gr:s.get r.m = some (.ns (mNs r)):=by have:=gs i r hr; rwa [if_neg (Nat.lt_irrefl i)] at this
      have g0':s.get r0.m = some (.ns (mNs r0)):=xs.get g0 hm0N fun ⟨r,hr,e⟩=>hm0 r hr e
      obtain ⟨_,hrx,hrg,hru,hr1,hrN⟩:=gE r hrE
      have sv:L9 (some (D.obj 7 r.m)) [some (.obj 3 tn),some (.obj 7 r0.m),some (.obj 6 6),y3,none] 3 = [some (.obj 3 tn),some (.obj 7 r0.m),some (.obj 6 6),some (.obj 7 r.m),none]:=rfl
      have b82:∀ f:List (Nat × D)→Option (D × St),C9 s r.m f = f (mNs r):=fun f=>Bo gr f
      have b0:∀ f:List (Nat × D)→Option (D × St),C9 s r0.m f = f (mNs r0):=fun f=>Bo g0' f
      have l82:lk (mNs r) 82 = some (toD r.t):=rfl
      have l62:lk (mNs r) 62 = some (S r.x r.g):=rfl
      have m62:lk (mNs r0) 62 = some (S r0.x r0.g):=rfl
      have m81:lk (mNs r0) 81 = some (.int (.ofNat (r0.i + 2))):=rfl
      have ci:∀ t,cIs s (toD t) .none = some t.isNone:=fun t=>by show some (Pv (toD t)) = _; rw [zhc]
      have k6:KAt s:=hk.ext xs F1
      have ans:∀ k,big orc (d + 1) 43 [.obj 6 6,S r.x r.g,S r0.x r0.g] s k = k (.bool (Nat.beq r.u r0.u)) s:=fun k=>
        zhq (show A43 _ _ = _ from zpJ ⟨r0.x,r.g,r0.g,hx,hrg,h0,k6,by rw [hrx],by rw [hru,hu0]⟩) k
      by_cases q:r.t.isNone = true ∧ r.u = r0.u
      · have e5:Ext (fun n=>∃ r ∈ E,r.m = n) 0 s (s.put r.m (.ns (mNs { r with t:=some (r0.i + 2) }))):=Ext.put _ om om ⟨r,hrE,rfl⟩
        refine ⟨⟨[some (.obj 3 tn),some (.obj 7 r0.m),some (.obj 6 6),some (.obj 7 r.m),none],[]⟩,_,⟨(xs.trans e5).more (Nat.le_refl _) fun _ _ z=>z,Ns,fun k r' hr'=>?_,_,rfl⟩,fun ret nx=>?_⟩
        · by_cases z:k = i
          · subst z
            rw [hr] at hr'; injection hr' with hr'; subst hr'
            rw [Ep (B7 om),if_pos (Nat.lt_succ_self _)]
            unfold Wu
            rw [if_pos q]
          · have hne:r'.m ≠ r.m:=fun e=>z (W3 nd hr' hr e)
            rw [Bs _ _ _ (B7 om),if_neg hne,gs k r' hr']
            by_cases w:k < i
            · rw [if_pos w,if_pos om]
            · rw [if_neg w,if_neg om]
        · have en:∀ k,big orc (d + 1) 64 [.obj 7 r.m,.int (.ofNat (r0.i + 2))] s k = k .none (s.put r.m (.ns (mNs { r with t:=some (r0.i + 2) }))):=fun k=>zmM d gr (by rw [xs.base,hb]; lia) (znb r) k
          have mg:∀ k,Az CLS 19 (A2 3) (A0 (Ah 81 (A2 1)) A4) (big orc (d + 1)) ⟨[some (.obj 3 tn),some (.obj 7 r0.m),some (.obj 6 6),some (.obj 7 r.m),none],[]⟩ s k = A0 (Ah 81 (A2 1)) A4 (big orc (d + 1)) ⟨[some (.obj 3 tn),some (.obj 7 r0.m),some (.obj 6 6),some (.obj 7 r.m),none],[]⟩ s fun ds st=>big orc (d + 1) 64 (.obj 7 r.m :: ds) st k:=fun k=>Q6 (fun f=>by rw [C5,vS,vS,vS,v0,C8]) gr rfl rfl rfl
          have be:Nat.beq r.u r0.u = true:=by rw [q.2]; exact Nat.beq_refl _
          have z1:Di true true = true:=rfl
          simp only [↓C7,C6,v0,vS,↓sv,sv,↓b82,b82,↓b0,b0,↓l82,l82,↓l62,l62,↓m62,m62,↓m81,m81,↓ci,ci,↓q.1,q.1,↓z1,z1,↓ans,ans,↓be,be,↓mg,mg,↓en,en]
      · refine ⟨⟨[some (.obj 3 tn),some (.obj 7 r0.m),some (.obj 6 6),some (.obj 7 r.m),none],[]⟩,s,⟨xs,Ns,fun k r' hr'=>?_,_,rfl⟩,fun ret nx=>?_⟩
        · by_cases z:k = i
          · subst z
            rw [hr] at hr'; injection hr' with hr'; subst hr'
            rw [if_pos (Nat.lt_succ_self _),gr]
            unfold Wu
            rw [if_neg q]
          · rw [gs k r' hr']
            by_cases w:k < i
            · rw [if_pos w,if_pos om]
            · rw [if_neg w,if_neg om]
        · have z1:Di true true = true:=rfl
          have z2:Di false true = false:=rfl
          cases qt:r.t.isNone with
          | false=>simp only [↓C7,C6,v0,vS,↓sv,sv,↓b82,b82,↓l82,l82,↓ci,ci,↓qt,qt,↓z2,z2]
          | true=>
            have be:Nat.beq r.u r0.u = false:=by
              cases z:Nat.beq r.u r0.u with
              | false=>rfl
              | true=>exact absurd ⟨qt,Nat.eq_of_beq_eq_true z⟩ q
            simp only [↓C7,C6,v0,vS,↓sv,sv,↓b82,b82,↓b0,b0,↓l82,l82,↓l62,l62,↓m62,m62,↓ci,ci,↓qt,qt,↓z1,z1,↓z2,z2,↓ans,ans,↓be,be]) ⟨[some (.obj 3 tn),some (.obj 7 r0.m),some (.obj 6 6),none,none],[]⟩ st ⟨Ext.refl,rfl,fun k r hr=>by rw [if_neg (Nat.not_lt_zero k)]; exact (gE r (List.mem_of_getElem? hr)).1,none,rfl⟩
  subst he
  rw [List.length_map] at gs
  have gl':s'.get tl = some (.list (E.map fun r=>.obj 7 r.m)):=x1.get gl htlN fun ⟨r,hr,e⟩=>htl r hr e
  have gt':s'.get tn = some (.ns [(48,.str r0.x),(47,.ref tl)]):=x1.get gt htnN fun ⟨r,hr,e⟩=>htn r hr e
  have e6:Ext (fun n=>n = tl ∨ ∃ r ∈ E,r.m = n) 0 s' (s'.put tl (.list ((E.map fun r=>D.obj 7 r.m) ++ [.obj 7 r0.m]))):=Ext.put _ om om (.inl rfl)
  refine fin ⟨_,((x1.more (Nat.le_refl _) fun _ _ z=>.inr z).trans e6).more (Nat.le_refl _) fun _ _ z=>z,N1,fun r hr=>?_,Ep (B7 om),fun k=>?_⟩
  · obtain ⟨j,hj⟩:=List.mem_iff_getElem?.mp hr
    have:=gs j r hj
    rw [if_pos (List.getElem?_eq_some_iff.mp hj).1] at this
    rw [Bs _ _ _ (B7 om),if_neg (htl r hr)]
    exact this
  · rw [Ds Uw [some (.obj 3 tn),some (.obj 7 r0.m),some (.obj 6 6),none,none] (A1 G9 (A1 G6 A5)) rfl rfl rfl rfl rfl rfl]
    unfold G9 G6
    have at47:∀ (f:List (Nat × D)→Ans),C9 st tn f = f [(48,.str r0.x),(47,.ref tl)]:=fun f=>Bo gt f
    have at47':∀ (f:List (Nat × D)→Ans),C9 s' tn f = f [(48,.str r0.x),(47,.ref tl)]:=fun f=>Bo gt' f
    have l47:lk [(48,.str r0.x),(47,D.ref tl)] 47 = some (.ref tl):=rfl
    have itm:∀ f:List D→Ans,Dq st (.ref tl) f = f (E.map fun r=>.obj 7 r.m):=fun f=>E1 gl f
    rw [Bc,zcw,Ur,Po,C5,v0,C8,Lr,at47,l47,C8,itm,run]
    have gg:∀ f:Ans,N6 s' (.ref tl) f = f:=fun f=>by show Au s' tl (fun _=>f) = f; rw [Bx gl']
    have ma:∀ f:D→St→Ans,Fi s' (.ref tl) (.obj 7 r0.m) f = f .none (s'.put tl (.list ((E.map fun r=>D.obj 7 r.m) ++ [.obj 7 r0.m]))):=fun f=>by
      show Au s' tl (fun xs=>fit xs (upd s' tl (.list (app xs [.obj 7 r0.m])) fun st=>f .none st)) = _
      rw [Bx gl',Jg (by rw [List.length_map]; lia),Je (by rw [x1.base,hb]; lia),app_eq']
    rw [Bc,zgK,znK,Po,C5,v0,C8,Lr,at47',l47,C8,gg,C5,vS,v0,C8,ma,zej,za0]
theorem W1:∀ a b:List Nat,Eu a b = decide (a = b)
  | [],[]=>rfl
  | [],b :: s=>rfl
  | a :: r,[]=>rfl
  | a :: r,b :: s=>by
    show ifB (Nat.beq a b) (Eu r s) false = _
    rw [W1 r s]
    by_cases q:a = b
    · subst q; rw [Nat.beq_refl,Of]; simp
    · have:Nat.beq a b = false:=by
        cases z:Nat.beq a b with
        | false=>rfl
        | true=>exact absurd (Nat.eq_of_beq_eq_true z) q
      rw [this,Sy]; simp [q]
theorem zgB (p:List Nat × D) (r:List (List Nat × D)) (x:List Nat):lkS (p :: r) x = if p.1 = x then some p.2 else lkS r x:=by
  show ifB (Eu p.1 x) (some p.2) (lkS r x) = _
  rw [W1,C2]
  by_cases q:p.1 = x <;> simp [q]
theorem zcx {x:List Nat}:∀ {l:List (List Nat × D)},(∀ p ∈ l,p.1 ≠ x)→lkS l x = none
  | [],_=>rfl
  | p :: r,h=>by rw [zgB,if_neg (h p List.mem_cons_self)]; exact zcx fun q m=>h q (List.mem_cons_of_mem _ m)
theorem U9 {x:List Nat} {v:D}:∀ {l:List (List Nat × D)},(∀ p ∈ l,p.1 ≠ x)→zaz x v l = l ++ [(x,v)]
  | [],_=>rfl
  | p :: r,h=>by
    show ifB (Eu p.1 x) ((p.1,v) :: r) (p :: zaz x v r) = _
    rw [W1,decide_eq_false (h p List.mem_cons_self),Sy,U9 fun q m=>h q (List.mem_cons_of_mem _ m)]; rfl
structure Tb where
  x:List Nat
  n:Nat
  l:Nat
noncomputable def tD (t:Tb):List Nat × D:=(t.x,.obj 3 t.n)
theorem zeo {t:Tb}:∀ {ts:List Tb},(ts.map (·.x)).Nodup→t ∈ ts→lkS (ts.map tD) t.x = some (.obj 3 t.n)
  | a :: r,nd,m=>by
    rw [List.map_cons,zgB]
    rw [List.map_cons,List.nodup_cons] at nd
    rcases List.mem_cons.mp m with rfl | m
    · exact if_pos rfl
    · rw [if_neg (show ¬ (tD a).1 = t.x from fun e:a.x = t.x=>nd.1 (by rw [e]; exact List.mem_map_of_mem m))]; exact zeo nd.2 m
noncomputable def Hd (v:Nat):List (Nat × D):=[(38,.obj 6 6),(71,.ref 1019),(5,.ref 1020),(80,.int (.ofNat v))]
theorem zgg {st:St} {n:Nat} {es:List (List Nat × D)} {x:List Nat} {v:D} (h:st.get n = some (.dict es)) (hx:lkS es x = some v) (k:D→St→Ans):A6 st (.ref n) (.str x) k = k v st:=by
  show Mb (.ref n) (fun n=>Np st n fun es=>ob (lkS es x) fun d=>k d st) = _
  rw [ziZ,zhK h,hx,Xk]
theorem zsW {st:St} {n:Nat} {es:List (List Nat × D)} {x:List Nat} (h:st.get n = some (.dict es)):inD st (.str x) (.ref n) = some (lkS es x).isSome:=by
  have h:T.get st.H n = some (.dict es):=h
  show (ob (T.get st.H n) fun o=>_) = _
  rw [h]
  show Option.rec (motive:=fun _=>Option Bool) (some false) (fun _=>some true) (lkS es x) = _
  cases lkS es x <;> rfl
theorem zh4 {st:St} {n:Nat} {es:List (List Nat × D)} {x:List Nat} {d:D} (h:st.get n = some (.dict es)) (hl:es.length < 100000) (hb:st.base ≤ n) (k:St→Ans):setItem st (.ref n) (.str x) d k = k (st.put n (.dict (zaz x d es))):=by
  have h:T.get st.H n = some (.dict es):=h
  show (ob (T.get st.H n) fun b=>_) = _
  rw [h]
  show fit es (upd st n (.dict (zaz x d es)) k) = _
  rw [Jg hl,Je hb]
theorem zd5 (d:Nat) {st:St} {ts:List Tb} {x:List Nat} {v:Nat} (hb:st.base = 1) (h1:1025 ≤ st.N) (h2:st.N + 10 < 1000000) (hts:ts.length < 1000) (gtb:st.get 1018 = some (.ns (Hd v))) (gtd:st.get 1019 = some (.dict (ts.map tD))) (nd:(ts.map (·.x)).Nodup):
    ∃ (t:Tb) (ts':List Tb) (st':St),t ∈ ts' ∧ t.x = x ∧ Ext (fun n=>n = 1019) 2 st st' ∧ st'.get 1019 = some (.dict (ts'.map tD)) ∧
      ((ts' = ts ∧ st' = st) ∨ ((∀ t ∈ ts,t.x ≠ x) ∧ ts' = ts ++ [t] ∧ st'.get t.n = some (.ns [(48,.str x),(47,.ref t.l)]) ∧ st'.get t.l = some (.list []) ∧ t.n = st.N ∧ t.l = st.N + 1 ∧ st'.N = st.N + 2)) ∧
      ∀ k,big orc (d + 2) 48 [.obj 4 1018,.str x] st k = k (.obj 3 t.n) st':=by
  have call:∀ k,big orc (d + 2) 48 [.obj 4 1018,.str x] st k = A1 D2 (A1 D3 A5) (big orc (d + 1)) ⟨[some (.obj 4 1018),some (.str x),none],[]⟩ st k fun _ st=>k .none st:=fun k=>
    Ds O9 _ _ rfl rfl rfl rfl rfl rfl
  have atb:∀ f:List (Nat × D)→Ans,C9 st 1018 f = f (Hd v):=fun f=>Bo gtb f
  have l71:lk (Hd v) 71 = some (.ref 1019):=rfl
  have ni:∀ s:St,s.get 1019 = some (.dict (ts.map tD))→Qd s (.str x) (.ref 1019) = some (Rv (lkS (ts.map tD) x).isSome):=fun s g=>by
    show ob (inD s (.str x) (.ref 1019)) (fun r=>some (Rv r)) = _
    rw [zsW g,Xk]
  by_cases q:∃ t ∈ ts,t.x = x
  · obtain ⟨t,ht,rfl⟩:=q
    have lt:=zeo nd ht
    refine ⟨t,ts,st,ht,rfl,Ext.refl,gtd,.inl ⟨rfl,rfl⟩,fun k=>?_⟩
    rw [call]
    unfold D2 D3
    have z:Rv (some (D.obj 3 t.n)).isSome = false:=rfl
    have it:∀ f,A6 st (.ref 1019) (.str t.x) f = f (.obj 3 t.n) st:=fun f=>zgg gtd lt f
    simp only [↓C7,C6,v0,vS,↓atb,atb,↓l71,l71,↓ni st gtd,ni st gtd,↓lt,lt,↓z,z,↓it,it]
  · have ne:∀ t ∈ ts,t.x ≠ x:=fun t ht e=>q ⟨t,ht,e⟩
    have neD:∀ p ∈ ts.map tD,p.1 ≠ x:=fun p m=>by
      obtain ⟨t,ht,rfl⟩:=List.mem_map.mp m
      exact ne t ht
    have ln:=zcx neD
    generalize hs1:st.new (.ns [(48,.str x)]) = s1
    have N1:s1.N = st.N + 1:=by rw [← hs1]; rfl
    have B1:s1.base = 1:=by rw [← hs1]; exact hb
    have g1:s1.get st.N = some (.ns [(48,.str x)]):=by rw [← hs1]; exact I9 om
    generalize hs2:(s1.new (.list [])).put st.N (.ns [(48,.str x),(47,.ref s1.N)]) = s2
    have e1:Ext (fun n=>n = 1019) 1 st s1:=by rw [← hs1]; exact Ext.new _ om
    have e2:Ext (fun n=>n = st.N) 1 s1 s2:=by
      rw [← hs2]
      exact (Ext.new (F:=fun n=>n = st.N) (.list []) om).trans (Ext.put (st:=s1.new (.list [])) (n:=st.N) _ (show s1.N + 1 ≤ 1000000 by lia) (show st.N < s1.N + 1 by lia) rfl)
    have N2:s2.N = st.N + 2:=by rw [← hs2]; show s1.N + 1 = _; lia
    have B2:s2.base = 1:=e2.base.trans B1
    have e12:Ext (fun n=>n = 1019) 2 st s2:=(e1.trans' e2 fun n hn z=>absurd z (Nat.ne_of_lt hn)).more (Nat.le_refl _) fun _ _ z=>z
    have gtd2:s2.get 1019 = some (.dict (ts.map tD)):=e2.get (by rw [← hs1,Ai _ _ (B7 om),if_neg om]; exact gtd) om om
    have gtb2:s2.get 1018 = some (.ns (Hd v)):=e12.get gtb om om
    have gn2:s2.get st.N = some (.ns [(48,.str x),(47,.ref (st.N + 1))]):=by rw [← hs2,N1]; exact Ep (B7 om)
    have gl2:s2.get (st.N + 1) = some (.list []):=by
      rw [← hs2,Bs _ _ _ (B7 om),if_neg om,← N1]; exact I9 om
    have e3:Ext (fun n=>n = 1019) 0 s2 (s2.put 1019 (.dict (ts.map tD ++ [(x,.obj 3 st.N)]))):=Ext.put _ om om rfl
    have gtd3:(s2.put 1019 (.dict (ts.map tD ++ [(x,.obj 3 st.N)]))).get 1019 = some (.dict (ts.map tD ++ [(x,.obj 3 st.N)])):=Ep (B7 om)
    have gtb3:=e3.get gtb2 om om
    have gn3:=e3.get gn2 om om
    have gl3:=e3.get gl2 om om
    have N3:(s2.put 1019 (.dict (ts.map tD ++ [(x,.obj 3 st.N)]))).N = st.N + 2:=by unfold St.put; exact N2
    have e13:Ext (fun n=>n = 1019) 2 st (s2.put 1019 (.dict (ts.map tD ++ [(x,.obj 3 st.N)]))):=(e12.trans e3).more (Nat.le_refl _) fun _ _ z=>z
    have gtd4:(s2.put 1019 (.dict (ts.map tD ++ [(x,.obj 3 st.N)]))).get 1019 = some (.dict ((ts ++ [(⟨x,st.N,st.N + 1⟩:Tb)]).map tD)):=by rw [gtd3,List.map_append]; rfl
    suffices run:∀ k,big orc (d + 2) 48 [.obj 4 1018,.str x] st k = k (.obj 3 st.N) (s2.put 1019 (.dict (ts.map tD ++ [(x,.obj 3 st.N)]))) by
      generalize s2.put 1019 (.dict (ts.map tD ++ [(x,.obj 3 st.N)])) = s3 at *
      exact ⟨⟨x,st.N,st.N + 1⟩,ts ++ [⟨x,st.N,st.N + 1⟩],s3,List.mem_append_right _ List.mem_cons_self,rfl,e13,gtd4,.inr ⟨ne,rfl,gn3,gl3,rfl,rfl,N3⟩,run⟩
    intro k
    rw [call]
    unfold D2 D3
    have z:Rv (none:Option D).isSome = true:=rfl
    have mk:∀ f:Nat→St→Ans,(Dg st (.ns []) fun n st=>big orc (d + 1) 44 [.obj 3 n,.str x] st fun r st=>Xb r (f n st)) = f st.N s2:=fun f=>by
      rw [Ec om,Ds Jn [some (.obj 3 st.N),some (.str x)] (A1 Dc (A1 Dd A5)) rfl rfl rfl rfl rfl rfl]
      unfold Dc Dd
      rw [Bc,L5 (C:=3) (n:=st.N) (d:=.str x) (es:=[]) rfl rfl (I9 om) (by show st.base ≤ _; lia) (Xl 0 rfl rfl),L7]
      show (A1 (Ap (Bj 47 (A2 0)) (Al A4)) A5) (big orc d) _ (st.new (.ns [(48,.str x)])) _ _ = _
      rw [hs1]
      have at1:∀ f:List (Nat × D)→Ans,C9 (s1.new (.list [])) st.N f = f [(48,.str x)]:=fun f=>Bo (by rw [Ai _ _ (B7 om),if_neg om]; exact g1) f
      have up:∀ f:St→Ans,upd (s1.new (.list [])) st.N (.ns (Gr 47 (.ref s1.N) [(48,.str x)])) f = f s2:=fun f=>by
        rw [Je (by show s1.base ≤ _; lia)]
        show f ((s1.new (.list [])).put st.N (.ns [(48,.str x),(47,.ref s1.N)])) = _
        rw [hs2]
      have ft:∀ z:Ans,fit [(48,D.str x)] z = z:=fun z=>Jg (Xl 1 rfl rfl) z
      simp only [↓C7,C6,v0,vS,↓Ec (show s1.N < 1000000 by lia),↓at1,at1,↓ft,ft,↓up,up]
    have si:∀ f:St→Ans,setItem s2 (.ref 1019) (.str x) (.obj 3 st.N) f = f (s2.put 1019 (.dict (ts.map tD ++ [(x,.obj 3 st.N)]))):=fun f=>by
      rw [zh4 gtd2 (by rw [List.length_map]; lia) om,U9 neD]
    have at2:∀ f:List (Nat × D)→Ans,C9 s2 1018 f = f (Hd v):=fun f=>Bo gtb2 f
    have at3:∀ f:List (Nat × D)→Ans,C9 (s2.put 1019 (.dict (ts.map tD ++ [(x,.obj 3 st.N)]))) 1018 f = f (Hd v):=fun f=>Bo gtb3 f
    have lx:lkS (ts.map tD ++ [(x,D.obj 3 st.N)]) x = some (.obj 3 st.N):=by
      rw [← U9 (v:=.obj 3 st.N) neD]
      generalize ts.map tD = l at neD
      induction l with
      | nil=>show lkS [(x,D.obj 3 st.N)] x = _; rw [zgB,if_pos rfl]
      | cons p r ih=>
        rw [U9 neD,List.cons_append,zgB,if_neg (neD p List.mem_cons_self),← U9 (v:=.obj 3 st.N) fun q m=>neD q (List.mem_cons_of_mem _ m)]
        exact ih fun q m=>neD q (List.mem_cons_of_mem _ m)
    have it:∀ f,A6 (s2.put 1019 (.dict (ts.map tD ++ [(x,.obj 3 st.N)]))) (.ref 1019) (.str x) f = f (.obj 3 st.N) (s2.put 1019 (.dict (ts.map tD ++ [(x,.obj 3 st.N)]))):=fun f=>zgg gtd3 lx f
    simp only [↓C7,C6,v0,vS,↓atb,atb,↓l71,l71,↓ni st gtd,ni st gtd,↓ln,ln,↓z,z,↓mk,mk,↓si,si,↓at2,at2,↓at3,at3,↓it,it]
noncomputable def zjM (k:Nat) (r:Row):Prop:=r.i = k ∧ okX r.x ∧ r.u < 20 ∧ r.g < 30 ∧ Df Bm r.g = r.u
noncomputable def hd (x:List Nat):Nat:=2 * x.headD 0
theorem zrn {x y:List Nat} (hx:okX x) (hy:okX y) (h:x ≠ y):hd x ≠ hd y ∧ hd x ≠ hd y + 1 ∧ hd x + 1 ≠ hd y:=by
  rcases hx with rfl | rfl <;> rcases hy with rfl | rfl <;> first | exact absurd rfl h | decide
theorem zfv {x:List Nat} (hx:okX x):hd x + 1 < 1000:=by rcases hx with rfl | rfl <;> decide
structure zbV (st:St) (L:List Row) (ts:List Tb) (role:Nat→Nat):Prop where
  td:st.get 1019 = some (.dict (ts.map tD))
  nd:(ts.map (·.x)).Nodup
  tl:ts.length ≤ L.length
  al:st.get 1020 = some (.list (L.map fun r=>D.obj 7 r.m))
  tb:st.get 1018 = some (.ns (Hd (L.length + 1)))
  tab:∀ t ∈ ts,st.get t.n = some (.ns [(48,.str t.x),(47,.ref t.l)]) ∧ st.get t.l = some (.list ((L.filter fun r=>r.x == t.x).map fun r=>D.obj 7 r.m)) ∧ (1025 ≤ t.n ∧ t.n < st.N ∧ 1025 ≤ t.l ∧ t.l < st.N) ∧ role t.n = hd t.x ∧ role t.l = hd t.x + 1 ∧ okX t.x
  cov:∀ r ∈ L,∃ t ∈ ts,t.x = r.x
  row:∀ k r,L[k]? = some r→zjM k r ∧ st.get r.m = some (.ns (mNs r)) ∧ 1025 ≤ r.m ∧ r.m < st.N ∧ role r.m = 1000 + 3 * k
noncomputable def Nn (x:List Nat) (u wd:Nat) (r:Row):Row:=if r.x = x then Wu u wd r else r
theorem zhZ (u wd:Nat) (r:Row):(Wu u wd r).i = r.i ∧ (Wu u wd r).x = r.x ∧ (Wu u wd r).u = r.u ∧ (Wu u wd r).g = r.g ∧ (Wu u wd r).m = r.m ∧ (Wu u wd r).r = r.r ∧ (Wu u wd r).w = r.w ∧ (Wu u wd r).nl = r.nl:=by
  unfold Wu; split <;> exact ⟨rfl,rfl,rfl,rfl,rfl,rfl,rfl,rfl⟩
theorem Ny (x:List Nat) (u wd:Nat) (r:Row):(Nn x u wd r).i = r.i ∧ (Nn x u wd r).x = r.x ∧ (Nn x u wd r).u = r.u ∧ (Nn x u wd r).g = r.g ∧ (Nn x u wd r).m = r.m ∧ (Nn x u wd r).r = r.r ∧ (Nn x u wd r).w = r.w ∧ (Nn x u wd r).nl = r.nl:=by
  unfold Nn; split
  · exact zhZ u wd r
  · exact ⟨rfl,rfl,rfl,rfl,rfl,rfl,rfl,rfl⟩
theorem znU (x:List Nat) (u wd:Nat) (L:List Row) {β:Type} (f:Row→β) (hf:∀ r,f (Nn x u wd r) = f r):(L.map (Nn x u wd)).map f = L.map f:=by
  rw [List.map_map]; exact List.map_congr_left fun r _=>hf r
theorem zc3 (x:List Nat) (u wd:Nat) (y:List Nat):∀ L:List Row,((L.map (Nn x u wd)).filter fun r=>r.x == y).map (fun r=>D.obj 7 r.m) = (L.filter fun r=>r.x == y).map fun r=>D.obj 7 r.m
  | []=>rfl
  | r :: L=>by
    have h:=Ny x u wd r
    rw [List.map_cons,List.filter_cons,List.filter_cons,h.2.1]
    split
    · rw [List.map_cons,List.map_cons,zc3 x u wd y L,h.2.2.2.2.1]
    · exact zc3 x u wd y L
theorem X4 {α:Type} {L:List α} {f:α→Nat} {role:Nat→Nat} {c:Nat→Nat} (hc:∀ i j,c i = c j→i = j) (h:∀ k r,L[k]? = some r→role (f r) = c k):(L.map f).Nodup:=by
  refine List.pairwise_iff_getElem.mpr fun i j hi hj l e=>?_
  rw [List.length_map] at hi hj
  rw [List.getElem_map,List.getElem_map] at e
  have h1:=h i L[i] (List.getElem?_eq_getElem hi)
  have h2:=h j L[j] (List.getElem?_eq_getElem hj)
  rw [e,h2] at h1
  have:=hc _ _ h1
  lia
noncomputable def TF (L:List Row) (ts:List Tb) (m0 n:Nat):Prop:=n = 1018 ∨ n = 1019 ∨ n = 1020 ∨ n = m0 ∨ (∃ r ∈ L,r.m = n) ∨ (∃ t ∈ ts,t.l = n)
theorem L3 {role:Nat→Nat} {a b:Nat} (h:role a ≠ role b):a ≠ b:=fun e=>h (by rw [e])
theorem zb9 (d:Nat) {st:St} {L:List Row} {ts:List Tb} {role:Nat→Nat} {r0:Row} (I:zbV st L ts role) (hk:KAt st) (hb:st.base = 1) (h1:1025 ≤ st.N) (h2:st.N ≤ 1900) (hL:L.length < 900)
    (ok0:zjM L.length r0) (t0:r0.t = none) (g0:st.get r0.m = some (.ns (Ty (.str r0.x) (S r0.x r0.g) (.ref r0.nl)))) (hm:1025 ≤ r0.m ∧ r0.m < st.N) (hr0:role r0.m = 1000 + 3 * L.length):
    ∃ st' ts' role',Ext (TF L ts r0.m) 2 st st' ∧ zbV st' (L.map (Nn r0.x r0.u (r0.i + 2)) ++ [r0]) ts' role' ∧ (∀ n,n < st.N→role' n = role n) ∧
      ∀ k,big orc (d + 3) 49 [.obj 4 1018,.obj 7 r0.m] st k = k (.obj 7 r0.m) st':=by
  refine bg fun P fin=>?_
  obtain ⟨hi0,hx0,hu0,hg0,hw0⟩:=ok0
  have hts:=I.tl
  have n0:1025 ≤ st.N ∧ st.N ≤ 1900:=⟨h1,h2⟩
  have e1:Ext (fun n=>n = 1018 ∨ n = r0.m ∨ n = 1020) 0 st (st.put 1018 (.ns (Hd (L.length + 1 + 1)))):=Ext.put _ om om (.inl rfl)
  generalize hs1:st.put 1018 (.ns (Hd (L.length + 1 + 1))) = s1 at e1
  have N1:s1.N = st.N:=by rw [← hs1]; rfl
  have n1:1025 ≤ s1.N ∧ s1.N ≤ 1900:=N1 ▸ n0
  have e2:Ext (fun n=>n = 1018 ∨ n = r0.m ∨ n = 1020) 0 s1 (s1.put r0.m (.ns (mNs r0))):=Ext.put _ om om (.inr (.inl rfl))
  generalize hs2:s1.put r0.m (.ns (mNs r0)) = s2 at e2
  have N2:s2.N = st.N:=by rw [← hs2]; exact N1
  have n2:1025 ≤ s2.N ∧ s2.N ≤ 1900:=N2 ▸ n0
  have e3:Ext (fun n=>n = 1018 ∨ n = r0.m ∨ n = 1020) 0 s2 (s2.put 1020 (.list ((L.map fun r=>D.obj 7 r.m) ++ [.obj 7 r0.m]))):=Ext.put _ om om (.inr (.inr rfl))
  generalize hs3:s2.put 1020 (.list ((L.map fun r=>D.obj 7 r.m) ++ [.obj 7 r0.m])) = s3 at e3
  as_aux_lemma=>
  have N3:s3.N = st.N:=by rw [← hs3]; exact N2
  have n3:1025 ≤ s3.N ∧ s3.N ≤ 1900:=N3 ▸ n0
  have e03:Ext (fun n=>n = 1018 ∨ n = r0.m ∨ n = 1020) 0 st s3:=((e1.trans e2).trans e3).more (Nat.le_refl _) fun _ _ z=>z
  have tb1:s1.get 1018 = some (.ns (Hd (L.length + 1 + 1))):=by rw [← hs1]; exact Ep bo
  have tb2:s2.get 1018 = some (.ns (Hd (L.length + 1 + 1))):=by rw [← hs2,Bs _ _ _ bo,if_neg om]; exact tb1
  have tb3:s3.get 1018 = some (.ns (Hd (L.length + 1 + 1))):=by rw [← hs3,Bs _ _ _ bo,if_neg om]; exact tb2
  have al1:s1.get 1020 = some (.list (L.map fun r=>D.obj 7 r.m)):=by rw [← hs1,Bs _ _ _ bo,if_neg om]; exact I.al
  have al2:s2.get 1020 = some (.list (L.map fun r=>D.obj 7 r.m)):=by rw [← hs2,Bs _ _ _ bo,if_neg om]; exact al1
  have al3:s3.get 1020 = some (.list ((L.map fun r=>D.obj 7 r.m) ++ [.obj 7 r0.m])):=by rw [← hs3]; exact Ep bo
  have m1:s1.get r0.m = some (.ns (Ty (.str r0.x) (S r0.x r0.g) (.ref r0.nl))):=by rw [← hs1,Bs _ _ _ bo,if_neg om]; exact g0
  have m2:s2.get r0.m = some (.ns (mNs r0)):=by rw [← hs2]; exact Ep bo
  have m3:s3.get r0.m = some (.ns (mNs r0)):=by rw [← hs3,Bs _ _ _ bo,if_neg om]; exact m2
  have td3:s3.get 1019 = some (.dict (ts.map tD)):=e03.get I.td om om
  have b3:s3.base = 1:=e03.base.trans hb
  have k3:KAt s3:=hk.ext e03 fun n z l=>by lia
  obtain ⟨t,ts',s4,htm,htx,e4,td4,htc,run4⟩:=zd5 (d + 0) (x:=r0.x) b3 om om om tb3 td3 I.nd
  have n4:=e4.nb n3
  have le4:=e4.le
  have E0:∀ r ∈ L.filter (fun r=>r.x == r0.x),r ∈ L ∧ r.x = r0.x:=fun r hr=>by
    obtain ⟨a,b⟩:=List.mem_filter.mp hr
    exact ⟨a,beq_iff_eq.mp b⟩
  have mne:∀ k (r:Row),L[k]? = some r→r.m ≠ r0.m:=fun k r h=>L3 (role:=role) (by rw [(I.row k r h).2.2.2.2,hr0]; have:=(List.getElem?_eq_some_iff.mp h).1; lia)
  have rowA:∀ k (r:Row),L[k]? = some r→s4.get r.m = some (.ns (mNs r)):=fun k r h=>by
    obtain ⟨_,a,b,c,_⟩:=I.row k r h
    exact e4.get (e03.get a c (by have:=mne k r h; lia)) om om
  have m4:s4.get r0.m = some (.ns (mNs r0)):=e4.get m3 om om
  have tb4:s4.get 1018 = some (.ns (Hd (L.length + 1 + 1))):=e4.get tb3 om om
  have al4:s4.get 1020 = some (.list ((L.map fun r=>D.obj 7 r.m) ++ [.obj 7 r0.m])):=e4.get al3 om om
  have k4:KAt s4:=k3.ext e4 fun n z l=>by lia
  have b4:s4.base = 1:=e4.base.trans b3
  have tabA:∀ t' ∈ ts,s4.get t'.n = some (.ns [(48,.str t'.x),(47,.ref t'.l)]) ∧ s4.get t'.l = some (.list ((L.filter fun r=>r.x == t'.x).map fun r=>D.obj 7 r.m)):=fun t' h=>by
    obtain ⟨a,b,⟨c1,c2,c3,c4⟩,d1,d2,ok⟩:=I.tab t' h
    have hl:=zfv ok
    have n1:t'.n ≠ r0.m:=L3 (role:=role) (by rw [d1,hr0]; lia)
    have n2:t'.l ≠ r0.m:=L3 (role:=role) (by rw [d2,hr0]; lia)
    exact ⟨e4.get (e03.get a c2 om) om om,e4.get (e03.get b c4 om) om om⟩
  obtain ⟨role',hrole,hN4,tabT⟩:∃ role':Nat→Nat,(∀ n,n < st.N→role' n = role n) ∧ s4.N ≤ st.N + 2 ∧ (∀ t' ∈ ts',s4.get t'.n = some (.ns [(48,.str t'.x),(47,.ref t'.l)]) ∧ s4.get t'.l = some (.list ((L.filter fun r=>r.x == t'.x).map fun r=>D.obj 7 r.m)) ∧ (1025 ≤ t'.n ∧ t'.n < s4.N ∧ 1025 ≤ t'.l ∧ t'.l < s4.N) ∧ role' t'.n = hd t'.x ∧ role' t'.l = hd t'.x + 1 ∧ okX t'.x) ∧ (ts'.map (·.x)).Nodup ∧ ts'.length ≤ L.length + 1 ∧ (∀ t' ∈ ts',t' ∈ ts ∨ (t' = t ∧ st.N ≤ t.l)) ∧ (∀ t' ∈ ts,t' ∈ ts'):=by
    rcases htc with ⟨rfl,rfl⟩ | ⟨hne,rfl,gn,gl,en,el,eN⟩
    · refine ⟨role,fun _ _=>rfl,by lia,fun t' h=>?_,I.nd,by lia,fun t' h=>.inl h,fun t' h=>h⟩
      obtain ⟨a,b,⟨c1,c2,c3,c4⟩,d1,d2,ok⟩:=I.tab t' h
      exact ⟨(tabA t' h).1,(tabA t' h).2,⟨c1,by lia,c3,by lia⟩,d1,d2,ok⟩
    · refine ⟨fun n=>if n = st.N then hd r0.x else if n = st.N + 1 then hd r0.x + 1 else role n,fun n h=>by dsimp only; rw [if_neg om,if_neg om],by lia,fun t' h=>?_,?_,by rw [List.length_append]; show ts.length + 1 ≤ _; lia,fun t' h=>?_,fun t' h=>List.mem_append_left _ h⟩
      · rcases List.mem_append.mp h with h | h
        · obtain ⟨a,b,⟨c1,c2,c3,c4⟩,d1,d2,ok⟩:=I.tab t' h
          refine ⟨(tabA t' h).1,(tabA t' h).2,⟨c1,by lia,c3,by lia⟩,?_,?_,ok⟩
          · dsimp only; rw [if_neg om,if_neg om]; exact d1
          · dsimp only; rw [if_neg om,if_neg om]; exact d2
        · obtain rfl:=List.mem_singleton.mp h
          rw [N3] at en el eN
          have none:L.filter (fun r=>r.x == r0.x) = []:=List.filter_eq_nil_iff.mpr fun r hr e=>by
            obtain ⟨t'',h1,h2⟩:=I.cov r hr
            exact hne t'' h1 (h2.trans (beq_iff_eq.mp e))
          refine ⟨by rw [htx]; exact gn,by rw [htx,none]; exact gl,⟨by lia,by lia,by lia,by lia⟩,?_,?_,by rw [htx]; exact hx0⟩
          · dsimp only; rw [if_pos en,htx]
          · dsimp only; rw [if_neg om,if_pos el,htx]
      · rw [List.map_append]
        refine List.nodup_append.mpr ⟨I.nd,by simp,fun a ha b hb' e=>?_⟩
        obtain ⟨t',h',rfl⟩:=List.mem_map.mp ha
        obtain ⟨t'',h'',rfl⟩:=List.mem_map.mp hb'
        obtain rfl:=List.mem_singleton.mp h''
        exact hne t' h' (e.trans htx)
      · rcases List.mem_append.mp h with h | h
        · exact .inl h
        · obtain rfl:=List.mem_singleton.mp h
          exact .inr ⟨rfl,by lia⟩
  obtain ⟨tabT,ndT,lenT,memT,subT⟩:=tabT
  obtain ⟨gt4,gl4,⟨c1,c2,c3,c4⟩,rn,rl,okt⟩:=tabT t htm
  rw [htx] at gt4 gl4 rn rl okt
  have hl:=zfv okt
  have roleM:∀ k (r:Row),L[k]? = some r→role' r.m = 1000 + 3 * k:=fun k r h=>by
    obtain ⟨_,_,_,c,e⟩:=I.row k r h
    rw [hrole _ c]; exact e
  have role0:role' r0.m = 1000 + 3 * L.length:=by rw [hrole _ hm.2]; exact hr0
  have ndm:(L.map (·.m)).Nodup:=X4 (role:=role') (c:=fun k=>1000 + 3 * k) (fun i j e=>by have e:1000 + 3 * i = 1000 + 3 * j:=e; lia) fun k r h=>roleM k r h
  have EL:(L.filter fun r=>r.x == r0.x).length ≤ L.length:=List.length_filter_le _ _
  obtain ⟨s5,e5,N5,gE5,gl5,run5⟩:=zdK (d + 0) (st:=s4) (tn:=t.n) (tl:=t.l) (E:=L.filter fun r=>r.x == r0.x) (r0:=r0) k4 b4 (by lia) om gt4 gl4
    (fun r hr=>by
      obtain ⟨hrL,hrx⟩:=E0 r hr
      obtain ⟨k,hk'⟩:=List.mem_iff_getElem?.mp hrL
      obtain ⟨⟨_,_,_,q1,q2⟩,_,q3,q4,_⟩:=I.row k r hk'
      exact ⟨rowA k r hk',hrx,q1,q2,q3,by lia⟩) m4 hx0 hg0 hw0
    ((List.Sublist.map Row.m (List.filter_sublist (p:=fun r:Row=>r.x == r0.x) (l:=L))).nodup ndm)
    (fun r hr=>by obtain ⟨k,hk'⟩:=List.mem_iff_getElem?.mp (E0 r hr).1; exact mne k r hk')
    (fun r hr=>by obtain ⟨k,hk'⟩:=List.mem_iff_getElem?.mp (E0 r hr).1; exact L3 (role:=role') (by rw [roleM k r hk',rl]; lia))
    (fun r hr=>by obtain ⟨k,hk'⟩:=List.mem_iff_getElem?.mp (E0 r hr).1; exact L3 (role:=role') (by rw [roleM k r hk',rn]; lia)) c3 c4 c2 (by lia) om
  have notE:∀ n,role' n < 1000→n ≠ t.l→¬ (n = t.l ∨ ∃ r ∈ L.filter (fun r=>r.x == r0.x),r.m = n):=fun n h1 h2 h3=>by
    rcases h3 with h3 | ⟨r,hr,h3⟩
    · exact h2 h3
    · obtain ⟨k,hk'⟩:=List.mem_iff_getElem?.mp (E0 r hr).1
      have:=roleM k r hk'
      rw [h3] at this; lia
  have low:∀ n,n < 1025→¬ (n = t.l ∨ ∃ r ∈ L.filter (fun r=>r.x == r0.x),r.m = n):=fun n h1 h3=>by
    rcases h3 with h3 | ⟨r,hr,h3⟩
    · lia
    · obtain ⟨k,hk'⟩:=List.mem_iff_getElem?.mp (E0 r hr).1
      have:=(I.row k r hk').2.2.1
      lia
  refine fin ⟨s5,ts',role',?_,?_,hrole,fun k=>?_⟩
  ·
    refine ⟨?_,?_,?_,fun h=>?_,fun n hn hF=>?_⟩
    · rw [e5.base,b4,hb]
    · have:=e4.le; lia
    · lia
    · exact e5.wf (e4.wf (e03.wf h))
    · have f1:¬ (n = 1018 ∨ n = r0.m ∨ n = 1020):=fun z=>hF (by rcases z with z | z | z; exact .inl z; exact .inr (.inr (.inr (.inl z))); exact .inr (.inr (.inl z)))
      have f2:¬ n = 1019:=fun z=>hF (.inr (.inl z))
      have f3:¬ (n = t.l ∨ ∃ r ∈ L.filter (fun r=>r.x == r0.x),r.m = n):=fun z=>by
        rcases z with z | ⟨r,hr,z⟩
        · rcases memT t htm with q | ⟨_,q⟩
          · exact hF (.inr (.inr (.inr (.inr (.inr ⟨t,q,z.symm⟩)))))
          · lia
        · exact hF (.inr (.inr (.inr (.inr (.inl ⟨r,(E0 r hr).1,z⟩)))))
      rw [e5.keep n (by lia) f3,e4.keep n om f2,e03.keep n hn f1]
  ·
    have hlen:(L.map (Nn r0.x r0.u (r0.i + 2)) ++ [r0]).length = L.length + 1:=by rw [List.length_append,List.length_map]; rfl
    refine ⟨e5.get td4 (by lia) (low _ om),ndT,by rw [hlen]; exact lenT,?_,?_,fun t' ht'=>?_,fun r hr=>?_,fun k r hr=>?_⟩
    · rw [e5.get al4 (by lia) (low _ om),List.map_append,znU _ _ _ _ _ fun r=>by rw [(Ny _ _ _ r).2.2.2.2.1]]; rfl
    · rw [hlen]; exact e5.get tb4 (by lia) (low _ om)
    · obtain ⟨a,b,⟨c1',c2',c3',c4'⟩,d1,d2,ok⟩:=tabT t' ht'
      have hl':=zfv ok
      rw [List.filter_append,List.map_append,zc3]
      by_cases q:t'.x = r0.x
      · have ett:t' = t:=by
          obtain ⟨i,hi⟩:=List.mem_iff_getElem?.mp ht'
          obtain ⟨j,hj⟩:=List.mem_iff_getElem?.mp htm
          have:=W3 (f:=(·.x)) ndT hi hj (q.trans htx.symm)
          subst this
          rw [hi] at hj; injection hj
        subst ett
        have nnl:t'.n ≠ t'.l:=L3 (role:=role') (by rw [d1,d2]; lia)
        refine ⟨e5.get a c2' (notE _ om nnl),?_,⟨c1',by lia,c3',by lia⟩,d1,d2,ok⟩
        rw [gl5,q]
        have:[r0].filter (fun r=>r.x == r0.x) = [r0]:=by rw [List.filter_cons,if_pos (beq_self_eq_true _)]; rfl
        rw [this]; rfl
      · have hn:=zrn ok okt q
        have n1:t'.n ≠ t.l:=L3 (role:=role') (by rw [d1,rl]; exact hn.2.1)
        have n2:t'.l ≠ t.l:=L3 (role:=role') (by rw [d2,rl]; have:=hn.1; lia)
        refine ⟨e5.get a c2' (notE _ om n1),?_,⟨c1',by lia,c3',by lia⟩,d1,d2,ok⟩
        have:[r0].filter (fun r=>r.x == t'.x) = []:=by
          rw [List.filter_cons,if_neg (by rw [beq_iff_eq]; exact fun e=>q e.symm)]; rfl
        rw [this,List.map_nil,List.append_nil]
        exact e5.get b c4' (notE _ om n2)
    · rcases List.mem_append.mp hr with hr | hr
      · obtain ⟨r',hr',rfl⟩:=List.mem_map.mp hr
        obtain ⟨t',ht',e⟩:=I.cov r' hr'
        exact ⟨t',subT t' ht',e.trans (Ny _ _ _ r').2.1.symm⟩
      · obtain rfl:=List.mem_singleton.mp hr
        exact ⟨t,htm,htx⟩
    · by_cases q:k < L.length
      · rw [List.getElem?_append_left (by rw [List.length_map]; exact q),List.getElem?_map] at hr
        obtain ⟨r',hr',rfl⟩:∃ r',L[k]? = some r' ∧ r = Nn r0.x r0.u (r0.i + 2) r':=by
          cases z:L[k]? with
          | none=>rw [z] at hr; cases hr
          | some r'=>rw [z] at hr; cases hr; exact ⟨r',rfl,rfl⟩
        have us:=Ny r0.x r0.u (r0.i + 2) r'
        obtain ⟨⟨o1,o2,o3,o4,o5⟩,a,b,c,e⟩:=I.row k r' hr'
        refine ⟨⟨by rw [us.1]; exact o1,by rw [us.2.1]; exact o2,by rw [us.2.2.1]; exact o3,by rw [us.2.2.2.1]; exact o4,by rw [us.2.2.2.1,us.2.2.1]; exact o5⟩,?_,by rw [us.2.2.2.2.1]; exact b,by rw [us.2.2.2.2.1]; have:=e4.le; lia,by rw [us.2.2.2.2.1]; exact roleM k r' hr'⟩
        rw [us.2.2.2.2.1]
        by_cases z:r'.x = r0.x
        · have hE:r' ∈ L.filter (fun r=>r.x == r0.x):=List.mem_filter.mpr ⟨List.mem_of_getElem? hr',beq_iff_eq.mpr z⟩
          rw [gE5 r' hE]
          unfold Nn
          rw [if_pos z]
        · have nF:¬ (r'.m = t.l ∨ ∃ r ∈ L.filter (fun r=>r.x == r0.x),r.m = r'.m):=fun z'=>by
            rcases z' with z' | ⟨r2,h2,z'⟩
            · have:=roleM k r' hr'; rw [z',rl] at this; lia
            · obtain ⟨j,hj⟩:=List.mem_iff_getElem?.mp (E0 r2 h2).1
              have:=W3 (f:=(·.m)) ndm hj hr' z'
              subst this
              rw [hj] at hr'; injection hr' with hr'; subst hr'
              exact z (E0 _ h2).2
          rw [e5.get (rowA k r' hr') (by lia) nF]
          unfold Nn
          rw [if_neg z]
      · have hkl:k = L.length:=by
          have:=(List.getElem?_eq_some_iff.mp hr).1
          rw [hlen] at this; lia
        subst hkl
        rw [List.getElem?_append_right (by rw [List.length_map]; exact Nat.le_refl _),List.length_map,Nat.sub_self] at hr
        have:r = r0:=(Option.some.inj hr).symm
        subst this
        refine ⟨⟨hi0,hx0,hu0,hg0,hw0⟩,e5.get m4 (by lia) fun z=>?_,hm.1,by lia,role0⟩
        rcases z with z | ⟨r2,h2,z⟩
        · have:=role0; rw [z,rl] at this; lia
        · obtain ⟨j,hj⟩:=List.mem_iff_getElem?.mp (E0 r2 h2).1
          exact mne j r2 hj z
  ·
    rw [Ds S6 [some (.obj 4 1018),some (.obj 7 r0.m),none] (A1 Ex (A1 Ey (A1 F7 (A1 F3 (A1 F9 A5))))) rfl rfl rfl rfl rfl rfl]
    unfold Ex Ey F7 F3 F9
    have at0:∀ f:List (Nat × D)→Ans,C9 st 1018 f = f (Hd (L.length + 1)):=fun f=>Bo I.tb f
    have l80:∀ v,lk (Hd v) 80 = some (.int (.ofNat v)):=fun v=>rfl
    have l5:∀ v,lk (Hd v) 5 = some (.ref 1020):=fun v=>rfl
    have l38:∀ v,lk (Hd v) 38 = some (.obj 6 6):=fun v=>rfl
    have ad:∀ (x y:Int) (s:St) (f:D→St→Ans),Eg s (.int x) (.int y) f = f (.int (x + y)) s:=fun _ _ _ _=>rfl
    have ft:∀ v (z:Ans),fit (Hd v) z = z:=fun v z=>Jg (Xl 4 rfl rfl) z
    have up1:∀ f:St→Ans,upd st 1018 (.ns (Gr 80 (.int (.ofNat (L.length + 1) + .ofNat 1)) (Hd (L.length + 1)))) f = f s1:=fun f=>by
      rw [Je om]
      show f (st.put 1018 (.ns (Hd (L.length + 1 + 1)))) = _
      rw [hs1]
    have at1:∀ f:List (Nat × D)→Ans,C9 s1 1018 f = f (Hd (L.length + 1 + 1)):=fun f=>Bo tb1 f
    have bl:∀ f:D→St→Ans,No s1 (.ref 1020) f = f (.int (.ofNat L.length)) s1:=fun f=>by
      have g:T.get s1.H 1020 = some (.list (L.map fun r=>D.obj 7 r.m)):=al1
      show (ob (T.get s1.H 1020) fun o=>_) = _
      rw [g]
      show fit (L.map fun r=>D.obj 7 r.m) (f (.int (.ofNat (len (L.map fun r=>D.obj 7 r.m)))) s1) = _
      rw [Jg (by rw [List.length_map]; lia),Mine.En,List.length_map]
    have atm1:∀ f:List (Nat × D)→Ans,C9 s1 r0.m f = f (Ty (.str r0.x) (S r0.x r0.g) (.ref r0.nl)):=fun f=>Bo m1 f
    have ftm:∀ z:Ans,fit (Ty (.str r0.x) (S r0.x r0.g) (.ref r0.nl)) z = z:=fun z=>Jg (Xl 9 rfl rfl) z
    have upm1:∀ f:St→Ans,upd s1 r0.m (.ns (Gr 51 (.int (.ofNat L.length)) (Ty (.str r0.x) (S r0.x r0.g) (.ref r0.nl)))) f = f (s1.put r0.m (.ns (Gr 51 (.int (.ofNat L.length)) (Ty (.str r0.x) (S r0.x r0.g) (.ref r0.nl))))):=fun f=>Je (by rw [e1.base]; lia) f
    have atm2:∀ f:List (Nat × D)→Ans,C9 (s1.put r0.m (.ns (Gr 51 (.int (.ofNat L.length)) (Ty (.str r0.x) (S r0.x r0.g) (.ref r0.nl))))) r0.m f = f (Gr 51 (.int (.ofNat L.length)) (Ty (.str r0.x) (S r0.x r0.g) (.ref r0.nl))):=fun f=>Bo (Ep bo) f
    have ftm2:∀ z:Ans,fit (Gr 51 (.int (.ofNat L.length)) (Ty (.str r0.x) (S r0.x r0.g) (.ref r0.nl))) z = z:=fun z=>Jg (Xl 9 rfl rfl) z
    have upm2:∀ f:St→Ans,upd (s1.put r0.m (.ns (Gr 51 (.int (.ofNat L.length)) (Ty (.str r0.x) (S r0.x r0.g) (.ref r0.nl))))) r0.m (.ns (Gr 81 (.int (.ofNat (L.length + 1 + 1))) (Gr 51 (.int (.ofNat L.length)) (Ty (.str r0.x) (S r0.x r0.g) (.ref r0.nl))))) f = f s2:=fun f=>by
      rw [Je (by show s1.base ≤ _; rw [e1.base]; lia),put_put]
      have:Gr 81 (.int (.ofNat (L.length + 1 + 1))) (Gr 51 (.int (.ofNat L.length)) (Ty (.str r0.x) (S r0.x r0.g) (.ref r0.nl))) = mNs r0:=by
        unfold mNs
        rw [hi0,t0]; rfl
      rw [this,hs2]
    have at2:∀ f:List (Nat × D)→Ans,C9 s2 1018 f = f (Hd (L.length + 1 + 1)):=fun f=>Bo tb2 f
    have gg:∀ f:Ans,N6 s2 (.ref 1020) f = f:=fun f=>by show Au s2 1020 (fun _=>f) = f; rw [Bx al2]
    have ma:∀ f:D→St→Ans,Fi s2 (.ref 1020) (.obj 7 r0.m) f = f .none s3:=fun f=>by
      show Au s2 1020 (fun xs=>fit xs (upd s2 1020 (.list (app xs [.obj 7 r0.m])) fun st=>f .none st)) = _
      rw [Bx al2,Jg (by rw [List.length_map]; lia),Je (by rw [e2.base,e1.base]; lia),app_eq',hs3]
    have at3:∀ f:List (Nat × D)→Ans,C9 s3 1018 f = f (Hd (L.length + 1 + 1)):=fun f=>Bo tb3 f
    have at4:∀ f:List (Nat × D)→Ans,C9 s4 1018 f = f (Hd (L.length + 1 + 1)):=fun f=>Bo tb4 f
    have atm3:∀ f:List (Nat × D)→Ans,C9 s3 r0.m f = f (mNs r0):=fun f=>Bo m3 f
    have l69:lk (mNs r0) 69 = some (.str r0.x):=rfl
    have tn:=tabT t htm
    have mt:∀ (e:Ax) f,e = ⟨[some (.obj 4 1018),some (.obj 7 r0.m),none],[]⟩→Az CLS 69 (A2 0) (A0 (Mh 7 69 (A2 1)) A4) (big orc (d + 2)) e s3 f = f (.obj 3 t.n) s4:=fun e f he=>by
      subst he
      rw [Q6 (C:=4) (n:=1018) (f:=48) (fun f=>by rw [C5,v0,C8]) tb3 rfl rfl rfl]
      have bq:Nat.beq 7 7 = true:=rfl
      simp only [↓C7,C6,v0,vS,↓bq,bq,↓atm3,atm3,↓l69,l69,↓run4,run4]
    have ma2:∀ (e:Ax) f,e = ⟨[some (.obj 4 1018),some (.obj 7 r0.m),none],[]⟩→Az CLS 2 (Az CLS 69 (A2 0) (A0 (Mh 7 69 (A2 1)) A4)) (A0 (A2 1) (A0 (Ah 38 (A2 0)) A4)) (big orc (d + 2)) e s3 f = f .none s5:=fun e f he=>by
      subst he
      rw [zg5,mt _ _ rfl,Lr,Bo tn.1]
      show (ob (D0 CLS 3) fun cl=>ob (lk cl.ms 2) fun f'=>A0 (A2 1) (A0 (Ah 38 (A2 0)) A4) (big orc (d + 2)) _ s4 fun ds st=>big orc (d + 2) f' (.obj 3 t.n :: ds) st f) = _
      have c3:D0 CLS 3 = some (CLS.getD 3 ⟨[]⟩):=rfl
      have c3':lk (CLS.getD 3 ⟨[]⟩).ms 2 = some 45:=rfl
      rw [c3,Xk,c3',Xk]
      simp only [↓C7,C6,v0,vS,↓at4,at4,↓l38,l38,↓run5,run5]
    have sum1:(Int.ofNat (L.length + 1) + Int.ofNat 1) = Int.ofNat (L.length + 1 + 1):=rfl
    rw [sum1] at up1
    simp only [↓C7,C6,v0,vS,↓at0,at0,↓l80,l80,↓ad,ad,↓sum1,sum1,↓ft,ft,↓up1,up1,↓at1,at1,↓l5,l5,↓bl,bl,↓atm1,atm1,↓ftm,ftm,↓upm1,upm1,↓atm2,atm2,↓ftm2,ftm2,↓upm2,upm2,↓at2,at2,↓gg,gg,↓ma,ma,↓ma2,ma2]
noncomputable def gr:Nat→D→Bool
  | 0,_=>false
  | n + 1,d=>match d with
    | .none=>true
    | .bool _=>true
    | .int _=>true
    | .str _=>true
    | .tup xs=>xs.all (gr n)
    | _=>false
theorem zb6 {α:Type} {f:α→Bool}:∀ {l:List α},(∀ x ∈ l,f x = true)→Mine.allB f l = true
  | [],_=>rfl
  | a :: r,h=>by
    show ifB (f a) (Mine.allB f r) false = true
    rw [h a List.mem_cons_self,Of]; exact zb6 fun x m=>h x (List.mem_cons_of_mem _ m)
theorem zet {f:D→D→Option Bool}:∀ {l:List D},(∀ x ∈ l,f x x = some true)→R7 f l l = some true
  | [],_=>rfl
  | a :: r,h=>by
    show ob (f a a) (fun q=>ifB q (R7 f r r) (some false)) = _
    rw [h a List.mem_cons_self,Xk,Of]; exact zet fun x m=>h x (List.mem_cons_of_mem _ m)
theorem zj8 (b:Bool):Di b b = true:=by cases b <;> rfl
theorem zl1 (i:Int):X9 i i = true:=by rw [Mine.zfd]; exact beq_self_eq_true i
theorem zna (s:List Nat):Eu s s = true:=by rw [W1]; exact decide_eq_true rfl
theorem zgS {s:St}:∀ (n:Nat) (d:D),gr n d = true→isD s n d = true ∧ eqS s n d d = some true:=by
  intro n
  induction n with
  | zero=>exact fun _ h=>absurd h Bool.false_ne_true
  | succ n ih=>
    intro d h
    cases d with
    | none=>exact ⟨rfl,rfl⟩
    | bool b=>exact ⟨rfl,by show some (Di b b) = _; rw [zj8]⟩
    | int i=>exact ⟨rfl,by show some (X9 i i) = _; rw [zl1]⟩
    | str x=>exact ⟨rfl,by show some (Eu x x) = _; rw [zna]⟩
    | tup xs=>
      have h:xs.all (gr n) = true:=h
      rw [List.all_eq_true] at h
      exact ⟨show Mine.allB (isD s n) xs = true from zb6 fun x m=>(ih x (h x m)).1,show R7 (eqS s n) xs xs = some true from zet fun x m=>(ih x (h x m)).2⟩
    | _=>exact absurd h Bool.false_ne_true
theorem zlG {s:St} {xs:List D} (h:gr 14 (.tup xs) = true):cEq s (.tup xs) (.tup xs) = some true:=by
  have g:=zgS (s:=s) 14 _ h
  show Cy s (.tup xs) (.tup xs) = _
  unfold Cy Nq
  rw [g.1,g.2]; rfl
theorem zfV {s:St} {a b:D} {r:Bool} (h:cEq s a b = some r):cNe s a b = some (!r):=by
  show ob (cEq s a b) (fun r=>some (Rv r)) = _
  rw [h,Xk,Mine.Nu]
theorem zdu {s:St} {a b:Nat} {xs:List D} (ha:s.get a = some (.list xs)) (hb:s.get b = some (.list xs)) (h:xs.all (gr 13) = true):cEq s (.ref a) (.ref b) = some true:=by
  rw [List.all_eq_true] at h
  have ha':T.get s.H a = some (.list xs):=ha
  have hb':T.get s.H b = some (.list xs):=hb
  have i1:isD s 14 (.ref a) = true:=by
    show Option.rec (motive:=fun _=>Bool) false (fun o=>Bb.rec (motive:=fun _=>Bool) (fun xs=>Mine.allB (isD s 13) xs) (fun _=>false) (fun _=>false) (fun _=>false) o) (T.get s.H a) = true
    rw [ha']; exact zb6 fun x m=>(zgS 13 x (h x m)).1
  have i2:isD s 14 (.ref b) = true:=by
    show Option.rec (motive:=fun _=>Bool) false (fun o=>Bb.rec (motive:=fun _=>Bool) (fun xs=>Mine.allB (isD s 13) xs) (fun _=>false) (fun _=>false) (fun _=>false) o) (T.get s.H b) = true
    rw [hb']; exact zb6 fun x m=>(zgS 13 x (h x m)).1
  have e:eqS s 14 (.ref a) (.ref b) = some true:=by
    show Au s a (fun xs=>Au s b fun ys=>R7 (eqS s 13) xs ys) = _
    rw [Bx ha,Bx hb]; exact zet fun x m=>(zgS 13 x (h x m)).2
  have dat:Cy s (.ref a) (.ref b) = some true:=by
    unfold Cy Nq
    rw [i1,i2,e]; rfl
  show Au s a (fun xs=>Au s b fun ys=>List.rec (motive:=fun _=>Option Bool) (List.rec (motive:=fun _=>Option Bool) (Cy s (.ref a) (.ref b)) (fun _ _ _=>some false) xs) (fun _ _ _=>Cy s (.ref a) (.ref b)) ys) = _
  rw [Bx ha,Bx hb]
  cases xs with
  | nil=>exact dat
  | cons x r=>exact dat
theorem zea {s:St} {n:Nat}:∀ l l':List (List Nat),R7 (eqS s (n + 1)) (l.map D.str) (l'.map D.str) = some (decide (l = l'))
  | [],[]=>rfl
  | [],b :: r=>rfl
  | a :: r,[]=>rfl
  | a :: r,b :: t=>by
    show ob (some (Eu a b)) (fun q=>ifB q (R7 (eqS s (n + 1)) (r.map D.str) (t.map D.str)) (some false)) = _
    rw [Xk,W1,zea r t]
    by_cases q:a = b
    · rw [decide_eq_true q,Of]; simp [q]
    · rw [decide_eq_false q,Sy]; simp [q]
theorem zkn {s:St} {a b:Nat} {l l':List (List Nat)} (ha:s.get a = some (.list (l.map D.str))) (hb:s.get b = some (.list (l'.map D.str))) (hl:l' ≠ []):cEq s (.ref a) (.ref b) = some (decide (l = l')):=by
  have ha':T.get s.H a = some (.list (l.map D.str)):=ha
  have hb':T.get s.H b = some (.list (l'.map D.str)):=hb
  have str:∀ (l:List (List Nat)),Mine.allB (isD s 13) (l.map D.str) = true:=fun l=>zb6 fun x m=>by
    obtain ⟨y,_,rfl⟩:=List.mem_map.mp m; rfl
  have i1:isD s 14 (.ref a) = true:=by
    show Option.rec (motive:=fun _=>Bool) false (fun o=>Bb.rec (motive:=fun _=>Bool) (fun xs=>Mine.allB (isD s 13) xs) (fun _=>false) (fun _=>false) (fun _=>false) o) (T.get s.H a) = true
    rw [ha']; exact str l
  have i2:isD s 14 (.ref b) = true:=by
    show Option.rec (motive:=fun _=>Bool) false (fun o=>Bb.rec (motive:=fun _=>Bool) (fun xs=>Mine.allB (isD s 13) xs) (fun _=>false) (fun _=>false) (fun _=>false) o) (T.get s.H b) = true
    rw [hb']; exact str l'
  have e:eqS s 14 (.ref a) (.ref b) = some (decide (l = l')):=by
    show Au s a (fun xs=>Au s b fun ys=>R7 (eqS s 13) xs ys) = _
    rw [Bx ha,Bx hb]; exact zea l l'
  show Au s a (fun xs=>Au s b fun ys=>List.rec (motive:=fun _=>Option Bool) (List.rec (motive:=fun _=>Option Bool) (Cy s (.ref a) (.ref b)) (fun _ _ _=>some false) xs) (fun _ _ _=>Cy s (.ref a) (.ref b)) ys) = _
  rw [Bx ha,Bx hb]
  cases l' with
  | nil=>exact absurd rfl hl
  | cons x r=>
    show Cy s (.ref a) (.ref b) = _
    unfold Cy Nq
    rw [i1,i2,e]; rfl
theorem zdj:∀ u,u < 20→∃ l:List (List Nat),l ≠ [] ∧ Nv u = l.map D.str:=
  bel (bel (bel (bel (bel (bel (bel (bel (bel (bel (bel (bel (bel (bel (bel (bel (bel (bel (bel (bel Xx ⟨[[77]],List.cons_ne_nil _ _,rfl⟩) ⟨[[78]],List.cons_ne_nil _ _,rfl⟩) ⟨[[65,110,121]],List.cons_ne_nil _ _,rfl⟩) ⟨[[98,111,116,104]],List.cons_ne_nil _ _,rfl⟩) ⟨[[77],[77]],List.cons_ne_nil _ _,rfl⟩) ⟨[[77],[78]],List.cons_ne_nil _ _,rfl⟩) ⟨[[77],[65,110,121]],List.cons_ne_nil _ _,rfl⟩) ⟨[[77],[98,111,116,104]],List.cons_ne_nil _ _,rfl⟩) ⟨[[78],[77]],List.cons_ne_nil _ _,rfl⟩) ⟨[[78],[78]],List.cons_ne_nil _ _,rfl⟩) ⟨[[78],[65,110,121]],List.cons_ne_nil _ _,rfl⟩) ⟨[[78],[98,111,116,104]],List.cons_ne_nil _ _,rfl⟩) ⟨[[65,110,121],[77]],List.cons_ne_nil _ _,rfl⟩) ⟨[[65,110,121],[78]],List.cons_ne_nil _ _,rfl⟩) ⟨[[65,110,121],[65,110,121]],List.cons_ne_nil _ _,rfl⟩) ⟨[[65,110,121],[98,111,116,104]],List.cons_ne_nil _ _,rfl⟩) ⟨[[98,111,116,104],[77]],List.cons_ne_nil _ _,rfl⟩) ⟨[[98,111,116,104],[78]],List.cons_ne_nil _ _,rfl⟩) ⟨[[98,111,116,104],[65,110,121]],List.cons_ne_nil _ _,rfl⟩) ⟨[[98,111,116,104],[98,111,116,104]],List.cons_ne_nil _ _,rfl⟩
theorem zhg:∀ {l l':List (List Nat)},l.map D.str = l'.map D.str→l = l'
  | [],[],_=>rfl
  | a :: r,b :: t,e=>by
    rw [List.map_cons,List.map_cons] at e
    injection e with e1 e2
    injection e1 with e1
    rw [e1,zhg e2]
  | [],b :: t,e=>by cases e
  | a :: r,[],e=>by cases e
theorem zpo {s:St} {a b u u':Nat} (hu:u < 20) (hu':u' < 20) (ha:s.get a = some (.list (Nv u))) (hb:s.get b = some (.list (Nv u'))):cEq s (.ref a) (.ref b) = some (decide (u = u')):=by
  obtain ⟨l,_,e⟩:=zdj u hu
  obtain ⟨l',n',e'⟩:=zdj u' hu'
  rw [e] at ha
  rw [e'] at hb
  rw [zkn ha hb n']
  congr 1
  refine decide_eq_decide.mpr ⟨fun q=>?_,fun q=>?_⟩
  · rw [← zeD hu,← zeD hu',e,e',q]
  · subst q; exact zhg (e.symm.trans e')
theorem zeM {s:St} {x y:List Nat}:cEq s (.str x) (.str y) = some (decide (x = y)):=by
  show some (Eu x y) = _
  rw [W1]
theorem zoX (r:Row) (wd:Nat):(rL r).set 4 (.int (.ofNat wd)) = rL { r with t:=some wd }:=rfl
theorem zaO (r:Row):(rL r).length = 6:=rfl
noncomputable def zja:Sx:=A1 (sIf (B3 true (Ao cEq (x2 A6 (A2 11) (A3 (.int (.ofNat 0)))) (Ab 3)) (B3 true (Ao cEq (x2 A6 (A2 11) (A3 (.int (.ofNat 1)))) (A2 7)) (B3 true (Ao cIs (x2 A6 (A2 11) (A3 (.int (.ofNat 4)))) (A3 .none)) (Bp true)))) (A1 (Ap (R0 (A2 11) (A3 (.int (.ofNat 4)))) (Ab 10)) A5) A5) A5
theorem zl9 {c:Cal} {st:St} {L:List Row} {nm:List Nat} {u wd wl:Nat} {y2 y4 y6 y8 y9 y11 y12 y13:Option D} (hb:st.base = 1) (h2:st.N + 20 < 1000000) (hL:L.length < 900) (hu:u < 20) (hwl:wl < st.N) (du:st.get 1021 = some (.list (L.map fun r=>D.ref r.r))) (h3:1025 ≤ st.N)
    (row:∀ (k:Nat) (r:Row),L[k]? = some r→st.get r.r = some (.list (rL r)) ∧ st.get r.w = some (.list (Nv r.u)) ∧ (1025 ≤ r.r ∧ r.r < st.N ∧ r.w < st.N) ∧ r.u < 20) (nd:(L.map Row.r).Nodup) (hw:∀ r ∈ L,∀ r' ∈ L,r.r ≠ r'.w) (hwl2:∀ r ∈ L,r.r ≠ wl)
    (gw:st.get wl = some (.list (Nv u))) (c2:st.get 2 = some (.cell (some (.str nm)))) (c3:st.get 3 = some (.cell (some (.int (.ofNat wd))))):
    ∃ (z:Option D) (st':St),Ext (fun n=>∃ r ∈ L,r.r = n) 0 st st' ∧ st'.N = st.N ∧ (∀ (k:Nat) (r:Row),L[k]? = some r→st'.get r.r = some (.list (rL (Nn nm u wd r)))) ∧
      ∀ (ret:D→St→Ans) (next:Ax→St→Ans),J3 (A8 11) (iOf (A2 5)) zja c ⟨vL y2 y4 (some (.ref 1021)) y6 (some (.ref wl)) y8 y9 y11 y12 y13,cL⟩ st ret next = next ⟨vL y2 y4 (some (.ref 1021)) y6 (some (.ref wl)) y8 y9 z y12 y13,cL⟩ st':=by
  refine bg fun P fin=>?_
  have lowR:∀ n,n < 1025→¬ ∃ r ∈ L,r.r = n:=fun n h ⟨r,hr,e⟩=>by
    obtain ⟨k,hk⟩:=List.mem_iff_getElem?.mp hr
    have:=(row k r hk).2.2.1.1
    lia
  obtain ⟨e',s',⟨x1,N1,gs,z,he⟩,run⟩:=Vr (t:=A8 11) (b:=zja) (it:=.of (.ref 1021)) (c:=c)
    (L.map fun r=>D.ref r.r) (fun i e s=>Ext (fun n=>∃ r ∈ L,r.r = n) 0 st s ∧ s.N = st.N ∧ (∀ (k:Nat) (r:Row),L[k]? = some r→s.get r.r = some (.list (rL (if k < i then Nn nm u wd r else r)))) ∧ ∃ z,e = ⟨vL y2 y4 (some (.ref 1021)) y6 (some (.ref wl)) y8 y9 z y12 y13,cL⟩) (by rw [List.length_map]; show _ < 100000; lia)
    (fun i e s hi=>Zl (hi.1.get du om (lowR _ om)))
    (fun i dd e s hd hi=>by
      obtain ⟨xs,Ns,gs,z,rfl⟩:=hi
      obtain ⟨r,hr,rfl⟩:∃ r,L[i]? = some r ∧ dd = .ref r.r:=by
        rw [List.getElem?_map] at hd
        cases q:L[i]? with
        | none=>rw [q] at hd; cases hd
        | some r=>rw [q] at hd; cases hd; exact ⟨r,rfl,rfl⟩
      have hrL:=List.mem_of_getElem? hr
      obtain ⟨_,gw0,⟨q1,q2,q3⟩,hru⟩:=row i r hr
      have gr':s.get r.r = some (.list (rL r)):=by have:=gs i r hr; rwa [if_neg (Nat.lt_irrefl i)] at this
      have gw':s.get r.w = some (.list (Nv r.u)):=xs.get gw0 q3 fun ⟨r',h',e'⟩=>hw r' h' r hrL e'
      have gwl:s.get wl = some (.list (Nv u)):=xs.get gw hwl fun ⟨r',h',e'⟩=>hwl2 r' h' e'
      have cc2:∀ f:Option D→Ans,C1 s 2 f = f (some (.str nm)):=fun f=>Bq (xs.get c2 om (lowR _ om)) f
      have cc3:∀ f:Option D→Ans,C1 s 3 f = f (some (.int (.ofNat wd))):=fun f=>Bq (xs.get c3 om (lowR _ om)) f
      have sv:L9 (some (D.ref r.r)) (vL y2 y4 (some (.ref 1021)) y6 (some (.ref wl)) y8 y9 z y12 y13) 11 = vL y2 y4 (some (.ref 1021)) y6 (some (.ref wl)) y8 y9 (some (.ref r.r)) y12 y13:=rfl
      have v11:∀ z,Bi (vL y2 y4 (some (.ref 1021)) y6 (some (.ref wl)) y8 y9 z y12 y13) 11 = z:=fun z=>rfl
      have v7:∀ z,Bi (vL y2 y4 (some (.ref 1021)) y6 (some (.ref wl)) y8 y9 z y12 y13) 7 = some (.ref wl):=fun z=>rfl
      have l3:lk cL 3 = some 2:=rfl
      have l10:lk cL 10 = some 3:=rfl
      have i0:∀ f,A6 s (.ref r.r) (.int (.ofNat 0)) f = f (.str r.x) s:=fun f=>Sp gr' (by rw [zaO]; lia) rfl f
      have i1:∀ f,A6 s (.ref r.r) (.int (.ofNat 1)) f = f (.ref r.w) s:=fun f=>Sp gr' (by rw [zaO]; lia) rfl f
      have i4:∀ f,A6 s (.ref r.r) (.int (.ofNat 4)) f = f (toD r.t) s:=fun f=>Sp gr' (by rw [zaO]; lia) rfl f
      have ci:cIs s (toD r.t) .none = some r.t.isNone:=by show some (Pv (toD r.t)) = _; rw [zhc]
      have ce0:cEq s (.str r.x) (.str nm) = some (decide (r.x = nm)):=zeM
      have ce1:cEq s (.ref r.w) (.ref wl) = some (decide (r.u = u)):=zpo hru hu gw' gwl
      have zt:Di true true = true:=rfl
      have zf:Di false true = false:=rfl
      by_cases q:r.x = nm ∧ r.t.isNone = true ∧ r.u = u
      · obtain ⟨qa,qb,qc⟩:=q
        have e5:Ext (fun n=>∃ r ∈ L,r.r = n) 0 s (s.put r.r (.list (rL { r with t:=some wd }))):=Ext.put _ om om ⟨r,hrL,rfl⟩
        refine ⟨⟨vL y2 y4 (some (.ref 1021)) y6 (some (.ref wl)) y8 y9 (some (.ref r.r)) y12 y13,cL⟩,_,⟨(xs.trans e5).more (Nat.le_refl _) fun _ _ z=>z,Ns,fun k r' hr'=>?_,_,rfl⟩,fun ret nx=>?_⟩
        · by_cases zk:k = i
          · subst zk
            rw [hr] at hr'; injection hr' with hr'; subst hr'
            rw [Ep (B7 om),if_pos (Nat.lt_succ_self _)]
            unfold Nn Wu
            rw [if_pos qa,if_pos ⟨qb,qc⟩]
          · have hne:r'.r ≠ r.r:=fun e=>zk (W3 nd hr' hr e)
            rw [Bs _ _ _ (B7 om),if_neg hne,gs k r' hr']
            by_cases w:k < i
            · rw [if_pos w,if_pos om]
            · rw [if_neg w,if_neg om]
        · have si:∀ f,setItem s (.ref r.r) (.int (.ofNat 4)) (.int (.ofNat wd)) f = f (s.put r.r (.list (rL { r with t:=some wd }))):=fun f=>by
            rw [zaQ gr' (by rw [zaO]; lia) (by rw [zaO]; lia) (by rw [xs.base]; lia),zoX]
          have d1:decide (r.x = nm) = true:=decide_eq_true qa
          have d2:decide (r.u = u) = true:=decide_eq_true qc
          unfold zja
          simp only [↓C7,C6,v0,vS,↓sv,sv,↓v11,v11,↓v7,v7,↓l3,l3,↓l10,l10,↓i0,i0,↓i1,i1,↓i4,i4,↓cc2,cc2,↓cc3,cc3,↓ce0,ce0,↓ce1,ce1,↓ci,ci,↓d1,d1,↓qb,qb,↓d2,d2,↓zt,zt,↓si,si]
      · refine ⟨⟨vL y2 y4 (some (.ref 1021)) y6 (some (.ref wl)) y8 y9 (some (.ref r.r)) y12 y13,cL⟩,s,⟨xs,Ns,fun k r' hr'=>?_,_,rfl⟩,fun ret nx=>?_⟩
        · by_cases zk:k = i
          · subst zk
            rw [hr] at hr'; injection hr' with hr'; subst hr'
            rw [if_pos (Nat.lt_succ_self _),gr']
            unfold Nn Wu
            by_cases qa:r.x = nm
            · rw [if_pos qa,if_neg fun z=>q ⟨qa,z.1,z.2⟩]
            · rw [if_neg qa]
          · rw [gs k r' hr']
            by_cases w:k < i
            · rw [if_pos w,if_pos om]
            · rw [if_neg w,if_neg om]
        · unfold zja
          by_cases qa:r.x = nm
          · have d1:decide (r.x = nm) = true:=decide_eq_true qa
            by_cases qc:r.u = u
            · have d2:decide (r.u = u) = true:=decide_eq_true qc
              have qb:r.t.isNone = false:=by
                cases z:r.t.isNone with
                | false=>rfl
                | true=>exact absurd ⟨qa,z,qc⟩ q
              simp only [↓C7,C6,v0,vS,↓sv,sv,↓v11,v11,↓v7,v7,↓l3,l3,↓l10,l10,↓i0,i0,↓i1,i1,↓i4,i4,↓cc2,cc2,↓cc3,cc3,↓ce0,ce0,↓ce1,ce1,↓ci,ci,↓d1,d1,↓qb,qb,↓d2,d2,↓zt,zt,↓zf,zf]
            · have d0:decide (r.u = u) = false:=decide_eq_false qc
              simp only [↓C7,C6,v0,vS,↓sv,sv,↓v11,v11,↓v7,v7,↓l3,l3,↓l10,l10,↓i0,i0,↓i1,i1,↓i4,i4,↓cc2,cc2,↓cc3,cc3,↓ce0,ce0,↓ce1,ce1,↓ci,ci,↓d1,d1,↓d0,d0,↓zt,zt,↓zf,zf]
          · have d0:decide (r.x = nm) = false:=decide_eq_false qa
            simp only [↓C7,C6,v0,vS,↓sv,sv,↓v11,v11,↓v7,v7,↓l3,l3,↓l10,l10,↓i0,i0,↓i1,i1,↓i4,i4,↓cc2,cc2,↓cc3,cc3,↓ce0,ce0,↓ce1,ce1,↓ci,ci,↓d0,d0,↓zt,zt,↓zf,zf]) ⟨vL y2 y4 (some (.ref 1021)) y6 (some (.ref wl)) y8 y9 y11 y12 y13,cL⟩ st ⟨Ext.refl,rfl,fun k r hr=>by rw [if_neg (Nat.not_lt_zero k)]; exact (row k r hr).1,_,rfl⟩
  subst he
  rw [List.length_map] at gs
  refine fin ⟨z,s',x1,N1,fun k r hr=>?_,fun ret next=>?_⟩
  · have:=gs k r hr
    rwa [if_pos (List.getElem?_eq_some_iff.mp hr).1] at this
  · have v5:Bi (vL y2 y4 (some (.ref 1021)) y6 (some (.ref wl)) y8 y9 y11 y12 y13) 5 = some (.ref 1021):=rfl
    rw [zcw,Ur,C5,v5,C8,E1 du,run]
section
noncomputable def tB0:Sx:=(Ap (Ck 3) (x2 A6 (Al (A0 (A3 (.str [102])) (A0 (A3 (.str [102])) (A0 (A3 (.str [102])) (A0 (A3 (.str [103])) A4))))) (Am 67 (A0 (Ab 1) (A0 (A3 (.int (.ofNat 4))) A4)))))
noncomputable def tB1:Sx:=(Ap (A8 7) (Bw 4 [(3,1)] (Pi (x2 Eg (A3 (.int (.ofNat 1))) (x1 zdL (Sw cEq (Am 67 (A0 (Ab 1) (A0 (A3 (.int (.ofNat 3))) A4))) (A3 (.int (.ofNat 0))))))) (Bl (A8 1) (Bp true) (Bz (x2 A6 (Al (A0 (A3 (.str [77])) (A0 (A3 (.str [78])) (A0 (A3 (.str [65,110,121])) (A0 (A3 (.str [98,111,116,104])) A4))))) (Am 67 (A0 (Ab 3) (A0 (A3 (.int (.ofNat 4))) A4))))))))
noncomputable def tB2:Sx:=(Ap (A8 8) (Am 69 (A0 (Ab 3) (A0 (A2 7) (A0 (Am 67 (A0 (Ab 1) (A0 (A3 (.int (.ofNat 3))) A4))) A4)))))
noncomputable def tB3:Sx:=(Ap (A8 9) (Az CLS 2 (A2 4) (A0 (Ho 7 62 (A0 (A3 (.int (.ofNat 99))) (A0 (Ab 3) (A0 (A2 8) (A0 (Al (A0 (A3 (.str [120])) A4)) (A0 (A3 (.bool false)) (A0 (A3 .none) (A0 (A3 .none) A4)))))))) A4)))
noncomputable def tB4:Sx:=(Ap (Ck 10) (x2 Eg (A2 6) (A3 (.int (.ofNat 2)))))
noncomputable def tB5:Sx:=(sIf (Ao cNe (B6 (A0 (Ah 51 (A2 9)) (A0 (Ah 81 (A2 9)) (A0 (Ah 82 (A2 9)) (A0 (Ah 80 (A2 4)) A4))))) (B6 (A0 (A2 6) (A0 (Ab 10) (A0 (A3 .none) (A0 (Ab 10) A4)))))) (A1 (Bg (A3 (.bool false))) A5) A5)
noncomputable def tB6:Sx:=(J3 (A8 11) (iOf (A2 5)) zja)
noncomputable def tB7:Sx:=(C0 (xM2 N6 Fi (A2 5) (Al (A0 (Ab 3) (A0 (A2 7) (A0 (A2 6) (A0 (Ab 10) (A0 (A3 .none) (A0 (A2 8) A4)))))))))
noncomputable def zhe:Sx:=A1 tB0 (A1 tB1 (A1 tB2 (A1 tB3 (A1 tB4 (A1 tB5 (A1 tB6 (A1 tB7 A5)))))))
structure zic (st:St) (L:List Row) (role:Nat→Nat):Prop where
  du:st.get 1021 = some (.list (L.map fun r=>D.ref r.r))
  row:∀ (k:Nat) (r:Row),L[k]? = some r→st.get r.r = some (.list (rL r)) ∧ st.get r.w = some (.list (Nv r.u)) ∧ (1025 ≤ r.r ∧ r.r < st.N ∧ 1025 ≤ r.w ∧ r.w < st.N) ∧ role r.r = 1001 + 3 * k ∧ role r.w = 1002 + 3 * k
section
variable {F:Nat→Prop} {c:Nat} {st st':St} {L:List Row} {ts:List Tb} {role role':Nat→Nat}
theorem zbV.ext (I:zbV st L ts role) (x:Ext F c st st') (h1:1025 ≤ st.N) (h:∀ n,n < st.N→F n→(n ≠ 1018 ∧ n ≠ 1019 ∧ n ≠ 1020) ∧ (1025 ≤ n→1000 ≤ role n ∧ role n % 3 ≠ 1)) (hr:∀ n,n < st.N→role' n = role n):zbV st' L ts role':=by
  have low:∀ n o,n < 1025→n = 1018 ∨ n = 1019 ∨ n = 1020→st.get n = some o→st'.get n = some o:=fun n o h2 h3 e=>x.get e om fun z=>by have:=(h n om z).1; lia
  refine ⟨low _ _ om om I.td,I.nd,I.tl,low _ _ om om I.al,low _ _ om om I.tb,fun t ht=>?_,I.cov,fun k r hk=>?_⟩
  · obtain ⟨a,b,⟨c1,c2,c3,c4⟩,d1,d2,ok⟩:=I.tab t ht
    have hl:=zfv ok
    have le:=x.le
    exact ⟨x.get a c2 fun z=>by have:=(h _ c2 z).2 c1; lia,x.get b c4 fun z=>by have:=(h _ c4 z).2 c3; lia,⟨c1,by lia,c3,by lia⟩,by rw [hr _ c2]; exact d1,by rw [hr _ c4]; exact d2,ok⟩
  · obtain ⟨o,a,b,c',e⟩:=I.row k r hk
    have le:=x.le
    exact ⟨o,x.get a c' fun z=>by have:=(h _ c' z).2 b; lia,b,by lia,by rw [hr _ c']; exact e⟩
theorem zic.ext (I:zic st L role) (x:Ext F c st st') (h1:1025 ≤ st.N) (h:∀ n,n < st.N→F n→n ≠ 1021 ∧ (1025 ≤ n→role n < 1000 ∨ role n % 3 = 1)) (hr:∀ n,n < st.N→role' n = role n):zic st' L role':=by
  refine ⟨x.get I.du om fun z=>(h _ om z).1 rfl,fun k r hk=>?_⟩
  obtain ⟨a,b,⟨c1,c2,c3,c4⟩,d1,d2⟩:=I.row k r hk
  have le:=x.le
  exact ⟨x.get a c2 fun z=>by have:=(h _ c2 z).2 c1; lia,x.get b c4 fun z=>by have:=(h _ c4 z).2 c3; lia,⟨c1,by lia,c3,by lia⟩,by rw [hr _ c2]; exact d1,by rw [hr _ c4]; exact d2⟩
theorem zbV.last {A:List Row} {r0:Row} (I:zbV st (A ++ [r0]) ts role) (rr:Nat):zbV st (A ++ [{ r0 with r:=rr }]) ts role:=by
  have len:(A ++ [{ r0 with r:=rr }]).length = (A ++ [r0]).length:=by rw [List.length_append,List.length_append]; rfl
  refine ⟨I.td,I.nd,by rw [len]; exact I.tl,?_,by rw [len]; exact I.tb,fun t ht=>?_,fun r hr=>?_,fun k r hk=>?_⟩
  · have:=I.al
    rw [List.map_append] at this
    rw [List.map_append]; exact this
  · obtain ⟨a,b,c⟩:=I.tab t ht
    refine ⟨a,?_,c⟩
    have:((A ++ [{ r0 with r:=rr }]).filter fun r:Row=>r.x == t.x).map (fun r:Row=>D.obj 7 r.m) = ((A ++ [r0]).filter fun r:Row=>r.x == t.x).map fun r:Row=>D.obj 7 r.m:=by
      rw [List.filter_append,List.filter_append,List.map_append,List.map_append]
      congr 1
      rw [List.filter_cons,List.filter_cons]
      show (if (r0.x == t.x) = true then _ else _:List Row).map (fun r:Row=>D.obj 7 r.m) = (if (r0.x == t.x) = true then _ else _:List Row).map fun r:Row=>D.obj 7 r.m
      split <;> rfl
    rw [this]; exact b
  · rcases List.mem_append.mp hr with hr | hr
    · exact I.cov r (List.mem_append_left _ hr)
    · obtain rfl:=List.mem_singleton.mp hr
      exact I.cov r0 (List.mem_append_right _ List.mem_cons_self)
  · by_cases q:k < A.length
    · rw [List.getElem?_append_left q] at hk
      exact I.row k r (by rw [List.getElem?_append_left q]; exact hk)
    · rw [List.getElem?_append_right om] at hk
      have hr0:(A ++ [r0])[k]? = some r0:=by
        rw [List.getElem?_append_right om]
        cases z:k - A.length with
        | zero=>rfl
        | succ n=>rw [z] at hk; cases hk
      have:r = { r0 with r:=rr }:=by
        cases z:k - A.length with
        | zero=>rw [z] at hk; exact (Option.some.inj hk).symm
        | succ n=>rw [z] at hk; cases hk
      subst this
      exact I.row k r0 hr0
end
structure zgx (st:St) (L:List Row) (ts:List Tb) (role:Nat→Nat):Prop where
  dr:Dr st
  up:st.N ≤ 1025 + 40 * L.length
  kat:KAt st
  c2:∃ v,st.get 2 = some (.cell v)
  c3:∃ v,st.get 3 = some (.cell v)
  T:zbV st L ts role
  D:zic st L role
theorem Dr.ext' {F:Nat→Prop} {c:Nat} {st st':St} (x:Dr st) (y:Ext F c st st') (h:¬ F 1 ∧ ¬ F 5) (hN:st'.N + 100 ≤ 1000000):Dr st':=by
  obtain ⟨a,b,g,q⟩:=x.dr
  have lo:=x.lo
  exact ⟨y.base.trans x.base,Nat.le_trans lo y.le,hN,y.get x.c1 om h.1,a,b,y.get g om h.2,q⟩
theorem Ext.set {F:Nat→Prop} {c:Nat} {st st':St} {n:Nat} {o:Bb} (x:Ext F c st st') (hN:st'.N ≤ 1000000) (hn:n < st.N) (hF:F n):Ext F c st (st'.put n o):=
  (x.trans (Ext.put o hN (Nat.lt_of_lt_of_le hn x.le) hF)).more (Nat.le_refl _) fun _ _ z=>z
theorem ziL (d:Nat) {st:St} {L:List Row} {ts:List Tb} {role:Nat→Nat} (I:zgx st L ts role) (hL:L.length < 20) (y7 y8 y9 y11:Option D):
    ∃ (L':List Row) (ts':List Tb) (role':Nat→Nat) (z7 z8 z9 z11:Option D) (st':St),L'.length = L.length + 1 ∧ zgx st' L' ts' role' ∧
      ∀ (ret:D→St→Ans) (nx:Ax→St→Ans),zhe (big orc (d + 4)) ⟨vL (some (.obj 6 6)) (some (.obj 4 1018)) (some (.ref 1021)) (some (.int (.ofNat L.length))) y7 y8 y9 y11 none none,cL⟩ st ret nx =
        nx ⟨vL (some (.obj 6 6)) (some (.obj 4 1018)) (some (.ref 1021)) (some (.int (.ofNat L.length))) z7 z8 z9 z11 none none,cL⟩ st':=by
  refine bg fun P fin=>?_
  have lo:=I.dr.lo
  have up:=I.up
  have n0:1025 ≤ st.N ∧ st.N ≤ 1825:=⟨lo,by lia⟩
  obtain ⟨nm,s1,hnm,e1,x1,N1,r1⟩:=zkb (d + 3) (e:=⟨vL (some (.obj 6 6)) (some (.obj 4 1018)) (some (.ref 1021)) (some (.int (.ofNat L.length))) y7 y8 y9 y11 none none,cL⟩) I.dr om rfl
  have n1:=e1.nb n0
  obtain ⟨v2,g2⟩:=I.c2
  have g2a:s1.get 2 = some (.cell v2):=e1.get g2 om (by unfold F5; lia)
  have eA:Ext (fun n=>n = 2 ∨ n = 5) 1 st (s1.put 2 (.cell (some (.str nm)))):=(e1.more (Nat.le_refl _) fun _ _ z=>.inr z).set om om (.inl rfl)
  have e1p:Ext (fun n=>n = 2) 0 s1 (s1.put 2 (.cell (some (.str nm)))):=Ext.put _ om om rfl
  have xA:Dr (s1.put 2 (.cell (some (.str nm)))):=x1.ext' e1p ⟨by lia,by lia⟩ (by show s1.N + 100 ≤ _; lia)
  have gA:(s1.put 2 (.cell (some (.str nm)))).get 2 = some (.cell (some (.str nm))):=Ep (B7 om)
  have NA:(s1.put 2 (.cell (some (.str nm)))).N = st.N + 1:=N1
  generalize hsA:s1.put 2 (.cell (some (.str nm))) = sA at *
  have nA:=eA.nb n0
  obtain ⟨u,wl,s2,hu,e2,x2',hwl,hwl2,gw2,r2⟩:=zhu (d + 3) (e:=⟨vL (some (.obj 6 6)) (some (.obj 4 1018)) (some (.ref 1021)) (some (.int (.ofNat L.length))) y7 y8 y9 y11 none none,cL⟩) xA om rfl
  have n2:=e2.nb nA
  have up2:=e2.up
  have le2:=e2.le
  have gB:s2.get 2 = some (.cell (some (.str nm))):=e2.get gA om (by unfold F5; lia)
  obtain ⟨g,s3,hg,hgu,e3,x3,N3,r3⟩:=znu (d + 3) (e:=⟨vL (some (.obj 6 6)) (some (.obj 4 1018)) (some (.ref 1021)) (some (.int (.ofNat L.length))) (some (.ref wl)) y8 y9 y11 none none,cL⟩) x2' rfl rfl hnm hu gB gw2 hwl2 om
  have n3:=e3.nb n2
  have gC:s3.get 2 = some (.cell (some (.str nm))):=e3.get gB om (by unfold F5; lia)
  have gw3:s3.get wl = some (.list (Nv u)):=e3.get gw2 hwl2 (by unfold F5; lia)
  have e4:Ext (fun n=>n = 2 ∨ n = 5) 1 s3 (s3.new (.list [.str [120]])):=Ext.new _ om
  generalize hs4:s3.new (.list [.str [120]]) = s4 at e4
  have n4:=e4.nb n3
  have N4:s4.N = s3.N + 1:=by rw [← hs4]; rfl
  have e5:Ext (fun n=>n = 2 ∨ n = 5) 1 s4 (s4.new (.ns (Ty (.str nm) (S nm g) (.ref s3.N)))):=Ext.new _ om
  have g5:(s4.new (.ns (Ty (.str nm) (S nm g) (.ref s3.N)))).get s4.N = some (.ns (Ty (.str nm) (S nm g) (.ref s3.N))):=I9 om
  have N5:(s4.new (.ns (Ty (.str nm) (S nm g) (.ref s3.N)))).N = s4.N + 1:=rfl
  have mk:=zfO (d + 3) (st:=s4) (nm:=.str nm) (sg:=S nm g) (nl:=.ref s3.N)
  generalize hs5:s4.new (.ns (Ty (.str nm) (S nm g) (.ref s3.N))) = s5 at *
  have n5:=e5.nb n4
  have b4:s4.base = 1:=e4.base.trans x3.base
  have mk:=mk b4 om om
  have m25:∀ n:Nat,n < st.N→F5 n→n = 2 ∨ n = 5:=fun _ _ z=>.inr z
  have e15:Ext (fun n=>n = 2 ∨ n = 5) 8 st s5:=((((eA.trans (e2.more (Nat.le_refl _) fun _ _ z=>.inr z)).trans (e3.more (Nat.le_refl _) fun _ _ z=>.inr z)).trans e4).trans e5).more om fun _ _ z=>z
  have gw5:s5.get wl = some (.list (Nv u)):=e5.get (e4.get gw3 om om) om om
  have c2_5:s5.get 2 = some (.cell (some (.str nm))):=by
    have:s4.get 2 = some (.cell (some (.str nm))):=by rw [← hs4,Ai _ _ (B7 om),if_neg om]; exact gC
    rw [← hs5,Ai _ _ (B7 om),if_neg om]; exact this
  have x5:Dr s5:=by
    have q4:Dr s4:=by rw [← hs4]; exact x3.new _ om
    rw [← hs5]; exact q4.new _ om
  obtain ⟨v3,g3⟩:=I.c3
  have c3_5:s5.get 3 = some (.cell v3):=e15.get g3 om om
  have hm0:st.N ≤ s4.N:=by lia
  have hr0:∀ n,n < st.N→(fun n=>if n = s4.N then 1000 + 3 * L.length else if n = wl then 1002 + 3 * L.length else role n) n = role n:=fun n h=>by dsimp only; rw [if_neg om,if_neg om]
  have T5:=I.T.ext e15 lo (fun n _ h=>znM (zqh h)) hr0
  have D5:=I.D.ext e15 lo (fun n _ h=>znA (zqh h)) hr0
  generalize hrole0:(fun n=>if n = s4.N then 1000 + 3 * L.length else if n = wl then 1002 + 3 * L.length else role n) = role0 at T5 D5
  have rm0:role0 s4.N = 1000 + 3 * L.length:=by rw [← hrole0]; dsimp only; rw [if_pos rfl]
  have rwl:role0 wl = 1002 + 3 * L.length:=by rw [← hrole0]; dsimp only; rw [if_neg om,if_pos rfl]
  have k5:KAt s5:=I.kat.ext e15 fun n h _=>zqh h
  obtain ⟨s6,ts',role1,e6,T6,hrole1,r6⟩:=zb9 (d + 1) (r0:=⟨L.length,nm,u,g,none,s4.N,0,wl,s3.N⟩) T5 k5 x5.base om om om ⟨rfl,hnm,hu,hg,hgu⟩ rfl g5 ⟨by show 1025 ≤ s4.N; lia,by show s4.N < s5.N; lia⟩ rm0
  have n6:=e6.nb n5
  have up6:=e6.up
  have le6:=e6.le
  have tfl:∀ n,n < s5.N→TF L ts s4.N n→n = 1018 ∨ n = 1019 ∨ n = 1020 ∨ (1025 ≤ n ∧ (role0 n < 1000 ∨ role0 n % 3 = 1)):=fun n h1 h2=>by
    rcases h2 with h2 | h2 | h2 | h2 | ⟨r,hr,h2⟩ | ⟨t,ht,h2⟩
    · exact .inl h2
    · exact .inr (.inl h2)
    · exact .inr (.inr (.inl h2))
    · subst h2; exact .inr (.inr (.inr ⟨by lia,.inr om⟩))
    · obtain ⟨k,hk⟩:=List.mem_iff_getElem?.mp hr
      obtain ⟨_,_,q1,_,q2⟩:=T5.row k r hk
      subst h2; exact .inr (.inr (.inr ⟨q1,.inr om⟩))
    · obtain ⟨_,_,⟨_,_,q1,_⟩,_,q2,ok⟩:=T5.tab t ht
      have:=zfv ok
      subst h2; exact .inr (.inr (.inr ⟨q1,.inl om⟩))
  have nTF:∀ n,n < 1018→¬ TF L ts s4.N n:=fun n h1 h2=>by
    by_cases q:n < s5.N
    · have:=tfl n q h2; lia
    · lia
  have D6:=D5.ext e6 om (fun n h1 h2=>⟨by have:=tfl n h1 h2; lia,fun h3=>by have:=tfl n h1 h2; lia⟩) hrole1
  have x6:Dr s6:=x5.ext' e6 ⟨nTF _ om,nTF _ om⟩ om
  have k6:KAt s6:=k5.ext e6 fun n h1 h2=>absurd h1 (nTF n h2)
  have c2_6:=e6.get c2_5 om (nTF _ om)
  have c3_6:=e6.get c3_5 om (nTF _ om)
  have nwl:¬ TF L ts s4.N wl:=fun z=>by have:=tfl wl om z; lia
  have gw6:=e6.get gw5 om nwl
  have e7:Ext (fun n=>n = 3) 0 s6 (s6.put 3 (.cell (some (.int (.ofNat (L.length + 2)))))):=Ext.put _ om om rfl
  have c3_7:(s6.put 3 (.cell (some (.int (.ofNat (L.length + 2)))))).get 3 = some (.cell (some (.int (.ofNat (L.length + 2))))):=Ep (B7 om)
  have up7:∀ f:St→Ans,upd s6 3 (.cell (some (.int (.ofNat (L.length + 2))))) f = f (s6.put 3 (.cell (some (.int (.ofNat (L.length + 2)))))):=fun f=>Je (by rw [x6.base]; lia) f
  have N7:(s6.put 3 (.cell (some (.int (.ofNat (L.length + 2)))))).N = s6.N:=rfl
  generalize hs7:s6.put 3 (.cell (some (.int (.ofNat (L.length + 2))))) = s7 at *
  have n7:=e7.nb n6
  have D7:=D6.ext e7 om (fun n _ h=>znA (lt3 h)) (fun _ _=>rfl)
  have T7:=T6.ext e7 om (fun n _ h=>znM (lt3 h)) (fun _ _=>rfl)
  have x7:Dr s7:=x6.ext' e7 ⟨by lia,by lia⟩ om
  have k7:KAt s7:=k6.ext e7 fun n h _=>lt3 h
  have c2_7:=e7.get c2_6 om om
  have gw7:=e7.get gw6 om om
  have rolewl:role1 wl = 1002 + 3 * L.length:=by rw [hrole1 wl om]; exact rwl
  have rR:∀ (k:Nat) (r:Row),L[k]? = some r→role1 r.r = 1001 + 3 * k:=fun k r h=>(D7.row k r h).2.2.2.1
  have rW:∀ (k:Nat) (r:Row),L[k]? = some r→role1 r.w = 1002 + 3 * k:=fun k r h=>(D7.row k r h).2.2.2.2
  obtain ⟨z11,s8,e8,N8,g8,r8⟩:=zl9 (c:=big orc (d + 4)) (st:=s7) (L:=L) (nm:=nm) (u:=u) (wd:=L.length + 2) (wl:=wl) (y2:=some (.obj 6 6)) (y4:=some (.obj 4 1018)) (y6:=some (.int (.ofNat L.length))) (y8:=some (S nm g)) (y9:=some (.obj 7 s4.N)) (y11:=y11) (y12:=none) (y13:=none)
    x7.base om om hu om D7.du om
    (fun k r h=>by
      obtain ⟨a,b,⟨q1,q2,q3,q4⟩,_⟩:=D7.row k r h
      exact ⟨a,b,⟨q1,q2,q4⟩,(T5.row k r h).1.2.2.1⟩)
    (X4 (role:=role1) (c:=fun k=>1001 + 3 * k) (fun i j e=>by have e:1001 + 3 * i = 1001 + 3 * j:=e; lia) rR)
    (fun r hr r' hr'=>by
      obtain ⟨k,hk⟩:=List.mem_iff_getElem?.mp hr
      obtain ⟨k',hk'⟩:=List.mem_iff_getElem?.mp hr'
      exact L3 (role:=role1) (by rw [rR k r hk,rW k' r' hk']; lia))
    (fun r hr=>by
      obtain ⟨k,hk⟩:=List.mem_iff_getElem?.mp hr
      exact L3 (role:=role1) (by rw [rR k r hk,rolewl]; lia)) gw7 c2_7 c3_7
  have n8:=e8.nb n7
  have lowR:∀ n,n < 1025→¬ ∃ r ∈ L,r.r = n:=fun n h ⟨r,hr,e⟩=>by
    obtain ⟨k,hk⟩:=List.mem_iff_getElem?.mp hr
    have:=(D7.row k r hk).2.2.1.1
    lia
  have c2_8:=e8.get c2_7 om (lowR _ om)
  have c3_8:=e8.get c3_7 om (lowR _ om)
  have du8:=e8.get D7.du om (lowR _ om)
  have x8:Dr s8:=x7.ext' e8 ⟨lowR _ om,lowR _ om⟩ om
  have k8:KAt s8:=k7.ext e8 fun n h1 h2=>absurd h1 (lowR n om)
  have gw8:=e8.get gw7 om fun ⟨r,hr,e⟩=>by
    obtain ⟨k,hk⟩:=List.mem_iff_getElem?.mp hr
    have:=rR k r hk
    rw [e,rolewl] at this; lia
  generalize hr0':(⟨L.length,nm,u,g,none,s4.N,s8.N,wl,s3.N⟩:Row) = r0
  have e9:Ext (fun n=>n = 1021) 1 s8 (s8.new (.list (rL r0))):=Ext.new _ om
  have al9:∀ f:Nat→St→Ans,Dg s8 (.list (rL r0)) f = f s8.N (s8.new (.list (rL r0))):=fun f=>Ec om f
  have g9:(s8.new (.list (rL r0))).get s8.N = some (.list (rL r0)):=I9 om
  have N9:(s8.new (.list (rL r0))).N = s8.N + 1:=rfl
  have du9:(s8.new (.list (rL r0))).get 1021 = some (.list (L.map fun r=>D.ref r.r)):=by rw [Ai _ _ (B7 om),if_neg om]; exact du8
  have x9:Dr (s8.new (.list (rL r0))):=x8.new _ om
  generalize hs9:s8.new (.list (rL r0)) = s9 at *
  have n9:=e9.nb n8
  have e10:Ext (fun n=>n = 1021) 0 s9 (s9.put 1021 (.list ((L.map fun r=>D.ref r.r) ++ [.ref s8.N]))):=Ext.put _ om om rfl
  have du10:(s9.put 1021 (.list ((L.map fun r=>D.ref r.r) ++ [.ref s8.N]))).get 1021 = some (.list ((L.map fun r=>D.ref r.r) ++ [.ref s8.N])):=Ep (B7 om)
  have N10:(s9.put 1021 (.list ((L.map fun r=>D.ref r.r) ++ [.ref s8.N]))).N = s8.N + 1:=N9
  have ma10:∀ f:D→St→Ans,Fi s9 (.ref 1021) (.ref s8.N) f = f .none (s9.put 1021 (.list ((L.map fun r=>D.ref r.r) ++ [.ref s8.N]))):=fun f=>by
    show Au s9 1021 (fun xs=>fit xs (upd s9 1021 (.list (app xs [.ref s8.N])) fun st=>f .none st)) = _
    rw [Bx du9,Jg (by rw [List.length_map]; lia),Je (by rw [x9.base]; lia),app_eq']
  generalize hs10:s9.put 1021 (.list ((L.map fun r=>D.ref r.r) ++ [.ref s8.N])) = s10 at *
  have n10:=e10.nb n9
  have e810:Ext (fun n=>n = 1021) 1 s8 s10:=(e9.trans e10).more (Nat.le_refl _) fun _ _ z=>z
  have e710:Ext (fun n=>n = 1021 ∨ ∃ r ∈ L,r.r = n) 1 s7 s10:=((e8.more (Nat.le_refl _) fun _ _ z=>.inr z).trans (e810.more (Nat.le_refl _) fun _ _ z=>.inl z)).more om fun _ _ z=>z
  have hrole2:∀ n,n < s7.N→(fun n=>if n = s8.N then 1001 + 3 * L.length else role1 n) n = role1 n:=fun n h=>by dsimp only; rw [if_neg om]
  have T10:=(T7.last s8.N).ext e710 om (fun n h1 h2=>by
    rcases h2 with h2 | ⟨r,hr,h2⟩
    · exact ⟨by lia,fun h3=>by lia⟩
    · obtain ⟨k,hk⟩:=List.mem_iff_getElem?.mp hr
      have q1:=rR k r hk
      have q2:=(D7.row k r hk).2.2.1.1
      subst h2
      exact ⟨by lia,fun h3=>by lia⟩) hrole2
  generalize hrole2':(fun n=>if n = s8.N then 1001 + 3 * L.length else role1 n) = role2 at T10 hrole2
  have role2rr:role2 s8.N = 1001 + 3 * L.length:=by rw [← hrole2']; dsimp only; rw [if_pos rfl]
  refine fin ⟨L.map (Nn nm u (L.length + 2)) ++ [r0],ts',role2,some (.ref wl),some (S nm g),some (.obj 7 s4.N),z11,s10,by rw [List.length_append,List.length_map]; rfl,⟨?_,?_,?_,?_,?_,?_,?_⟩,fun ret nx=>?_⟩
  · exact x9.ext' e10 ⟨by lia,by lia⟩ om
  · rw [List.length_append,List.length_map]; show s10.N ≤ 1025 + 40 * (L.length + 1); lia
  · exact k8.ext e810 fun n h1 h2=>by lia
  · exact ⟨_,e810.get c2_8 om om⟩
  · exact ⟨_,e810.get c3_8 om om⟩
  · rw [← hr0']; exact T10
  · refine ⟨?_,fun k r hk=>?_⟩
    · rw [du10,List.map_append,znU _ _ _ _ _ fun r=>by rw [(Ny _ _ _ r).2.2.2.2.2.1],← hr0']; rfl
    · by_cases q:k < L.length
      · rw [List.getElem?_append_left (by rw [List.length_map]; exact q),List.getElem?_map] at hk
        obtain ⟨r',hr',rfl⟩:∃ r',L[k]? = some r' ∧ r = Nn nm u (L.length + 2) r':=by
          cases z:L[k]? with
          | none=>rw [z] at hk; cases hk
          | some r'=>rw [z] at hk; cases hk; exact ⟨r',rfl,rfl⟩
        have us:=Ny nm u (L.length + 2) r'
        obtain ⟨_,b,⟨q1,q2,q3,q4⟩,p1,p2⟩:=D7.row k r' hr'
        refine ⟨?_,?_,?_,?_,?_⟩
        · rw [us.2.2.2.2.2.1]; exact e810.get (g8 k r' hr') om om
        · rw [us.2.2.2.2.2.2.1,us.2.2.1]
          refine e810.get (e8.get b q4 fun ⟨r2,h2,e⟩=>?_) om om
          obtain ⟨j,hj⟩:=List.mem_iff_getElem?.mp h2
          have:=rR j r2 hj
          rw [e,p2] at this; lia
        · rw [us.2.2.2.2.2.1,us.2.2.2.2.2.2.1]; lia
        · rw [us.2.2.2.2.2.1,hrole2 _ q2]; exact p1
        · rw [us.2.2.2.2.2.2.1,hrole2 _ q4]; exact p2
      · have hkl:k = L.length:=by
          have:=(List.getElem?_eq_some_iff.mp hk).1
          rw [List.length_append,List.length_map] at this
          have:k < L.length + 1:=this
          lia
        subst hkl
        rw [List.getElem?_append_right (by rw [List.length_map]; exact Nat.le_refl _),List.length_map,Nat.sub_self] at hk
        have:r = r0:=(Option.some.inj hk).symm
        subst this
        have g10:s10.get s8.N = some (.list (rL r)):=e10.get g9 om om
        have w10:s10.get wl = some (.list (Nv u)):=e810.get gw8 om om
        rw [← hr0'] at g10 ⊢
        exact ⟨g10,w10,⟨by show 1025 ≤ s8.N; lia,by show s8.N < s10.N; lia,by show 1025 ≤ wl; lia,by show wl < s10.N; lia⟩,role2rr,by show role2 wl = _; rw [hrole2 wl om]; exact rolewl⟩
  ·
    unfold zhe
    have l3:lk cL 3 = some 2:=rfl
    have l10:lk cL 10 = some 3:=rfl
    have cc1:∀ f:Option D→Ans,C1 s1 2 f = f v2:=fun f=>Bq g2a f
    have ua:∀ f:St→Ans,upd s1 2 (.cell (some (.str nm))) f = f sA:=fun f=>by rw [Je (by rw [x1.base]; lia),hsA]
    have cc3:∀ f:Option D→Ans,C1 s3 2 f = f (some (.str nm)):=fun f=>Bq gC f
    have tb3:s3.get 1018 = some (.ns (Hd (L.length + 1))):=e3.get (e2.get (eA.get I.T.tb om om) om (by unfold F5; lia)) om (by unfold F5; lia)
    have w7:∀ (y7 y8 y9 y11:Option D) (d:D),L9 (some d) (vL (some (.obj 6 6)) (some (.obj 4 1018)) (some (.ref 1021)) (some (.int (.ofNat L.length))) y7 y8 y9 y11 none none) 7 = vL (some (.obj 6 6)) (some (.obj 4 1018)) (some (.ref 1021)) (some (.int (.ofNat L.length))) (some d) y8 y9 y11 none none:=fun _ _ _ _ _=>rfl
    have w8:∀ (y7 y8 y9 y11:Option D) (d:D),L9 (some d) (vL (some (.obj 6 6)) (some (.obj 4 1018)) (some (.ref 1021)) (some (.int (.ofNat L.length))) y7 y8 y9 y11 none none) 8 = vL (some (.obj 6 6)) (some (.obj 4 1018)) (some (.ref 1021)) (some (.int (.ofNat L.length))) y7 (some d) y9 y11 none none:=fun _ _ _ _ _=>rfl
    have w9:∀ (y7 y8 y9 y11:Option D) (d:D),L9 (some d) (vL (some (.obj 6 6)) (some (.obj 4 1018)) (some (.ref 1021)) (some (.int (.ofNat L.length))) y7 y8 y9 y11 none none) 9 = vL (some (.obj 6 6)) (some (.obj 4 1018)) (some (.ref 1021)) (some (.int (.ofNat L.length))) y7 y8 (some d) y11 none none:=fun _ _ _ _ _=>rfl
    have a4:∀ (y7 y8 y9 y11:Option D),Bi (vL (some (.obj 6 6)) (some (.obj 4 1018)) (some (.ref 1021)) (some (.int (.ofNat L.length))) y7 y8 y9 y11 none none) 4 = some (.obj 4 1018):=fun _ _ _ _=>rfl
    have a5:∀ (y7 y8 y9 y11:Option D),Bi (vL (some (.obj 6 6)) (some (.obj 4 1018)) (some (.ref 1021)) (some (.int (.ofNat L.length))) y7 y8 y9 y11 none none) 5 = some (.ref 1021):=fun _ _ _ _=>rfl
    have a6:∀ (y7 y8 y9 y11:Option D),Bi (vL (some (.obj 6 6)) (some (.obj 4 1018)) (some (.ref 1021)) (some (.int (.ofNat L.length))) y7 y8 y9 y11 none none) 6 = some (.int (.ofNat L.length)):=fun _ _ _ _=>rfl
    have a7:∀ (y7 y8 y9 y11:Option D),Bi (vL (some (.obj 6 6)) (some (.obj 4 1018)) (some (.ref 1021)) (some (.int (.ofNat L.length))) y7 y8 y9 y11 none none) 7 = y7:=fun _ _ _ _=>rfl
    have a8:∀ (y7 y8 y9 y11:Option D),Bi (vL (some (.obj 6 6)) (some (.obj 4 1018)) (some (.ref 1021)) (some (.int (.ofNat L.length))) y7 y8 y9 y11 none none) 8 = y8:=fun _ _ _ _=>rfl
    have a9:∀ (y7 y8 y9 y11:Option D),Bi (vL (some (.obj 6 6)) (some (.obj 4 1018)) (some (.ref 1021)) (some (.int (.ofNat L.length))) y7 y8 y9 y11 none none) 9 = y9:=fun _ _ _ _=>rfl
    unfold tB0 tB1 tB2
    rw [Bc,Ke,r1,Rc,l3,C8,cc1,ua,Bc,Ke,r2,Gf,w7,Bc,Ke,r3,Gf,w8,Bc]
    unfold tB3
    have mt:∀ f,Az CLS 2 (A2 4) (A0 (Ho 7 62 (A0 (A3 (.int (.ofNat 99))) (A0 (Ab 3) (A0 (A2 8) (A0 (Al (A0 (A3 (.str [120])) A4)) (A0 (A3 (.bool false)) (A0 (A3 .none) (A0 (A3 .none) A4)))))))) A4) (big orc (d + 4)) ⟨vL (some (.obj 6 6)) (some (.obj 4 1018)) (some (.ref 1021)) (some (.int (.ofNat L.length))) (some (.ref wl)) (some (S nm g)) y9 y11 none none,cL⟩ s3 f = f (.obj 7 s4.N) s6:=fun f=>by
      rw [Q6 (C:=4) (n:=1018) (f:=49) (fun f=>by rw [C5,a4,C8]) tb3 rfl rfl rfl]
      have al4:∀ f:Nat→St→Ans,Dg s3 (.list [.str [120]]) f = f s3.N s4:=fun f=>by rw [Ec om,hs4]
      simp only [↓C7,C6,v0,vS,↓l3,l3,↓cc3,cc3,↓a8,a8,↓al4,al4,↓mk,mk,↓r6,r6]
    rw [Ke,mt,Gf,w9,Bc]
    unfold tB4
    have ad:∀ (x y:Int) (s:St) (f:D→St→Ans),Eg s (.int x) (.int y) f = f (.int (x + y)) s:=fun _ _ _ _=>rfl
    have sum:(Int.ofNat L.length + Int.ofNat 2) = Int.ofNat (L.length + 2):=rfl
    have cc6:∀ f:Option D→Ans,C1 s6 3 f = f v3:=fun f=>Bq c3_6 f
    rw [Ke,zlK,C5,a6,C8,Gw,ad,sum,Rc,l10,C8,cc6,up7,Bc]
    unfold tB5
    have len':(L.map (Nn nm u (L.length + 2)) ++ [(⟨L.length,nm,u,g,none,s4.N,0,wl,s3.N⟩:Row)]).length = L.length + 1:=by rw [List.length_append,List.length_map]; rfl
    have tb7:∀ f:List (Nat × D)→Ans,C9 s7 1018 f = f (Hd (L.length + 2)):=fun f=>Bo (by have:=T7.tb; rw [len'] at this; exact this) f
    have m7:∀ f:List (Nat × D)→Ans,C9 s7 s4.N f = f (mNs ⟨L.length,nm,u,g,none,s4.N,0,wl,s3.N⟩):=fun f=>by
      have:=(T7.row L.length ⟨L.length,nm,u,g,none,s4.N,0,wl,s3.N⟩ (by rw [List.getElem?_append_right (by rw [List.length_map]; exact Nat.le_refl _),List.length_map,Nat.sub_self]; rfl)).2.1
      exact Bo this f
    have b51:lk (mNs ⟨L.length,nm,u,g,none,s4.N,0,wl,s3.N⟩) 51 = some (.int (.ofNat L.length)):=rfl
    have b81:lk (mNs ⟨L.length,nm,u,g,none,s4.N,0,wl,s3.N⟩) 81 = some (.int (.ofNat (L.length + 2))):=rfl
    have b82:lk (mNs ⟨L.length,nm,u,g,none,s4.N,0,wl,s3.N⟩) 82 = some .none:=rfl
    have b80:lk (Hd (L.length + 2)) 80 = some (.int (.ofNat (L.length + 2))):=rfl
    have cc7:∀ f:Option D→Ans,C1 s7 3 f = f (some (.int (.ofNat (L.length + 2)))):=fun f=>Bq c3_7 f
    have cn:cNe s7 (.tup [.int (.ofNat L.length),.int (.ofNat (L.length + 2)),.none,.int (.ofNat (L.length + 2))]) (.tup [.int (.ofNat L.length),.int (.ofNat (L.length + 2)),.none,.int (.ofNat (L.length + 2))]) = some false:=zfV (zlG rfl)
    have look:∀ (ret:D→St→Ans) (nx:Ax→St→Ans),sIf (Ao cNe (B6 (A0 (Ah 51 (A2 9)) (A0 (Ah 81 (A2 9)) (A0 (Ah 82 (A2 9)) (A0 (Ah 80 (A2 4)) A4))))) (B6 (A0 (A2 6) (A0 (Ab 10) (A0 (A3 .none) (A0 (Ab 10) A4)))))) (A1 (Bg (A3 (.bool false))) A5) A5 (big orc (d + 4))
        ⟨vL (some (.obj 6 6)) (some (.obj 4 1018)) (some (.ref 1021)) (some (.int (.ofNat L.length))) (some (.ref wl)) (some (S nm g)) (some (.obj 7 s4.N)) y11 none none,cL⟩ s7 ret nx = nx ⟨vL (some (.obj 6 6)) (some (.obj 4 1018)) (some (.ref 1021)) (some (.int (.ofNat L.length))) (some (.ref wl)) (some (S nm g)) (some (.obj 7 s4.N)) y11 none none,cL⟩ s7:=fun ret nx=>by
      simp only [↓C7,C6,v0,vS,↓a9,a9,↓a4,a4,↓a6,a6,↓m7,m7,↓tb7,tb7,↓b51,b51,↓b81,b81,↓b82,b82,↓b80,b80,↓l10,l10,↓cc7,cc7,↓cn,cn]
    rw [look,Bc]
    unfold tB6
    rw [r8,Bc]
    unfold tB7
    have gg:∀ f:Ans,N6 s8 (.ref 1021) f = f:=fun f=>by show Au s8 1021 (fun _=>f) = f; rw [Bx du8]
    have cc8:∀ f:Option D→Ans,C1 s8 3 f = f (some (.int (.ofNat (L.length + 2)))):=fun f=>Bq c3_8 f
    have cc8':∀ f:Option D→Ans,C1 s8 2 f = f (some (.str nm)):=fun f=>Bq c2_8 f
    have al9':∀ f:Nat→St→Ans,Dg s8 (.list [.str nm,.ref wl,.int (.ofNat L.length),.int (.ofNat (L.length + 2)),.none,S nm g]) f = f s8.N s9:=fun f=>by
      rw [← al9 f,← hr0']; rfl
    simp only [↓C7,C6,v0,vS,↓a5,a5,↓gg,gg,↓l3,l3,↓l10,l10,↓cc8,cc8,↓cc8',cc8',↓a6,a6,↓a7,a7,↓a8,a8,↓al9',al9',↓ma10,ma10]
end
noncomputable def noF:Nat→Prop:=fun _=>False
theorem zd6 {A:Nat→List D→St→Option D} {d f:Nat} {ds:List D} {st:St} {k:D→St→Ans} (F:Fn) (vals:List (Option D)) (R:Sx) (a:Nat) (l:List Nat) (hA:A f ds st = none) (hF:FNS.get f = some F) (hc:F.cl = a :: l)
    (g:(Nat.ble (len ds) F.np && Nat.ble F.np (len ds + len F.dfl)) = true) (hv:app (ziw some (app ds (zdg (len ds + len F.dfl - F.np) F.dfl))) (nones (F.nn - F.np)) = vals) (hb:F.body = R):
    big A (d + 1) f ds st k = Qb vals (a :: l) st fun cs st=>R (big A d) ⟨zmg (a :: l) vals,cs⟩ st k fun _ st=>k .none st:=by
  rw [ziX hA hF]
  rw [Bool.and_eq_true] at g
  unfold V9 zeJ
  rw [g.1,g.2,Y1,Y1,hc,hv,hb]
theorem zai {vals:List (Option D)} {i:Nat} {l:List Nat} {st:St} {k:List (Nat × Nat)→St→Ans}:Qb vals (i :: l) st k = Dg st (.cell (Bi vals i)) fun n st=>Qb vals l st fun cs st=>k ((i,n) :: cs) st:=Eq.trans rfl rfl
theorem zhp {vals:List (Option D)} {st:St} {k:List (Nat × Nat)→St→Ans}:Qb vals [] st k = k [] st:=Eq.trans rfl rfl
theorem zfX {d:D} {vals:List (Option D)} (h:2 ≤ vals.length):Bi (L9 (some d) vals 1) 1 = some d:=by
  match vals,h with
  | a :: b :: r,_=>rfl
  | [a],h=>exact absurd h (by simp)
  | [],h=>exact absurd h (by simp)
theorem ze1 {α:Type} (v:α) (l:List α) (i:Nat):(L9 v l i).length = l.length:=by rw [Mine.Za,List.length_set]
theorem zhW (n:Nat):(nones n:List (Option D)).length = n:=by rw [Mine.Zz,List.length_replicate]
theorem Ju {α:Type} {c:Cal} {e:Ax} {st:St} {nn l:Nat} {cs cells:List (Nat × Nat)} {i:Sm It} {ifs:Sm Bool} {x:Sm D} (L:List α) (g:α→D) (p:α→Bool) (f:α→D) (hn:2 ≤ nn) (hN:st.N + 1 < 1000000) (hL:L.length < 10000)
    (hi:∀ f,i c e st f = f (.of (.ref l)) st) (gl:st.get l = some (.list (L.map g))) (hl:l < st.N) (hb:st.base ≤ st.N) (hsc:∀ f,Ox e.cells cs f = f cells)
    (H:∀ r ∈ L,∀ vals s,Bi vals 1 = some (g r)→Ext noF 1 st s→(∀ k,ifs c ⟨vals,cells⟩ s k = k (p r) s) ∧ (∀ k,x c ⟨vals,cells⟩ s k = k (f r) s)):
    ∃ s',Ext noF 1 st s' ∧ s'.N = st.N + 1 ∧ s'.get st.N = some (.list ((L.filter p).map f)) ∧ ∀ k,Bw nn cs i (Bl (A8 1) ifs (Bz x)) c e st k = k (.ref st.N) s':=by
  have e1:Ext noF 1 st (st.new (.list [])):=Ext.new _ om
  have g1:(st.new (.list [])).get st.N = some (.list []):=I9 om
  obtain ⟨e',s',⟨x1,N1,ga,_,_⟩,run⟩:=zeS (t:=A8 1) (ifs:=ifs) (body:=Bz x) (it:=.of (.ref l)) (c:=c) (acc:=st.N) (L.map g)
    (fun j e s=>Ext noF 1 st s ∧ s.N = st.N + 1 ∧ s.get st.N = some (.list (((L.take j).filter p).map f)) ∧ e.cells = cells ∧ 2 ≤ e.vals.length) (by rw [List.length_map]; show _ < 100000; lia)
    (fun j e s hi=>Zl (hi.1.get gl hl fun z=>z))
    (fun j dd e s hd hi=>by
      obtain ⟨xs,Ns,ga,hc,hv⟩:=hi
      obtain ⟨r,hr,rfl⟩:∃ r,L[j]? = some r ∧ dd = g r:=by
        rw [List.getElem?_map] at hd
        cases q:L[j]? with
        | none=>rw [q] at hd; cases hd
        | some r=>rw [q] at hd; cases hd; exact ⟨r,rfl,rfl⟩
      obtain ⟨h1,h2⟩:=H r (List.mem_of_getElem? hr) (L9 (some (g r)) e.vals 1) s (zfX hv) xs
      have tk:L.take (j + 1) = L.take j ++ [r]:=by rw [List.take_add_one,hr]; rfl
      have ll:(((L.take j).filter p).map f).length < 100000:=by
        rw [List.length_map]
        have:=List.length_filter_le p (L.take j)
        have:=List.length_take_le j L
        have:=List.length_take_le' j L
        lia
      cases q:p r with
      | true=>
        have e5:Ext (fun n=>n = st.N) 0 s (s.put st.N (.list (((L.take j).filter p).map f ++ [f r]))):=Ext.put _ om om rfl
        refine ⟨⟨L9 (some (g r)) e.vals 1,e.cells⟩,s.put st.N (.list (((L.take j).filter p).map f ++ [f r])),⟨?_,Ns,?_,hc,by rw [ze1]; exact hv⟩,fun nx=>?_⟩
        · exact (xs.trans' e5 fun n hn z=>absurd z (Nat.ne_of_lt hn)).more (Nat.le_refl _) fun _ _ z=>z
        · rw [Ep (B7 om),tk,List.filter_append,List.map_append]
          congr 3
          rw [List.filter_cons,if_pos q]; rfl
        · rw [Gf,hc,h1,q,Of,zei,h2,Bx ga,Jg ll,Je (by rw [xs.base]; exact hb),app_eq']
      | false=>
        refine ⟨⟨L9 (some (g r)) e.vals 1,e.cells⟩,s,⟨xs,Ns,?_,hc,by rw [ze1]; exact hv⟩,fun nx=>?_⟩
        · rw [ga,tk,List.filter_append,List.map_append]
          have:[r].filter p = []:=by rw [List.filter_cons,if_neg (by rw [q]; exact Bool.false_ne_true)]; rfl
          rw [this,List.map_nil,List.append_nil]
        · rw [Gf,hc,h1,q,Sy]) ⟨nones nn,cells⟩ (st.new (.list [])) ⟨e1,rfl,g1,rfl,by show 2 ≤ (nones nn:List (Option D)).length; rw [zhW]; exact hn⟩
  rw [List.length_map,List.take_length] at ga
  refine ⟨s',x1,N1,ga,fun k=>?_⟩
  rw [Vq,hi,Ec om,hsc,run]
noncomputable def Mz (wd:Nat) (r:Row):Bool:=!decide (wd < r.i + 2) && (match r.t with | none=>true | some t=>decide (wd < t))
theorem zfk (d:Nat) {s:St} {r:Row} (wd:Nat) (g:s.get r.m = some (.ns (mNs r))) (k:D→St→Ans):big orc (d + 1) 63 [.obj 7 r.m,.int (.ofNat wd)] s k = k (.bool (Mz wd r)) s:=by
  rw [Ds K2 [some (.obj 7 r.m),some (.int (.ofNat wd))] (A1 D9 (A1 Da A5)) rfl rfl rfl rfl rfl rfl]
  unfold D9 Da
  have a:∀ f:List (Nat × D)→Ans,C9 s r.m f = f (mNs r):=fun f=>Bo g f
  have l81:lk (mNs r) 81 = some (.int (.ofNat (r.i + 2))):=rfl
  have l82:lk (mNs r) 82 = some (toD r.t):=rfl
  have lt:∀ i j:Nat,cLt s (.int (.ofNat i)) (.int (.ofNat j)) = some (decide (i < j)):=fun i j=>by
    show some (D4 (.ofNat i) (.ofNat j)) = _
    rw [Mine.Dw]; congr 1; exact decide_eq_decide.mpr Int.ofNat_lt
  have ci:cIs s (toD r.t) .none = some r.t.isNone:=by show some (Pv (toD r.t)) = _; rw [zhc]
  have zt:Di true false = false:=rfl
  have zf:Di false false = true:=rfl
  unfold Mz
  cases q:decide (wd < r.i + 2) with
  | true=>simp only [↓C7,C6,v0,vS,↓a,a,↓l81,l81,↓lt,lt,↓q,q]; rfl
  | false=>
    cases t:r.t with
    | none=>
      rw [t] at ci l82
      simp only [↓C7,C6,v0,vS,↓a,a,↓l81,l81,↓l82,l82,↓lt,lt,↓q,q,↓ci,ci,↓Option.isNone,Option.isNone,↓zt,zt]; rfl
    | some t'=>
      rw [t] at ci l82
      have l82':lk (mNs r) 82 = some (.int (.ofNat t')):=l82
      have ci':cIs s (.int (.ofNat t')) .none = some false:=ci
      simp only [↓C7,C6,v0,vS,↓a,a,↓l81,l81,↓l82',l82',↓lt,lt,↓q,q,↓ci',ci',↓zf,zf]; rfl
theorem zcs (d:Nat) {st:St} {tn tl wd:Nat} {x:List Nat} {E:List Row} (hb:st.base = 1) (h1:1025 ≤ st.N) (h2:st.N + 10 < 1000000) (hE:E.length < 1000) (gt:st.get tn = some (.ns [(48,.str x),(47,.ref tl)])) (gl:st.get tl = some (.list (E.map fun r=>D.obj 7 r.m)))
    (hn:tn < st.N) (hl:tl < st.N) (gE:∀ r ∈ E,st.get r.m = some (.ns (mNs r)) ∧ r.m < st.N):
    ∃ s' l,Ext noF 2 st s' ∧ l < s'.N ∧ s'.get l = some (.list ((E.filter (Mz wd)).map fun r=>D.obj 7 r.m)) ∧ ∀ k,big orc (d + 2) 46 [.obj 3 tn,.int (.ofNat wd)] st k = k (.ref l) s':=by
  refine bg fun P fin=>?_
  have e1:Ext noF 1 st (st.new (.cell (some (.int (.ofNat wd))))):=Ext.new _ om
  have g1:(st.new (.cell (some (.int (.ofNat wd))))).get st.N = some (.cell (some (.int (.ofNat wd)))):=I9 om
  have al:∀ f:Nat→St→Ans,Dg st (.cell (some (.int (.ofNat wd)))) f = f st.N (st.new (.cell (some (.int (.ofNat wd))))):=fun f=>Ec om f
  have N1:(st.new (.cell (some (.int (.ofNat wd))))).N = st.N + 1:=rfl
  generalize st.new (.cell (some (.int (.ofNat wd)))) = s1 at *
  have gt1:=e1.get gt hn (fun z=>z)
  have gl1:=e1.get gl hl (fun z=>z)
  obtain ⟨s2,e2,N2,g2,run⟩:=Ju (c:=big orc (d + 1)) (e:=⟨[some (.obj 3 tn),none],[(1,st.N)]⟩) (st:=s1) (nn:=3) (l:=tl) (cs:=[(2,1)]) (cells:=[(2,st.N)]) (i:=iOf (Ah 47 (A2 0))) (ifs:=B3 true (T3 (Az CLS 33 (A2 1) (A0 (Ab 2) A4))) (Bp true)) (x:=A2 1) E (fun r=>D.obj 7 r.m) (Mz wd) (fun r=>D.obj 7 r.m) om om om
    (fun f=>by
      have a:∀ f:List (Nat × D)→Ans,C9 s1 tn f = f [(48,.str x),(47,.ref tl)]:=fun f=>Bo gt1 f
      have l47:lk [(48,.str x),(47,D.ref tl)] 47 = some (.ref tl):=rfl
      rw [Ur,Po,C5,v0,C8,Lr,a,l47,C8,E1 gl1]) gl1 om (by rw [e1.base]; lia) (fun f=>rfl)
    (fun r hr vals s hv xs=>by
      obtain ⟨q1,q2⟩:=gE r hr
      have gr':s.get r.m = some (.ns (mNs r)):=xs.get (e1.get q1 q2 fun z=>z) om fun z=>z
      have cc:∀ f:Option D→Ans,C1 s st.N f = f (some (.int (.ofNat wd))):=fun f=>Bq (xs.get g1 om fun z=>z) f
      have l2:lk [(2,st.N)] 2 = some st.N:=rfl
      refine ⟨fun k=>?_,fun k=>by rw [C5,hv,C8]⟩
      have mt:∀ f,Az CLS 33 (A2 1) (A0 (Ab 2) A4) (big orc (d + 1)) ⟨vals,[(2,st.N)]⟩ s f = f (.bool (Mz wd r)) s:=fun f=>by
        rw [Q6 (C:=7) (n:=r.m) (f:=63) (fun f=>by rw [C5,hv,C8]) gr' rfl rfl rfl]
        rw [Es,zb1,l2,C8,cc,C8,Ut,zfk d wd gr']
      rw [L4,zkh,mt,zg7,Qs]
      cases Mz wd r <;> rfl)
  refine fin ⟨s2,s1.N,(e1.trans e2).more om fun _ _ z=>z,by lia,g2,fun k=>?_⟩
  rw [zd6 Sb [some (.obj 3 tn),some (.int (.ofNat wd))] (A1 Ez A5) 1 [] rfl rfl rfl rfl rfl rfl,zai,vS,v0,al,zhp]
  unfold Ez
  rw [Bc,zcr]
  have hd':zmg [1] [some (D.obj 3 tn),some (.int (.ofNat wd))] = [some (.obj 3 tn),none]:=rfl
  rw [hd',run]
theorem zbF (d:Nat) {st:St} {L:List Row} {ts:List Tb} {role:Nat→Nat} (x:List Nat) (wd:Nat) (I:zbV st L ts role) (hb:st.base = 1) (h1:1025 ≤ st.N) (h2:st.N + 10 < 1000000) (hL:L.length < 900):
    ∃ s' l,Ext noF 2 st s' ∧ l < s'.N ∧ s'.get l = some (.list ((L.filter fun r=>r.x == x && Mz wd r).map fun r=>D.obj 7 r.m)) ∧ ∀ k,big orc (d + 3) 50 [.obj 4 1018,.str x,.int (.ofNat wd)] st k = k (.ref l) s':=by
  have call:∀ k,big orc (d + 3) 50 [.obj 4 1018,.str x,.int (.ofNat wd)] st k = A1 Dj A5 (big orc (d + 2)) ⟨[some (.obj 4 1018),some (.str x),some (.int (.ofNat wd))],[]⟩ st k fun _ st=>k .none st:=fun k=>
    Ds Qx _ _ rfl rfl rfl rfl rfl rfl
  have atb:∀ f:List (Nat × D)→Ans,C9 st 1018 f = f (Hd (L.length + 1)):=fun f=>Bo I.tb f
  have l71:lk (Hd (L.length + 1)) 71 = some (.ref 1019):=rfl
  have ni:cIn st (.str x) (.ref 1019) = some (lkS (ts.map tD) x).isSome:=zsW I.td
  have ff:∀ M:List Row,(M.filter fun r=>r.x == x).filter (Mz wd) = M.filter fun r=>r.x == x && Mz wd r:=fun M=>by
    rw [List.filter_filter]
    exact List.filter_congr fun r _=>Bool.and_comm _ _
  by_cases q:∃ t ∈ ts,t.x = x
  · obtain ⟨t,ht,rfl⟩:=q
    obtain ⟨gt,gl,⟨c1,c2,c3,c4⟩,_⟩:=I.tab t ht
    obtain ⟨s',l,e1,hl,g,run⟩:=zcs d (wd:=wd) hb h1 h2 (E:=L.filter fun r=>r.x == t.x) (by have:=List.length_filter_le (fun r:Row=>r.x == t.x) L; lia) gt gl c2 c4 (fun r hr=>by
      obtain ⟨k,hk⟩:=List.mem_iff_getElem?.mp (List.mem_filter.mp hr).1
      obtain ⟨_,a,_,b,_⟩:=I.row k r hk
      exact ⟨a,b⟩)
    rw [ff] at g
    refine ⟨s',l,e1,hl,g,fun k=>?_⟩
    rw [call]
    unfold Dj
    have lt:=zeo I.nd ht
    have z:(some (D.obj 3 t.n)).isSome = true:=rfl
    have it:∀ f,A6 st (.ref 1019) (.str t.x) f = f (.obj 3 t.n) st:=fun f=>zgg I.td lt f
    have mt:∀ f,Az CLS 40 (x2 A6 (Ah 71 (A2 0)) (A2 1)) (A0 (A2 2) A4) (big orc (d + 2)) ⟨[some (.obj 4 1018),some (.str t.x),some (.int (.ofNat wd))],[]⟩ st f = f (.ref l) s':=fun f=>by
      rw [Q6 (C:=3) (n:=t.n) (f:=46) (fun f=>by simp only [↓C7,C6,v0,vS,↓atb,atb,↓l71,l71,↓it,it]) gt rfl rfl rfl]
      simp only [↓C7,C6,v0,vS,↓run,run]
    simp only [↓C7,C6,v0,vS,↓atb,atb,↓l71,l71,↓ni,ni,↓lt,lt,↓z,z,↓mt,mt]
  · have ne:∀ p ∈ ts.map tD,p.1 ≠ x:=fun p m=>by
      obtain ⟨t,ht,rfl⟩:=List.mem_map.mp m
      exact fun e=>q ⟨t,ht,e⟩
    have ln:=zcx ne
    have none:L.filter (fun r=>r.x == x && Mz wd r) = []:=List.filter_eq_nil_iff.mpr fun r hr e=>by
      obtain ⟨t,ht,h⟩:=I.cov r hr
      exact q ⟨t,ht,h.trans (beq_iff_eq.mp (Bool.and_eq_true_iff.mp e).1)⟩
    refine ⟨st.new (.list []),st.N,(Ext.new _ om).more om fun _ _ z=>z,Nat.lt_succ_self _,by rw [none]; exact I9 om,fun k=>?_⟩
    rw [call]
    unfold Dj
    have z:(Option.none:Option D).isSome = false:=rfl
    simp only [↓C7,C6,v0,vS,↓atb,atb,↓l71,l71,↓ni,ni,↓ln,ln,↓z,z,↓Ec (show st.N < 1000000 by lia)]
theorem zkH (d:Nat) {st:St} {L:List Row} {ts:List Tb} {role:Nat→Nat} (x:List Nat) (wd:Nat) (I:zbV st L ts role) (hb:st.base = 1) (h1:1025 ≤ st.N) (h2:st.N + 10 < 1000000) (hL:L.length < 900):
    ∃ s' l,Ext noF 3 st s' ∧ l < s'.N ∧ s'.get l = some (.list ((L.filter fun r=>r.x == x && Mz wd r).map fun r=>D.int (.ofNat r.i))) ∧ ∀ k,big orc (d + 4) 70 [.obj 4 1018,.str x,.int (.ofNat wd)] st k = k (.ref l) s':=by
  refine bg fun P fin=>?_
  obtain ⟨s1,l1,e1,hl1,g1,r1⟩:=zbF d x wd I hb h1 h2 hL
  have up1:=e1.up
  have le1:=e1.le
  have lf:=List.length_filter_le (fun r:Row=>r.x == x && Mz wd r) L
  obtain ⟨s2,e2,N2,g2,run⟩:=Ju (c:=big orc (d + 3)) (e:=⟨[some (.obj 4 1018),some (.str x),some (.int (.ofNat wd))],[]⟩) (st:=s1) (nn:=2) (l:=l1) (cs:=[]) (cells:=[]) (i:=fun c e st k=>k (.of (.ref l1)) st) (ifs:=Bp true) (x:=Ah 51 (A2 1)) (L.filter fun r=>r.x == x && Mz wd r) (fun r=>D.obj 7 r.m) (fun _=>true) (fun r=>D.int (.ofNat r.i)) om om om
    (fun f=>rfl) g1 hl1 (by rw [e1.base]; lia) (fun f=>rfl)
    (fun r hr vals s hv xs=>by
      obtain ⟨k,hk⟩:=List.mem_iff_getElem?.mp (List.mem_filter.mp hr).1
      obtain ⟨_,a,_,b,_⟩:=I.row k r hk
      have gr':s.get r.m = some (.ns (mNs r)):=xs.get (e1.get a b fun z=>z) om fun z=>z
      have l51:lk (mNs r) 51 = some (.int (.ofNat r.i)):=rfl
      exact ⟨fun k=>rfl,fun k=>by rw [Po,C5,hv,C8,Lr,Bo gr',l51,C8]⟩)
  have nof:∀ M:List Row,M.filter (fun _=>true) = M:=fun M=>List.filter_eq_self.mpr fun _ _=>rfl
  rw [nof] at g2
  refine fin ⟨s2,s1.N,(e1.trans e2).more om fun _ _ z=>z,by lia,g2,fun k=>?_⟩
  rw [Ds Uh [some (.obj 4 1018),some (.str x),some (.int (.ofNat wd))] (A1 G4 A5) rfl rfl rfl rfl rfl rfl]
  unfold G4
  have mt:∀ f,Az CLS 40 (A2 0) (A0 (A2 1) (A0 (A2 2) A4)) (big orc (d + 3)) ⟨[some (.obj 4 1018),some (.str x),some (.int (.ofNat wd))],[]⟩ st f = f (.ref l1) s1:=fun f=>by
    rw [Q6 (C:=4) (n:=1018) (f:=50) (fun f=>by rw [C5,v0,C8]) I.tb rfl rfl rfl]
    simp only [↓C7,C6,v0,vS,↓r1,r1]
  have swap:∀ f,Bw 2 [] (iOf (Az CLS 40 (A2 0) (A0 (A2 1) (A0 (A2 2) A4)))) (Bl (A8 1) (Bp true) (Bz (Ah 51 (A2 1)))) (big orc (d + 3)) ⟨[some (.obj 4 1018),some (.str x),some (.int (.ofNat wd))],[]⟩ st f = f (.ref s1.N) s2:=fun f=>by
    have r2:=run f
    rw [Vq] at r2
    rw [Vq,Ur,mt,E1 g1]
    exact r2
  rw [Bc,zcr,swap]
section
theorem zqW (n:Nat) (o:Bb) (e:T.get SKH n = some o):6 ≤ n ∧ n < 1018:=by
  have h6:T.allB (fun n (_:Bb)=>Nat.ble 6 n) SKH 1 0 = true:=by kernel_rfl
  exact ⟨Nat.le_of_ble_eq_true ((T.allB_all h6).get1 n o e),(zgC none n o e).1⟩
theorem zoC (xs ys:List D) (a b:Int):KAt (sB xs ys a b):=by
  refine ⟨by show 1018 ≤ 1025; lia,fun n o e=>?_⟩
  obtain ⟨h1,h2⟩:=zqW n o e
  have P:∀ (t:T Bb) (i:Nat) (ob:Bb),i < 2000→n ≠ i→t.get n = some o→(T.put ob Ee t i).get n = some o:=fun t i ob hi ne h=>by
    rw [T.get_put ob Ee t i n (B7 om),if_neg ne]; exact h
  show (hB xs ys a b).get n = some o
  unfold hB
  exact P _ _ _ om om <| P _ _ _ om om <| P _ _ _ om om <| P _ _ _ om om <| P _ _ _ om om <| P _ _ _ om om <| P _ _ _ om om <|
    P _ _ _ om om <| P _ _ _ om om <| P _ _ _ om om <| P _ _ _ om om <| P _ _ _ om om <| P _ _ _ om om e
theorem zkd (xs ys:List D) (a b:Int) (h0:0 ≤ b) (h1:b < 2147483647):zgx (sB xs ys a b) [] [] (fun n=>n) where
  dr:=⟨rfl,by show 1025 ≤ 1025; lia,by show 1025 + 100 ≤ 1000000; lia,by kernel_rfl,a,b,by kernel_rfl,h0,h1⟩
  up:=by show 1025 ≤ 1025 + 40 * 0; lia
  kat:=zoC xs ys a b
  c2:=⟨some (.str [78]),by kernel_rfl⟩
  c3:=⟨none,by kernel_rfl⟩
  T:=⟨by kernel_rfl,List.nodup_nil,Nat.le_refl _,by kernel_rfl,by kernel_rfl,fun t h=>absurd h List.not_mem_nil,fun r h=>absurd h List.not_mem_nil,fun k r h=>by rw [List.getElem?_nil] at h; cases h⟩
  D:=⟨by kernel_rfl,fun k r h=>by rw [List.getElem?_nil] at h; cases h⟩
noncomputable def E6 (y6 y7 y8 y9 y11 y12 y13:Option D):Ax:=⟨vL (some (.obj 6 6)) (some (.obj 4 1018)) (some (.ref 1021)) y6 y7 y8 y9 y11 y12 y13,cL⟩
theorem zie {st:St} (I:zgx st [] [] (fun n=>n)):∃ (L:List Row) (ts:List Tb) (role:Nat→Nat) (y6 y7 y8 y9 y11:Option D) (st':St),L.length ≤ 7 ∧ zgx st' L ts role ∧
    ∀ (ret:D→St→Ans) (next:Ax→St→Ans),Sk (big orc 59) (E6 none none none none none none none) st ret next = next (E6 y6 y7 y8 y9 y11 none none) st':=by
  refine bg fun P fin=>?_
  obtain ⟨v,s1,hv,e1,x1,N1,r1⟩:=zgI 58 (many:=6) I.dr om om
  have lo:=I.dr.lo
  obtain ⟨v2,g2⟩:=I.c2
  obtain ⟨v3,g3⟩:=I.c3
  have I1:zgx s1 [] [] (fun n=>n):=⟨x1,by rw [N1]; exact I.up,I.kat.ext e1 fun n h1 h2=>by unfold F5 at h1; lia,⟨v2,e1.get g2 om (by unfold F5; lia)⟩,⟨v3,e1.get g3 om (by unfold F5; lia)⟩,
    I.T.ext e1 lo (fun n h1 h2=>by unfold F5 at h2; lia) (fun _ _=>rfl),I.D.ext e1 lo (fun n h1 h2=>by unfold F5 at h2; lia) (fun _ _=>rfl)⟩
  obtain ⟨e',s',⟨L,ts,role,y6,y7,y8,y9,y11,hL,IL,rfl⟩,run⟩:=Vr (t:=A8 6) (b:=zhe) (it:=.range (2 + v)) (c:=big orc 59) (rng (2 + v))
    (fun i e s=>∃ (L:List Row) (ts:List Tb) (role:Nat→Nat) (y6 y7 y8 y9 y11:Option D),L.length = i ∧ zgx s L ts role ∧ e = E6 y6 y7 y8 y9 y11 none none) (by rw [Q8]; show _ < 100000; lia)
    (fun i e s _=>zaM)
    (fun i dd e s hd hi=>by
      obtain ⟨L,ts,role,y6,y7,y8,y9,y11,hL,IL,rfl⟩:=hi
      obtain ⟨hi',rfl⟩:=zgt hd
      obtain ⟨L',ts',role',z7,z8,z9,z11,st',hL',IL',r⟩:=ziL 55 IL om y7 y8 y9 y11
      refine ⟨E6 (some (.int (.ofNat i))) z7 z8 z9 z11 none none,st',⟨L',ts',role',_,z7,z8,z9,z11,by lia,IL',rfl⟩,fun ret nx=>?_⟩
      rw [hL] at r
      have w6:L9 (some (D.int (.ofNat i))) (E6 y6 y7 y8 y9 y11 none none).vals 6 = (E6 (some (.int (.ofNat i))) y7 y8 y9 y11 none none).vals:=rfl
      rw [Gf,w6]
      exact r ret nx) (E6 none none none none none none none) s1 ⟨[],[],fun n=>n,none,none,none,none,none,rfl,I1,rfl⟩
  rw [Q8] at hL
  refine fin ⟨L,ts,role,y6,y7,y8,y9,y11,s',by lia,IL,fun ret next=>?_⟩
  have f5:Sk = J3 (A8 6) (Pi (x2 Eg (A3 (.int (.ofNat 2))) (Am 67 (A0 (Ab 1) (A0 (A3 (.int (.ofNat 6))) A4))))) zhe:=rfl
  have cell:∀ f:Option D→Ans,C1 st 1 f = f (some (.ref 5)):=fun f=>Bq I.dr.c1 f
  have l1:lk (E6 none none none none none none none).cells 1 = some 1:=rfl
  have ad:∀ (x y:Int) (s:St) (f:D→St→Ans),Eg s (.int x) (.int y) f = f (.int (x + y)) s:=fun _ _ _ _=>rfl
  have sum:(Int.ofNat 2 + Int.ofNat v) = Int.ofNat (2 + v):=rfl
  have on:∀ f:Nat→Ans,zbo (.ofNat (2 + v)) f = f (2 + v):=fun f=>rfl
  have bl:Nat.blt (2 + v) 100000 = true:=Yi om
  rw [f5]
  simp only [↓C7,C6,v0,vS,↓l1,l1,↓cell,cell,↓r1,r1,↓ad,ad,↓sum,sum,↓on,on,↓bl,bl,↓run,run]
structure Vl (st:St) (L:List Row) (ts:List Tb) (role:Nat→Nat) (M:Nat):Prop where
  base:st.base = 1
  lo:1025 ≤ st.N
  hi:st.N ≤ M
  T:zbV st L ts role
  D:zic st L role
theorem Vl.ext {F:Nat→Prop} {c M:Nat} {st st':St} {L:List Row} {ts:List Tb} {role:Nat→Nat} (I:Vl st L ts role M) (x:Ext F c st st') (h:∀ n,F n→n < 1018):Vl st' L ts role (M + c):=
  ⟨x.base.trans I.base,Nat.le_trans I.lo x.le,by have:=x.up; have:=I.hi; lia,I.T.ext x I.lo (fun n _ h2=>by have:=h n h2; lia) (fun _ _=>rfl),I.D.ext x I.lo (fun n _ h2=>by have:=h n h2; lia) (fun _ _=>rfl)⟩
noncomputable def zjd:Sm D:=Bw 4 [(2,3),(3,10)] (iOf (A2 5)) (Bl (A8 1) (B3 true (B3 true (Ao cEq (x2 A6 (A2 1) (A3 (.int (.ofNat 0)))) (Ab 2)) (B3 true (Ao cLe (x2 A6 (A2 1) (A3 (.int (.ofNat 3)))) (Ab 3)) (B3 true (B3 false (Ao cIs (x2 A6 (A2 1) (A3 (.int (.ofNat 4)))) (A3 .none)) (B3 false (Ao cLt (Ab 3) (x2 A6 (A2 1) (A3 (.int (.ofNat 4))))) (Bp false))) (Bp true)))) (Bp true)) (Bz (x2 A6 (A2 1) (A3 (.int (.ofNat 2))))))
section
variable {st:St} {L:List Row} {ts:List Tb} {role:Nat→Nat} {M:Nat} {c:Cal} {y6 y7 y8 y9 y11 y12 y13:Option D}
theorem zfm (I:Vl st L ts role M):∀ f,iOf (A2 5) c (E6 y6 y7 y8 y9 y11 y12 y13) st f = f (.of (.ref 1021)) st:=fun f=>by
  have v5:Bi (E6 y6 y7 y8 y9 y11 y12 y13).vals 5 = some (.ref 1021):=rfl
  rw [Ur,C5,v5,C8,E1 I.D.du]
theorem zdR (I:Vl st L ts role M) {s:St} (xs:Ext noF 1 st s) {r:Row} (hr:r ∈ L):s.get r.r = some (.list (rL r)) ∧ zjM r.i r:=by
  obtain ⟨k,hk⟩:=List.mem_iff_getElem?.mp hr
  obtain ⟨a,_,⟨_,b,_⟩,_⟩:=I.D.row k r hk
  have ok:=(I.T.row k r hk).1
  exact ⟨xs.get a b fun z=>z,by have:=ok.1; subst this; exact ok⟩
theorem Fb {s:St} {r:Row} (g:s.get r.r = some (.list (rL r))) {i:Nat} {y:D} (h:(rL r)[i]? = some y) {vals:List (Option D)} {cells:List (Nat × Nat)} (hv:Bi vals 1 = some (.ref r.r)) (f:D→St→Ans):
    x2 A6 (A2 1) (A3 (.int (.ofNat i))) c ⟨vals,cells⟩ s f = f y s:=by
  rw [zlK,C5,hv,C8,Gw,Sp g (by rw [zaO]; lia) h]
theorem zib (I:Vl st L ts role M) (hM:M < 900000) (hL:L.length < 900) {x:List Nat} {wd:Nat} (c2:st.get 2 = some (.cell (some (.str x)))) (c3:st.get 3 = some (.cell (some (.int (.ofNat wd))))):
    ∃ s',Ext noF 1 st s' ∧ s'.N = st.N + 1 ∧ s'.get st.N = some (.list ((L.filter fun r=>r.x == x && Mz wd r).map fun r=>D.int (.ofNat r.i))) ∧ ∀ k,zjd c (E6 y6 y7 y8 y9 y11 y12 y13) st k = k (.ref st.N) s':=by
  have lo:=I.lo
  have hi:=I.hi
  refine Ju (cells:=[(2,2),(3,3)]) L (fun r=>D.ref r.r) (fun r=>r.x == x && Mz wd r) (fun r=>D.int (.ofNat r.i)) om om om (zfm I) I.D.du om (by rw [I.base]; lia) (fun f=>rfl) fun r hr vals s hv xs=>?_
  obtain ⟨g,_⟩:=zdR I xs hr
  have i0:∀ f,x2 A6 (A2 1) (A3 (.int (.ofNat 0))) c ⟨vals,[(2,2),(3,3)]⟩ s f = f (.str r.x) s:=fun f=>Fb g rfl hv f
  have i2:∀ f,x2 A6 (A2 1) (A3 (.int (.ofNat 2))) c ⟨vals,[(2,2),(3,3)]⟩ s f = f (.int (.ofNat r.i)) s:=fun f=>Fb g rfl hv f
  have i3:∀ f,x2 A6 (A2 1) (A3 (.int (.ofNat 3))) c ⟨vals,[(2,2),(3,3)]⟩ s f = f (.int (.ofNat (r.i + 2))) s:=fun f=>Fb g rfl hv f
  have i4:∀ f,x2 A6 (A2 1) (A3 (.int (.ofNat 4))) c ⟨vals,[(2,2),(3,3)]⟩ s f = f (toD r.t) s:=fun f=>Fb g rfl hv f
  have cc2:∀ f,Ab 2 c ⟨vals,[(2,2),(3,3)]⟩ s f = f (.str x) s:=fun f=>by
    have l2:lk [(2,2),(3,3)] 2 = some 2:=rfl
    rw [zb1,l2,C8,Bq (xs.get c2 om fun z=>z),C8]
  have cc3:∀ f,Ab 3 c ⟨vals,[(2,2),(3,3)]⟩ s f = f (.int (.ofNat wd)) s:=fun f=>by
    have l3:lk [(2,2),(3,3)] 3 = some 3:=rfl
    rw [zb1,l3,C8,Bq (xs.get c3 om fun z=>z),C8]
  have lt:∀ i j:Nat,cLt s (.int (.ofNat i)) (.int (.ofNat j)) = some (decide (i < j)):=fun i j=>by
    show some (D4 (.ofNat i) (.ofNat j)) = _
    rw [Mine.Dw]; congr 1; exact decide_eq_decide.mpr Int.ofNat_lt
  have le:∀ i j:Nat,cLe s (.int (.ofNat i)) (.int (.ofNat j)) = some (Rv (decide (j < i))):=fun i j=>by
    show some (Rv (D4 (.ofNat j) (.ofNat i))) = _
    rw [Mine.Dw]; congr 2; exact decide_eq_decide.mpr Int.ofNat_lt
  have ci:cIs s (toD r.t) .none = some r.t.isNone:=by show some (Pv (toD r.t)) = _; rw [zhc]
  have ce:cEq s (.str r.x) (.str x) = some (r.x == x):=by
    rw [zeM]; exact congrArg some (Bool.eq_iff_iff.mpr (by simp))
  have ztt:Di true true = true:=rfl
  have zft:Di false true = false:=rfl
  have ztf:Di true false = false:=rfl
  have zff:Di false false = true:=rfl
  have nt:Rv true = false:=rfl
  have nf:Rv false = true:=rfl
  refine ⟨fun k=>?_,fun k=>i2 k⟩
  unfold Mz
  cases q1:(r.x == x) with
  | false=>
    simp only [L4,Sz,i0,cc2,ce,q1,C8,zft,zcW,Qs]; rfl
  | true=>
    cases q2:decide (wd < r.i + 2) with
    | true=>simp only [L4,Sz,i0,i3,cc2,cc3,ce,le,q1,q2,C8,ztt,zft,nt,zcY,zcW,Qs]; rfl
    | false=>
      cases t:r.t with
      | none=>
        rw [t] at ci i4
        simp only [L4,Sz,i0,i3,i4,cc2,cc3,ce,le,ci,q1,q2,Gw,Option.isNone,C8,ztt,zft,ztf,nf,zcY,zcW,Qs]; rfl
      | some t'=>
        rw [t] at ci i4
        have i4':∀ f,x2 A6 (A2 1) (A3 (.int (.ofNat 4))) c ⟨vals,[(2,2),(3,3)]⟩ s f = f (.int (.ofNat t')) s:=i4
        have ci':cIs s (.int (.ofNat t')) .none = some false:=ci
        cases q3:decide (wd < t') with
        | true=>simp only [L4,Sz,i0,i3,i4',cc2,cc3,ce,le,lt,ci',q1,q2,q3,Gw,C8,ztt,zft,ztf,zff,nf,zcY,zcW,Qs]; rfl
        | false=>simp only [L4,Sz,i0,i3,i4',cc2,cc3,ce,le,lt,ci',q1,q2,q3,Gw,C8,ztt,zft,ztf,zff,nf,zcY,zcW,Qs]; rfl
end
end
section
noncomputable def zhs:Sx:=A1 (Ap (A8 12) zjd) (A1 (sIf (Ao cNe (Am 70 (A0 (A2 4) (A0 (Ab 3) (A0 (Ab 10) A4)))) (A2 12)) (A1 (Bg (A3 (.bool false))) A5) A5) A5)
noncomputable def zge:Sx:=A1 (J3 (Ck 3) (iOf (B6 (A0 (A3 (.str [102])) (A0 (A3 (.str [103])) (A0 (A3 (.str [110,111,110,101])) A4))))) zhs) A5
theorem zsa:Vv = J3 (Ck 10) (Pi (x2 Eg (x1 No (A2 5)) (A3 (.int (.ofNat 4))))) zge:=rfl
section
variable {L:List Row} {ts:List Tb} {role:Nat→Nat} {y6 y7 y8 y9 y11 y13:Option D}
theorem zg6 (M:List Row):(M.map fun r=>D.int (.ofNat r.i)).all (gr 13) = true:=by
  rw [List.all_eq_true]; intro x m
  obtain ⟨r,_,rfl⟩:=List.mem_map.mp m; rfl
theorem zkt {st:St} {M wd:Nat} {x:List Nat} {v:Option D} {y12:Option D} (I:Vl st L ts role M) (hM:M + 20 < 900000) (hL:L.length < 900) (c2:st.get 2 = some (.cell v)) (c3:st.get 3 = some (.cell (some (.int (.ofNat wd))))):
    ∃ (z12:Option D) (st':St),Vl st' L ts role (M + 10) ∧ (∃ v,st'.get 2 = some (.cell v)) ∧ st'.get 3 = some (.cell (some (.int (.ofNat wd)))) ∧
      ∀ (ret:D→St→Ans) (nx:Ax→St→Ans),(Ck 3 (big orc 59) (E6 y6 y7 y8 y9 y11 y12 y13) (.str x) st fun e st=>zhs (big orc 59) e st ret nx) = nx (E6 y6 y7 y8 y9 y11 z12 y13) st':=by
  refine bg fun P fin=>?_
  have lo:=I.lo
  have hi:=I.hi
  have e1:Ext (fun n=>n = 2) 0 st (st.put 2 (.cell (some (.str x)))):=Ext.put _ om om rfl
  have g2:(st.put 2 (.cell (some (.str x)))).get 2 = some (.cell (some (.str x))):=Ep (B7 om)
  have up1:∀ f:St→Ans,upd st 2 (.cell (some (.str x))) f = f (st.put 2 (.cell (some (.str x)))):=fun f=>Je (by rw [I.base]; lia) f
  generalize st.put 2 (.cell (some (.str x))) = s1 at *
  have I1:=I.ext e1 fun n h=>by lia
  have g3:=e1.get c3 om om
  obtain ⟨s2,e2,N2,ga,r2⟩:=zib (c:=big orc 59) (y6:=y6) (y7:=y7) (y8:=y8) (y9:=y9) (y11:=y11) (y12:=y12) (y13:=y13) I1 om hL g2 g3
  have I2:=I1.ext e2 fun n h=>h.elim
  have le1:=e1.le
  have hi1:=I1.hi
  have lo2:=I2.lo
  have hi2:=I2.hi
  obtain ⟨s3,l3,e3,hl3,gl3,r3⟩:=zkH 55 x wd I2.T I2.base I2.lo om hL
  have I3:=I2.ext e3 fun n h=>h.elim
  have g2b:=e3.get (e2.get g2 om fun z=>z) om fun z=>z
  have g3b:=e3.get (e2.get g3 om fun z=>z) om fun z=>z
  have ga3:=e3.get ga om fun z=>z
  refine fin ⟨some (.ref s1.N),s3,⟨I3.base,I3.lo,by have:=I3.hi; lia,I3.T,I3.D⟩,⟨_,g2b⟩,g3b,fun ret nx=>?_⟩
  have k3:lk (E6 y6 y7 y8 y9 y11 y12 y13).cells 3 = some 2:=rfl
  have cc:∀ f:Option D→Ans,C1 st 2 f = f v:=fun f=>Bq c2 f
  have w12:L9 (some (D.ref s1.N)) (E6 y6 y7 y8 y9 y11 y12 y13).vals 12 = (E6 y6 y7 y8 y9 y11 (some (.ref s1.N)) y13).vals:=rfl
  have k3':lk (E6 y6 y7 y8 y9 y11 y12 y13).cells 3 = some 2:=rfl
  have k10:lk (E6 y6 y7 y8 y9 y11 y12 y13).cells 10 = some 3:=rfl
  have a4:Bi (E6 y6 y7 y8 y9 y11 (some (.ref s1.N)) y13).vals 4 = some (.obj 4 1018):=rfl
  have a12:Bi (E6 y6 y7 y8 y9 y11 (some (.ref s1.N)) y13).vals 12 = some (.ref s1.N):=rfl
  have c2':∀ f:Option D→Ans,C1 s2 2 f = f (some (.str x)):=fun f=>Bq (e2.get g2 om fun z=>z) f
  have c3':∀ f:Option D→Ans,C1 s2 3 f = f (some (.int (.ofNat wd))):=fun f=>Bq (e2.get g3 om fun z=>z) f
  have cn:cNe s3 (.ref l3) (.ref s1.N) = some false:=zfV (zdu gl3 ga3 (zg6 _))
  unfold zhs
  rw [Rc,k3,C8,cc,up1,Bc,Ke,r2,Gf,w12,Bc]
  simp only [↓C7,C6,v0,vS,↓a4,a4,↓k3',k3',↓k10,k10,↓c2',c2',↓c3',c3',↓r3,r3,↓a12,a12,↓cn,cn]
  rfl
theorem zgc {st:St} (I:Vl st L ts role 3000) (hL:L.length ≤ 7) {v2 v3:Option D} (c2:st.get 2 = some (.cell v2)) (c3:st.get 3 = some (.cell v3)):
    ∃ (z12:Option D) (st':St),Vl st' L ts role 10000 ∧ ∀ (ret:D→St→Ans) (nx:Ax→St→Ans),Vv (big orc 59) (E6 y6 y7 y8 y9 y11 none y13) st ret nx = nx (E6 y6 y7 y8 y9 y11 z12 y13) st':=by
  obtain ⟨e',s',⟨z12,rfl,I',_,_⟩,run⟩:=Vr (t:=Ck 10) (b:=zge) (it:=.range (L.length + 4)) (c:=big orc 59) (rng (L.length + 4))
    (fun i e s=>∃ y12,e = E6 y6 y7 y8 y9 y11 y12 y13 ∧ Vl s L ts role (3000 + 40 * i) ∧ (∃ v,s.get 2 = some (.cell v)) ∧ ∃ v,s.get 3 = some (.cell v)) (by rw [Q8]; show _ < 100000; lia)
    (fun i e s _=>zaM)
    (fun i dd e s hd hi=>by
      obtain ⟨y12,rfl,Is,⟨w2,d2⟩,w3,d3⟩:=hi
      obtain ⟨hi',rfl⟩:=zgt hd
      have lo:=Is.lo
      have hi:=Is.hi
      have e1:Ext (fun n=>n = 3) 0 s (s.put 3 (.cell (some (.int (.ofNat i))))):=Ext.put _ om om rfl
      have g3:(s.put 3 (.cell (some (.int (.ofNat i))))).get 3 = some (.cell (some (.int (.ofNat i)))):=Ep (B7 om)
      have up1:∀ f:St→Ans,upd s 3 (.cell (some (.int (.ofNat i)))) f = f (s.put 3 (.cell (some (.int (.ofNat i))))):=fun f=>Je (by rw [Is.base]; lia) f
      generalize s.put 3 (.cell (some (.int (.ofNat i)))) = s1 at *
      have I1:=Is.ext e1 fun n h=>by lia
      have d2':=e1.get d2 om om
      obtain ⟨e2',s2,⟨z,rfl,I2,q2,q3⟩,run2⟩:=Vr (t:=Ck 3) (b:=zhs) (it:=.of (.tup [.str [102],.str [103],.str [110,111,110,101]])) (c:=big orc 59) [.str [102],.str [103],.str [110,111,110,101]]
        (fun j e s=>∃ y12,e = E6 y6 y7 y8 y9 y11 y12 y13 ∧ Vl s L ts role (3000 + 40 * i + 10 * j) ∧ (∃ v,s.get 2 = some (.cell v)) ∧ s.get 3 = some (.cell (some (.int (.ofNat i))))) (by show 3 < 100000; lia)
        (fun j e s _=>znn)
        (fun j dd e s hd hi=>by
          obtain ⟨y12,rfl,Is,⟨w2,d2⟩,d3⟩:=hi
          have hj:j < 3:=(List.getElem?_eq_some_iff.mp hd).1
          obtain ⟨x,rfl⟩:∃ x,dd = .str x:=by
            have q:∀ j,j < 3→[D.str [102],.str [103],.str [110,111,110,101]][j]? = some dd→∃ x,dd = .str x:=
              bel (bel (bel Xx (fun h=>⟨_,(Option.some.inj h).symm⟩)) (fun h=>⟨_,(Option.some.inj h).symm⟩)) (fun h=>⟨_,(Option.some.inj h).symm⟩)
            exact q j hj hd
          obtain ⟨z12,st',I',q2,q3,r⟩:=zkt (y6:=y6) (y7:=y7) (y8:=y8) (y9:=y9) (y11:=y11) (y13:=y13) (y12:=y12) (x:=x) Is om om d2 d3
          exact ⟨_,st',⟨z12,rfl,⟨I'.base,I'.lo,by have:=I'.hi; lia,I'.T,I'.D⟩,q2,q3⟩,r⟩) (E6 y6 y7 y8 y9 y11 y12 y13) s1 ⟨y12,rfl,⟨I1.base,I1.lo,by have:=I1.hi; lia,I1.T,I1.D⟩,⟨w2,d2'⟩,g3⟩
      refine ⟨_,s2,⟨z,rfl,⟨I2.base,I2.lo,by have:=I2.hi; simp only [List.length_cons,List.length_nil] at this; lia,I2.T,I2.D⟩,q2,⟨_,q3⟩⟩,fun ret nx=>?_⟩
      have k10:lk (E6 y6 y7 y8 y9 y11 y12 y13).cells 10 = some 3:=rfl
      have cc:∀ f:Option D→Ans,C1 s 3 f = f w3:=fun f=>Bq d3 f
      unfold zge
      rw [Rc,k10,C8,cc,up1,Bc,zcw,Ur,zgz,Es,Gw,Es,Gw,Es,Gw,Ut,zd1,run2,za0]) (E6 y6 y7 y8 y9 y11 none y13) st ⟨none,rfl,I,⟨v2,c2⟩,⟨v3,c3⟩⟩
  rw [Q8] at I'
  refine ⟨z12,s',⟨I'.base,I'.lo,by have:=I'.hi; lia,I'.T,I'.D⟩,fun ret nx=>?_⟩
  rw [zsa]
  have v5:Bi (E6 y6 y7 y8 y9 y11 none y13).vals 5 = some (.ref 1021):=rfl
  have bl:∀ f:D→St→Ans,No st (.ref 1021) f = f (.int (.ofNat L.length)) st:=fun f=>by
    have g:T.get st.H 1021 = some (.list (L.map fun r=>D.ref r.r)):=I.D.du
    show (ob (T.get st.H 1021) fun o=>_) = _
    rw [g]
    show fit (L.map fun r=>D.ref r.r) (f (.int (.ofNat (len (L.map fun r=>D.ref r.r)))) st) = _
    rw [Jg (by rw [List.length_map]; lia),Mine.En,List.length_map]
  have ad:∀ (x y:Int) (s:St) (f:D→St→Ans),Eg s (.int x) (.int y) f = f (.int (x + y)) s:=fun _ _ _ _=>rfl
  have sum:(Int.ofNat L.length + Int.ofNat 4) = Int.ofNat (L.length + 4):=rfl
  have on:∀ f:Nat→Ans,zbo (.ofNat (L.length + 4)) f = f (L.length + 4):=fun f=>rfl
  have blt:Nat.blt (L.length + 4) 100000 = true:=Yi om
  simp only [↓C7,C6,v0,vS,↓v5,v5,↓bl,bl,↓ad,ad,↓sum,sum,↓on,on,↓blt,blt,↓run,run]
noncomputable def zgo (r:Row):D:=.tup [.int (.ofNat r.i),.str r.x,S r.x r.g,.int (.ofNat (r.i + 2)),toD r.t]
theorem zmT:Wv (fun g=>gr 12 (S [102] g) && gr 12 (S [103] g)) 30 = true:=by kernel_rfl
theorem zuy {x:List Nat} (hx:okX x) {g:Nat} (hg:g < 30):gr 12 (S x g) = true:=by
  have:=E7 zmT g hg
  rw [Bool.and_eq_true] at this
  rcases hx with rfl | rfl
  · exact this.1
  · exact this.2
theorem znm {r:Row} (hx:okX r.x) (hg:r.g < 30):gr 13 (zgo r) = true:=by
  show List.all [.int (.ofNat r.i),.str r.x,S r.x r.g,.int (.ofNat (r.i + 2)),toD r.t] (gr 12) = true
  rw [List.all_eq_true]
  intro d hd
  simp only [List.mem_cons,List.not_mem_nil,or_false] at hd
  rcases hd with rfl | rfl | rfl | rfl | rfl
  · rfl
  · rfl
  · exact zuy hx hg
  · rfl
  · cases r.t <;> rfl
theorem zdd {α:Type} (M:List α):M.filter (fun _=>true) = M:=List.filter_eq_self.mpr fun _ _=>rfl
theorem zjt {st:St} {M:Nat} {y12:Option D} (I:Vl st L ts role M) (hM:M < 900000) (hL:L.length < 900):
    ∃ s',Ext noF 1 st s' ∧ s'.N = st.N + 1 ∧ s'.get st.N = some (.list (L.map zgo)) ∧ ∀ (ret:D→St→Ans) (nx:Ax→St→Ans),Vw (big orc 59) (E6 y6 y7 y8 y9 y11 y12 none) st ret nx = nx (E6 y6 y7 y8 y9 y11 y12 (some (.ref st.N))) s':=by
  have lo:=I.lo
  have hi:=I.hi
  obtain ⟨s',e1,N1,g1,run⟩:=Ju (c:=big orc 59) (e:=E6 y6 y7 y8 y9 y11 y12 none) (st:=st) (nn:=2) (l:=1021) (cs:=[]) (cells:=[]) (i:=iOf (A2 5)) (ifs:=Bp true) (x:=B6 (A0 (x2 A6 (A2 1) (A3 (.int (.ofNat 2)))) (A0 (x2 A6 (A2 1) (A3 (.int (.ofNat 0)))) (A0 (x2 A6 (A2 1) (A3 (.int (.ofNat 5)))) (A0 (x2 A6 (A2 1) (A3 (.int (.ofNat 3)))) (A0 (x2 A6 (A2 1) (A3 (.int (.ofNat 4)))) A4))))))
    L (fun r=>D.ref r.r) (fun _=>true) zgo om om om (zfm I) I.D.du om (by rw [I.base]; lia) (fun f=>rfl) fun r hr vals s hv xs=>by
      obtain ⟨g,_⟩:=zdR I xs hr
      have i0:∀ f,x2 A6 (A2 1) (A3 (.int (.ofNat 0))) (big orc 59) ⟨vals,[]⟩ s f = f (.str r.x) s:=fun f=>Fb g rfl hv f
      have i2:∀ f,x2 A6 (A2 1) (A3 (.int (.ofNat 2))) (big orc 59) ⟨vals,[]⟩ s f = f (.int (.ofNat r.i)) s:=fun f=>Fb g rfl hv f
      have i3:∀ f,x2 A6 (A2 1) (A3 (.int (.ofNat 3))) (big orc 59) ⟨vals,[]⟩ s f = f (.int (.ofNat (r.i + 2))) s:=fun f=>Fb g rfl hv f
      have i4:∀ f,x2 A6 (A2 1) (A3 (.int (.ofNat 4))) (big orc 59) ⟨vals,[]⟩ s f = f (toD r.t) s:=fun f=>Fb g rfl hv f
      have i5:∀ f,x2 A6 (A2 1) (A3 (.int (.ofNat 5))) (big orc 59) ⟨vals,[]⟩ s f = f (S r.x r.g) s:=fun f=>Fb g rfl hv f
      exact ⟨fun k=>rfl,fun k=>by rw [zgz,Es,i2,Es,i0,Es,i5,Es,i3,Es,i4,Ut]; rfl⟩
  rw [zdd] at g1
  refine ⟨s',e1,N1,g1,fun ret nx=>?_⟩
  unfold Vw
  have w13:L9 (some (D.ref st.N)) (E6 y6 y7 y8 y9 y11 y12 none).vals 13 = (E6 y6 y7 y8 y9 y11 y12 (some (.ref st.N))).vals:=rfl
  rw [Ke,run,Gf,w13]; rfl
theorem zko (d:Nat) {s:St} {r:Row} (g:s.get r.m = some (.ns (mNs r))) (k:D→St→Ans):big orc (d + 1) 65 [.obj 7 r.m] s k = k (zgo r) s:=by
  rw [Ds R3 [some (.obj 7 r.m)] (A1 Ef A5) rfl rfl rfl rfl rfl rfl]
  unfold Ef
  have a:∀ f:List (Nat × D)→Ans,C9 s r.m f = f (mNs r):=fun f=>Bo g f
  have l51:lk (mNs r) 51 = some (.int (.ofNat r.i)):=rfl
  have l69:lk (mNs r) 69 = some (.str r.x):=rfl
  have l62:lk (mNs r) 62 = some (S r.x r.g):=rfl
  have l81:lk (mNs r) 81 = some (.int (.ofNat (r.i + 2))):=rfl
  have l82:lk (mNs r) 82 = some (toD r.t):=rfl
  have bq:Nat.beq 7 7 = true:=rfl
  simp only [↓C7,C6,v0,vS,↓a,a,↓l51,l51,↓l69,l69,↓l62,l62,↓l81,l81,↓l82,l82,↓bq,bq]
  rfl
theorem zlf {st:St} {M Tz:Nat} {y12:Option D} (I:Vl st L ts role M) (hM:M + 10 < 900000) (hL:L.length < 900) (gr':st.get Tz = some (.list (L.map zgo))) (hr:Tz < st.N):
    ∃ s',Vl s' L ts role (M + 1) ∧ ∀ (ret:D→St→Ans) (nx:Ax→St→Ans),Vt (big orc 59) (E6 y6 y7 y8 y9 y11 y12 (some (.ref Tz))) st ret nx = nx (E6 y6 y7 y8 y9 y11 y12 (some (.ref Tz))) s':=by
  have lo:=I.lo
  have hi:=I.hi
  have atb:∀ f:List (Nat × D)→Ans,C9 st 1018 f = f (Hd (L.length + 1)):=fun f=>Bo I.T.tb f
  have l5:lk (Hd (L.length + 1)) 5 = some (.ref 1020):=rfl
  have a4:Bi (E6 y6 y7 y8 y9 y11 y12 (some (.ref Tz))).vals 4 = some (.obj 4 1018):=rfl
  have a13:Bi (E6 y6 y7 y8 y9 y11 y12 (some (.ref Tz))).vals 13 = some (.ref Tz):=rfl
  obtain ⟨s',e1,N1,g1,run⟩:=Ju (c:=big orc 59) (e:=E6 y6 y7 y8 y9 y11 y12 (some (.ref Tz))) (st:=st) (nn:=2) (l:=1020) (cs:=[]) (cells:=[]) (i:=iOf (Ah 5 (A2 4))) (ifs:=Bp true) (x:=Az CLS 72 (A2 1) A4)
    L (fun r=>D.obj 7 r.m) (fun _=>true) zgo om om om (fun f=>by rw [Ur,Po,C5,a4,C8,Lr,atb,l5,C8,E1 I.T.al]) I.T.al om (by rw [I.base]; lia) (fun f=>rfl) fun r hr vals s hv xs=>by
      obtain ⟨k,hk⟩:=List.mem_iff_getElem?.mp hr
      obtain ⟨_,a,_,b,_⟩:=I.T.row k r hk
      have g:s.get r.m = some (.ns (mNs r)):=xs.get a b fun z=>z
      refine ⟨fun k=>rfl,fun k=>?_⟩
      rw [Q6 (C:=7) (n:=r.m) (f:=65) (fun f=>by rw [C5,hv,C8]) g rfl rfl rfl,Ut,zko 58 g]
  rw [zdd] at g1
  refine ⟨s',I.ext e1 fun n h=>h.elim,fun ret nx=>?_⟩
  have all:(L.map zgo).all (gr 13) = true:=by
    rw [List.all_eq_true]
    intro x m
    obtain ⟨r,hr,rfl⟩:=List.mem_map.mp m
    obtain ⟨k,hk⟩:=List.mem_iff_getElem?.mp hr
    obtain ⟨⟨_,hx,_,hg,_⟩,_⟩:=I.T.row k r hk
    exact znm hx hg
  have cn:cNe s' (.ref st.N) (.ref Tz) = some false:=zfV (zdu g1 (e1.get gr' hr fun z=>z) all)
  have ce:cEq s' (.tup [.str [98,111,116,116,111,109]]) (.tup [.str [110,97,109,101],.str [65,110,121],.tup []]) = some false:=rfl
  have zff:Di false false = true:=rfl
  unfold Vt
  rw [zn4,L4,Sz,run,C5,a13,C8,cn,C8,zff,zcY,L4,Sz,Gw,Gw,ce,C8,zff,zcY,Qs,zcW,za0]
theorem zkk {st:St} {M:Nat} {y12 y13:Option D} (I:Vl st L ts role M) (hM:M + 20 < 900000) (hL:L.length < 900):
    ∃ s',∀ (ret:D→St→Ans) (nx:Ax→St→Ans),Vo (big orc 59) (E6 y6 y7 y8 y9 y11 y12 y13) st ret nx = ret (.bool true) s':=by
  refine bg fun P fin=>?_
  have lo:=I.lo
  have hi:=I.hi
  have tl:=I.T.tl
  obtain ⟨t,ts',s1,htm,htx,e1,td1,htc,r1⟩:=zd5 57 (x:=[102]) I.base I.lo om om I.T.tb I.T.td I.T.nd
  have up1:=e1.up
  have le1:=e1.le
  obtain ⟨gt,gl,hnN,hlN⟩:s1.get t.n = some (.ns [(48,.str t.x),(47,.ref t.l)]) ∧ s1.get t.l = some (.list ((L.filter fun r=>r.x == ([102]:List Nat)).map fun r=>D.obj 7 r.m)) ∧ t.n < s1.N ∧ t.l < s1.N:=by
    rcases htc with ⟨rfl,rfl⟩ | ⟨hne,rfl,gn,gl,en,el,eN⟩
    · obtain ⟨a,b,⟨_,c2,_,c4⟩,_⟩:=I.T.tab t htm
      rw [htx] at b
      exact ⟨a,b,c2,c4⟩
    · have none:L.filter (fun r=>r.x == ([102]:List Nat)) = []:=List.filter_eq_nil_iff.mpr fun r hr e=>by
        obtain ⟨t'',h1,h2⟩:=I.T.cov r hr
        exact hne t'' h1 (h2.trans (beq_iff_eq.mp e))
      exact ⟨by rw [htx]; exact gn,by rw [none]; exact gl,by lia,by lia⟩
  have lf:=List.length_filter_le (fun r:Row=>r.x == ([102]:List Nat)) L
  have b1:s1.base = 1:=e1.base.trans I.base
  have a4:Bi (E6 y6 y7 y8 y9 y11 y12 y13).vals 4 = some (.obj 4 1018):=rfl
  obtain ⟨s2,e2,N2,g2,run2⟩:=Ju (c:=big orc 59) (e:=E6 y6 y7 y8 y9 y11 y12 y13) (st:=s1) (nn:=2) (l:=t.l) (cs:=[]) (cells:=[]) (i:=fun c e st k=>k (.of (.ref t.l)) st) (ifs:=Bp true) (x:=Ah 51 (A2 1)) (L.filter fun r=>r.x == ([102]:List Nat)) (fun r=>D.obj 7 r.m) (fun _=>true) (fun r=>D.int (.ofNat r.i)) om om om
    (fun f=>rfl) gl hlN om (fun f=>rfl)
    (fun r hr vals s hv xs=>by
      obtain ⟨k,hk⟩:=List.mem_iff_getElem?.mp (List.mem_filter.mp hr).1
      obtain ⟨_,a,q,b,_⟩:=I.T.row k r hk
      have g:s.get r.m = some (.ns (mNs r)):=xs.get (e1.get a b om) om fun z=>z
      have l51:lk (mNs r) 51 = some (.int (.ofNat r.i)):=rfl
      exact ⟨fun k=>rfl,fun k=>by rw [Po,C5,hv,C8,Lr,Bo g,l51,C8]⟩)
  rw [zdd] at g2
  have D1:zic s2 L role:=(I.D.ext e1 I.lo (fun n _ h=>by lia) (fun _ _=>rfl)).ext e2 om (fun n _ h=>h.elim) (fun _ _=>rfl)
  obtain ⟨s3,e3,N3,g3,run3⟩:=Ju (c:=big orc 59) (e:=E6 y6 y7 y8 y9 y11 y12 y13) (st:=s2) (nn:=2) (l:=1021) (cs:=[]) (cells:=[]) (i:=iOf (A2 5)) (ifs:=B3 true (Ao cEq (x2 A6 (A2 1) (A3 (.int (.ofNat 0)))) (A3 (.str [102]))) (Bp true)) (x:=x2 A6 (A2 1) (A3 (.int (.ofNat 2)))) L (fun r=>D.ref r.r) (fun r=>r.x == ([102]:List Nat)) (fun r=>D.int (.ofNat r.i)) om om om
    (fun f=>by
      have v5:Bi (E6 y6 y7 y8 y9 y11 y12 y13).vals 5 = some (.ref 1021):=rfl
      rw [Ur,C5,v5,C8,E1 D1.du]) D1.du om (by rw [e2.base]; lia) (fun f=>rfl)
    (fun r hr vals s hv xs=>by
      obtain ⟨k,hk⟩:=List.mem_iff_getElem?.mp hr
      obtain ⟨a,_,⟨_,b,_⟩,_⟩:=D1.row k r hk
      have g:=xs.get a b fun z=>z
      have i0:∀ f,x2 A6 (A2 1) (A3 (.int (.ofNat 0))) (big orc 59) ⟨vals,[]⟩ s f = f (.str r.x) s:=fun f=>Fb g rfl hv f
      have i2:∀ f,x2 A6 (A2 1) (A3 (.int (.ofNat 2))) (big orc 59) ⟨vals,[]⟩ s f = f (.int (.ofNat r.i)) s:=fun f=>Fb g rfl hv f
      have ce:cEq s (.str r.x) (.str [102]) = some (r.x == [102]):=by rw [zeM]; exact congrArg some (Bool.eq_iff_iff.mpr (by simp))
      refine ⟨fun k=>?_,fun k=>i2 k⟩
      rw [L4,Sz,i0,Gw,ce,C8,Qs]
      cases (r.x == ([102]:List Nat)) <;> rfl)
  have g2':s3.get s1.N = some (.list ((L.filter fun r=>r.x == ([102]:List Nat)).map fun r=>D.int (.ofNat r.i))):=e3.get g2 om fun z=>z
  have ce:cEq s3 (.ref s1.N) (.ref s2.N) = some true:=zdu g2' g3 (zg6 _)
  refine fin ⟨s3,fun ret nx=>?_⟩
  unfold Vo
  have mt:∀ f,Az CLS 69 (A2 4) (A0 (A3 (.str [102])) A4) (big orc 59) (E6 y6 y7 y8 y9 y11 y12 y13) st f = f (.obj 3 t.n) s1:=fun f=>by
    rw [Q6 (C:=4) (n:=1018) (f:=48) (fun f=>by rw [C5,a4,C8]) I.T.tb rfl rfl rfl]
    rw [Es,Gw,Ut,r1]
  have swap:∀ f,Bw 2 [] (iOf (Ah 47 (Az CLS 69 (A2 4) (A0 (A3 (.str [102])) A4)))) (Bl (A8 1) (Bp true) (Bz (Ah 51 (A2 1)))) (big orc 59) (E6 y6 y7 y8 y9 y11 y12 y13) st f = f (.ref s1.N) s2:=fun f=>by
    have r2:=run2 f
    have l47:lk [(48,.str t.x),(47,D.ref t.l)] 47 = some (.ref t.l):=rfl
    rw [Vq] at r2
    rw [Vq,Ur,Po,mt,Lr,Bo gt,l47,C8,E1 gl]
    exact r2
  rw [zcr,zjZ,swap,run3,ce,C8]
end
theorem zl0 (xs:List Int) (hx:xs.length < 100000):∃ st',big orc 60 71 [.ref 0] (sA0 (xs.map D.int)) (fun d st=>some (d,st)) = some (.bool true,st'):=by
  refine bg fun P fin=>?_
  have g0:(sA3 (xs.map D.int)).get 0 = some (.list (xs.map D.int)):=by kernel_rfl
  obtain ⟨a,b,h0,h1,rd⟩:=zkv 58 xs g0 hx (by show 4 + 2 < 1000000; lia) (by show 0 < 4; lia)
  obtain ⟨L,ts,role,y6,y7,y8,y9,y11,s5,hL,I5,r5⟩:=zie (zkd (xs.map D.int) ((xs.map D.int).take 30) a b h0 h1)
  obtain ⟨v2,c2⟩:=I5.c2
  obtain ⟨v3,c3⟩:=I5.c3
  have M5:Vl s5 L ts role 3000:=⟨I5.dr.base,I5.dr.lo,by have:=I5.up; lia,I5.T,I5.D⟩
  obtain ⟨z12,s6,I6,r6⟩:=zgc (y6:=y6) (y7:=y7) (y8:=y8) (y9:=y9) (y11:=y11) (y13:=none) M5 hL c2 c3
  obtain ⟨s7,e7,N7,g7,r7⟩:=zjt (y6:=y6) (y7:=y7) (y8:=y8) (y9:=y9) (y11:=y11) (y12:=z12) I6 om om
  have I7:=I6.ext e7 fun n h=>h.elim
  obtain ⟨s8,I8,r8⟩:=zlf (y6:=y6) (y7:=y7) (y8:=y8) (y9:=y9) (y11:=y11) (y12:=z12) I7 om om g7 om
  obtain ⟨s9,r9⟩:=zkk (y6:=y6) (y7:=y7) (y8:=y8) (y9:=y9) (y11:=y11) (y12:=z12) (y13:=some (.ref s6.N)) I8 om om
  refine fin ⟨s9,?_⟩
  rw [zd6 zkT [some (.ref 0),none,none,none,none,none,none,none,none,none,none,none,none,none,none,none,none,none,none,none,none,none,none,none,none,none,none]
    (A1 Vy (A1 Ys (A1 zaj (A1 Z7 (A1 Zo (A1 Sk (A1 Vv (A1 Vw (A1 Vt (A1 Vo A5)))))))))) 1 [3,10] rfl rfl rfl rfl rfl rfl]
  have al0:∀ f:Nat→St→Ans,Dg (sA0 (xs.map D.int)) (.cell none) f = f 1 ((sA0 (xs.map D.int)).new (.cell none)):=fun f=>Ec (by show 1 < 1000000; lia) f
  have al1:∀ f:Nat→St→Ans,Dg ((sA0 (xs.map D.int)).new (.cell none)) (.cell none) f = f 2 (((sA0 (xs.map D.int)).new (.cell none)).new (.cell none)):=fun f=>Ec (by show 2 < 1000000; lia) f
  have al2:∀ f:Nat→St→Ans,Dg (((sA0 (xs.map D.int)).new (.cell none)).new (.cell none)) (.cell none) f = f 3 (sA3 (xs.map D.int)):=fun f=>Ec (by show 3 < 1000000; lia) f
  rw [zai]
  have q1:Bi [some (D.ref 0),none,none,none,none,none,none,none,none,none,none,none,none,none,none,none,none,none,none,none,none,none,none,none,none,none,none] 1 = none:=rfl
  have q3:Bi [some (D.ref 0),none,none,none,none,none,none,none,none,none,none,none,none,none,none,none,none,none,none,none,none,none,none,none,none,none,none] 3 = none:=rfl
  have q10:Bi [some (D.ref 0),none,none,none,none,none,none,none,none,none,none,none,none,none,none,none,none,none,none,none,none,none,none,none,none,none,none] 10 = none:=rfl
  have hd':zmg [1,3,10] [some (D.ref 0),none,none,none,none,none,none,none,none,none,none,none,none,none,none,none,none,none,none,none,none,none,none,none,none,none,none] = vL none none none none none none none none none none:=rfl
  rw [q1,al0,zai,q3,al1,zai,q10,al2,zhp,hd',Bc]
  have eA':(⟨vL none none none none none none none none none none,[(1,1),(3,2),(10,3)]⟩:Ax) = eA:=rfl
  rw [eA']
  have f0:∀ (ret:D→St→Ans) (nx:Ax→St→Ans),Vy (big orc 59) eA (sA3 (xs.map D.int)) ret nx = nx eA (sA (xs.map D.int) ((xs.map D.int).take 30) a b):=fun ret nx=>by
    unfold Vy
    have v0':Bi eA.vals 0 = some (.ref 0):=rfl
    have l1:lk eA.cells 1 = some 1:=rfl
    rw [Ke,zgT,Es,C5,v0',C8,Ut,rd,Rc,l1,C8]
    have N3:(sA3 (xs.map D.int)).N = 4:=rfl
    rw [N3]
    have gc:(((sA3 (xs.map D.int)).new (.list ((xs.map D.int).take 30))).new (.list [.int a,.int b])).get 1 = some (.cell none):=by kernel_rfl
    rw [Bq gc,Je (by show 1 ≤ 1; lia)]
    rfl
  rw [f0,zmW,Bc]
  show Sk (big orc 59) (E6 none none none none none none none) (sB (xs.map D.int) ((xs.map D.int).take 30) a b) _ _ = _
  rw [r5,Bc,r6,Bc,r7,Bc,r8,Bc,r9]
end
theorem zuw:Fs (Eb (Bu .sym) 0) (Df Bm 0) (Bu .sym) Bm = true:=by kernel_rfl
theorem zuQ:Fs (Eb (Bu .sym) 1) (Df Bm 1) (Bu .sym) Bm = true:=by kernel_rfl
theorem zuR:Fs (Eb (Bu .sym) 2) (Df Bm 2) (Bu .sym) Bm = true:=by kernel_rfl
theorem zuJ:Fs (Eb (Bu .sym) 3) (Df Bm 3) (Bu .sym) Bm = true:=by kernel_rfl
theorem zuH:Fs (Eb (Bu .sym) 4) (Df Bm 4) (Bu .sym) Bm = true:=by kernel_rfl
theorem zuK:Fs (Eb (Bu .sym) 5) (Df Bm 5) (Bu .sym) Bm = true:=by kernel_rfl
theorem zuE:Fs (Eb (Bu .sym) 6) (Df Bm 6) (Bu .sym) Bm = true:=by kernel_rfl
theorem zuO:Fs (Eb (Bu .sym) 7) (Df Bm 7) (Bu .sym) Bm = true:=by kernel_rfl
theorem zuN:Fs (Eb (Bu .sym) 8) (Df Bm 8) (Bu .sym) Bm = true:=by kernel_rfl
theorem zuP:Fs (Eb (Bu .sym) 9) (Df Bm 9) (Bu .sym) Bm = true:=by kernel_rfl
theorem zsw:Fs (Eb (Bu .sym) 10) (Df Bm 10) (Bu .sym) Bm = true:=by kernel_rfl
theorem zrA:Fs (Eb (Bu .sym) 11) (Df Bm 11) (Bu .sym) Bm = true:=by kernel_rfl
theorem zs6:Fs (Eb (Bu .sym) 12) (Df Bm 12) (Bu .sym) Bm = true:=by kernel_rfl
theorem zrl:Fs (Eb (Bu .sym) 13) (Df Bm 13) (Bu .sym) Bm = true:=by kernel_rfl
theorem zrS:Fs (Eb (Bu .sym) 14) (Df Bm 14) (Bu .sym) Bm = true:=by kernel_rfl
theorem zsI:Fs (Eb (Bu .sym) 15) (Df Bm 15) (Bu .sym) Bm = true:=by kernel_rfl
theorem zsF:Fs (Eb (Bu .sym) 16) (Df Bm 16) (Bu .sym) Bm = true:=by kernel_rfl
theorem ztG:Fs (Eb (Bu .sym) 17) (Df Bm 17) (Bu .sym) Bm = true:=by kernel_rfl
theorem ztp:Fs (Eb (Bu .sym) 18) (Df Bm 18) (Bu .sym) Bm = true:=by kernel_rfl
theorem zs0:Fs (Eb (Bu .sym) 19) (Df Bm 19) (Bu .sym) Bm = true:=by kernel_rfl
theorem zso:Fs (Eb (Bu .sym) 20) (Df Bm 20) (Bu .sym) Bm = true:=by kernel_rfl
theorem zsA:Fs (Eb (Bu .sym) 21) (Df Bm 21) (Bu .sym) Bm = true:=by kernel_rfl
theorem zs9:Fs (Eb (Bu .sym) 22) (Df Bm 22) (Bu .sym) Bm = true:=by kernel_rfl
theorem ztZ:Fs (Eb (Bu .sym) 23) (Df Bm 23) (Bu .sym) Bm = true:=by kernel_rfl
theorem zs5:Fs (Eb (Bu .sym) 24) (Df Bm 24) (Bu .sym) Bm = true:=by kernel_rfl
theorem zto:Fs (Eb (Bu .sym) 25) (Df Bm 25) (Bu .sym) Bm = true:=by kernel_rfl
theorem ztR:Fs (Eb (Bu .sym) 26) (Df Bm 26) (Bu .sym) Bm = true:=by kernel_rfl
theorem zrV:Fs (Eb (Bu .sym) 27) (Df Bm 27) (Bu .sym) Bm = true:=by kernel_rfl
theorem zsP:Fs (Eb (Bu .sym) 28) (Df Bm 28) (Bu .sym) Bm = true:=by kernel_rfl
theorem ztM:Fs (Eb (Bu .sym) 29) (Df Bm 29) (Bu .sym) Bm = true:=by kernel_rfl
section
variable {w:World}
set_option tactic.hygienic true in
theorem zgD {d:D} {i:Nat}:∀ {ds:List D} {ws:List Nat},Fs d i ds ws = true→∀ j e u,D0 ds j = some e→D0 ws j = some u→isB (Nat.beq i u) (run FNS 40 43 [.obj 6 6,d,e] sm fun d st=>some (d,st)) = true
  | [],ws,_,j,e,u,h,_=>by cases h
  | a :: r,[],h,j,e,u,_,h2=>by cases h2
  | a :: r,b :: s,h,j,e,u,h1,h2=>by
    have h:ifB (isB (Nat.beq i b) (run FNS 40 43 [.obj 6 6,d,a] sm fun d st=>some (d,st))) (Fs d i r s) false = true:=h
    rw [C2] at h
    split at h
    · rename_i q
      cases j with
      | zero=>cases h1; cases h2; exact q
      | succ j=>exact zgD h j e u h1 h2
    · cases h
theorem zk1 {r:Bool} {x:Ans} (h:isB r x = true):∃ st,x = some (.bool r,st):=by
  cases x with
  | none=>cases h
  | some p=>
    obtain ⟨d,st⟩:=p
    cases d with
    | bool b=>
      have h:Di b r = true:=h
      rw [Ri,beq_iff_eq] at h
      subst h; exact ⟨st,rfl⟩
    | _=>cases h
theorem Tz:∀ i,i < 30→Fs (Eb (Bu .sym) i) (Df Bm i) (Bu .sym) Bm = true:=
  bel (bel (bel (bel (bel (bel (bel (bel (bel (bel (bel (bel (bel (bel (bel (bel (bel (bel (bel (bel (bel (bel (bel (bel (bel (bel (bel (bel (bel (bel Xx zuw) zuQ) zuR) zuJ) zuH) zuK) zuE) zuO) zuN) zuP) zsw) zrA) zs6) zrl) zrS) zsI) zsF) ztG) ztp) zs0) zso) zsA) zs9) ztZ) zs5) zto) ztR) zrV) zsP) ztM
theorem zjX {j:Nat} (h:j < 30):D0 (Bu .sym) j = some (Eb (Bu .sym) j) ∧ D0 Bm j = some (Df Bm j):=by
  have l1:(Bu .sym).length = 30:=rfl
  have l2:Bm.length = 30:=rfl
  constructor
  · unfold Eb
    rw [Hr,List.getElem?_eq_getElem (by lia)]
  · unfold Df
    rw [Hr,List.getElem?_eq_getElem (by lia)]
theorem zgv {ds:List D} {st:St} {dv:D} (g:Xn ds st dv):Hi w 82 st (fnA 43) ds dv st:=by
  obtain ⟨x,i,j,hx,hi,hj,hk,rfl,rfl⟩:=g
  have h:=zgD (Tz i hi) j _ _ (zjX hj).1 (zjX hj).2
  obtain ⟨st2,hr⟩:=zk1 h
  have hcv:∀ i,i < 30→cv (some x) 1018 (fun n=>n) (Eb (Bu .sym) i) (S x i) = true:=fun i hi=>by
    have:=E7 zrz i hi
    rw [Bool.and_eq_true] at this
    rcases hx with rfl | rfl
    · exact this.1
    · exact this.2
  refine frame (x:=some x) (nm:=nmX x) (ρ:=fun n=>n) (small:=sm) (fun l e=>by injection e with e; subst e; exact zoR hx) (fun n o' e=>⟨o',hk.2 n o' e,(zgC (some x) n o' e).2⟩) (fun n m _ _ e=>e) (fun n o e=>(zgC none n o e).1) rfl (show (1018:Nat) ≤ 1000000 by lia) ?_ (show (_ == _) = true from beq_self_eq_true _) (znC w hr)
  have:((Nat.beq 6 6 && (Nat.blt 6 1018 && Nat.beq 6 6)) && (cv (some x) 1018 (fun n=>n) (Eb (Bu .sym) i) (S x i) && (cv (some x) 1018 (fun n=>n) (Eb (Bu .sym) j) (S x j) && true))) = true:=by
    rw [hcv i hi,hcv j hj]; rfl
  exact this
set_option tactic.hygienic true in
theorem zhQ (w:World):∀ f ds st dv,orc f ds st = some dv→Hi w 82 st (fnA f) ds dv st:=fun f ds st dv h=>by
  unfold orc at h
  rw [C2,C2] at h
  split at h
  · rename_i q
    rw [Nat.eq_of_beq_eq_true q]
    exact zgv (zk3 h)
  · split at h
    · rename_i q
      rw [Nat.eq_of_beq_eq_true q]
      exact zhI (zjN h)
    · cases h
end
noncomputable def zgP (o:Obj):Bool:=match o.cls with
  | .type n=>!(n == "list")
  | _=>true
theorem zjF (P:Params):Wv (fun a=>zgP (((Rp P).get a).getD default)) Zt = true:=by kernel_rfl
theorem zgk {o o':Obj} (h:alive o = some o'):o' = o:=by
  unfold alive at h
  split at h
  · cases h
  · exact (Option.some.inj h).symm
theorem zfg {P:Params} {a:Addr} {o:Obj} (h:(HT P).get? a = some o):zgP o = true:=by
  by_cases l:a < Zt
  · have n:=E7 (zjF P) a l
    cases q:(Rp P).get a with
    | some o'=>
      rw [q] at n
      have g:(HT P).get? a = alive o':=abs_get l q
      rw [g] at h
      rw [zgk h]; exact n
    | none=>
      rw [q] at n
      unfold HT Heap.get? at h
      rw [absHeap_at,if_pos l,q] at h
      have:o = default:=by
        have h:(match (some (default:Obj)) with | some ⟨_,_,.freed,_⟩=>none | o=>o) = some o:=h
        split at h
        · cases h
        · exact (Option.some.inj h).symm
      rw [this]; exact n
  · rw [show (HT P).get? a = none from abs_get_none l] at h; cases h
theorem zqn (P:Params):(HT P).nsMap mainGlobals "law" = some (.ref (fnA 71)):=by kernel_rfl
theorem zdW {R:WRecords} {cl:Str→Option Addr} {h:Heap} {σ:Sg} {N:Nat}:∀ {vs:List Value} {ds:List WData} {as:List Addr},ReadsAllW R cl h vs ds as→WShape.hasItems R ds .int = true→∃ xs:List Int,xs.length = ds.length ∧ RL σ N h vs (xs.map D.int)
  | _,_,_,.nil,_=>⟨[],rfl,.nil⟩
  | _,_,_,.cons a b,e=>by
    rw [WShape.hasItems,Bool.and_eq_true] at e
    obtain ⟨i,rfl⟩:=hasW_int e.1
    obtain ⟨xs,hl,r⟩:=zdW (σ:=σ) (N:=N) b e.2
    cases a with
    | int i t=>exact ⟨i :: xs,by rw [List.length_cons,List.length_cons,hl],.cons (.int i t) r⟩
theorem walk:WalkO qv Hx (fun _ _=>True) YP PySem.Challenge.rw_pq0725_02.row.toRowW dl [] fun f vs=>PySem.call f vs:=by
  intro w s₀ s₁ mg mb G Y fa o pm cd doc dV kV ho hd hcd hD hmg hg args vals as hpre hlay hrd hwl hlo
  have top:∀ b o,(HT w.params).get? b = some o→s₁.heap.get? b = some o:=Y
  have hfa:fa = fnA 71:=by
    have n1:s₁.heap.Ns mainGlobals ((HT w.params).nsMap mainGlobals):=ziU (Heap.Ns.of_isNs (zhr w.params)) top
    have e:mg = (HT w.params).nsMap mainGlobals:=G.T.g.eq_nsMap.trans n1.eq_nsMap.symm
    have hmg':mg "law" = some (.ref fa):=hmg
    rw [e,zqn] at hmg'
    injection hmg' with h
    injection h with h
    exact h.symm
  subst hfa
  obtain ⟨p1,p2⟩:=pre_splitW hpre
  have p1':WShape.hasAll [] args [.list .int] = true:=p1
  obtain ⟨d0,r0,rfl,q1,q2⟩:=hasAllW_cons p1'
  obtain rfl:=hasAllW_nil q2
  obtain ⟨ds,rfl,q3⟩:=hasW_list q1
  have len:ds.length ≤ 63:=by
    have p2':WTm.holds [] (.and (.not (.lt (.lit (.int 63)) (.len (.arg 0)))) (.lit (.bool true))) { args:=[.list ds] } = true:=p2
    by_cases q:ds.length ≤ 63
    · exact q
    · exfalso
      have l:decide ((63:Int) < (ds.length:Int)) = true:=decide_eq_true (by lia)
      have v:WTm.value [] (.and (.not (.lt (.lit (.int 63)) (.len (.arg 0)))) (.lit (.bool true))) { args:=[.list ds] } = (match some (WData.bool (!decide ((63:Int) < (ds.length:Int)))) with
        | some (.bool false)=>some (.bool false)
        | some (.bool true)=>some (.bool true)
        | _=>none):=rfl
      unfold WTm.holds at p2'
      rw [v,l] at p2'
      cases p2'
  obtain ⟨v0,rfl⟩:∃ v0,vals = [v0]:=by
    cases hwl with
    | cons a b=>cases b; exact ⟨_,rfl⟩
  have hw0:Well w.params s₁.heap v0 (.list ds):=by cases hwl with | cons a b=>exact a
  obtain ⟨l,vs,rfl,hl⟩:∃ (l:Addr) (vs:List Value),v0 = .ref l ∧ s₁.heap.get? l = some { cls:=.type "list",data:=.seq vs.toArray }:=by
    cases hw0 with
    | list a b=>exact ⟨_,_,rfl,a⟩
  obtain ⟨as',hra⟩:∃ as',ReadsAllW [] (classAt s₀.heap) s₁.heap vs ds as':=by
    have hrd':ReadsAllW [] (classAt s₀.heap) s₁.heap [.ref l] [.list ds] as:=hrd
    cases hrd' with
    | cons a b=>
      cases a with
      | list g c d e=>
        rw [hl] at g; cases g
        injection d with d1 d2
        subst d1
        exact ⟨_,e⟩
  obtain ⟨xs,hxl,hR⟩:=zdW (σ:=⟨fun _=>l,""⟩) (N:=1) hra q3
  obtain ⟨st9,hrun⟩:=zl0 xs (by lia)
  obtain ⟨dv,st',e,c⟩:=zdY (zhQ w) 60 71 [.ref 0] (sA0 (xs.map D.int)) _ _ hrun
  injection e with e
  injection e with e1 e2
  subst e1 e2
  have get0:∀ n ob,(sA0 (xs.map D.int)).get n = some ob→n = 0 ∧ ob = .list (xs.map D.int):=fun n ob e=>by
    cases n with
    | zero=>exact ⟨rfl,(Option.some.inj e).symm⟩
    | succ n=>
      have h:=T.get_succ (sA0 (xs.map D.int)).H n
      have e:T.get (sA0 (xs.map D.int)).H (n + 1) = some ob:=e
      rw [h] at e
      split at e
      · exact absurd (show T.get T.nil (n / 2) = some ob from e) (by cases n / 2 <;> exact fun e=>nomatch e)
      · exact absurd (show T.get T.nil (n / 2) = some ob from e) (by cases n / 2 <;> exact fun e=>nomatch e)
  have ok:Ok w ⟨fun _=>l,""⟩ s₁.heap (sA0 (xs.map D.int)):={
    top:=top
    obj:=fun n ob e=>by
      obtain ⟨rfl,rfl⟩:=get0 n ob e
      exact ⟨vs.toArray,⟨_,hl⟩,by show RL _ 1 s₁.heap vs.toArray.toList _; simpa using hR⟩
    lt:=fun n ob e=>by rw [(get0 n ob e).1]; exact Nat.one_pos
    inj:=fun n m o1 o2 e1 e2 _=>by rw [(get0 n o1 e1).1,(get0 m o2 e2).1]
    new:=fun n ob e=>by
      cases q:(HT w.params).get? l with
      | none=>rfl
      | some o'=>
        have h1:=zfg q
        have h2:=top l o' q
        rw [hl] at h2
        injection h2 with h2
        subst h2
        exact absurd (show (false:Bool) = true from h1) Bool.false_ne_true
    bN:=Nat.le_refl _
    sz:=by show 1 ≤ 1000000; lia }
  have rm:Rm callerA (2 * (40 + 60) + 2):=⟨rfl,by decide,by decide⟩
  refine wpAny_call (c [.ref l] callerA ⟨fun _=>l,""⟩ s₁ _ rm ok (.cons (.ref 0 Nat.one_pos) .nil) fun v σ' h' tk' o' rv g=>?_)
  have keep:∀ b o,s₁.heap.get? b = some o→h'.get? b = some o:=fun b ob e=>g.keptB b ob e (fun f=>f) fun n o'' hb e'=>by
    have:=(get0 n o'' e').1
    subst this
    exact absurd hb (by show ¬ 1 ≤ 0; lia)
  have hv:v = .bool true:=by cases rv; rfl
  subst hv
  refine ⟨.inl ⟨.bool true,.bool true,[],rfl,fun cls=>rfl,.bool true,?_,fun _=>⟨List.nodup_nil,fun a h=>absurd h List.not_mem_nil⟩⟩,.of_keep keep,rfl,.of_eq hg⟩
  kernel_rfl
theorem zrg:PySem.Challenge.rw_pq0725_02.Holds:=zuU walk
end Mine
theorem PySem.Challenge.cw_pq0725_02_holds : PySem.Challenge.rw_pq0725_02.Holds :=
  Mine.zrg
