import PyProof.Rows.All
import Wide.All
import OpenK.AllK
import Wide.FinOn
import Lean
import PySem.Challenge.RW_qd0115_01
open PySem PySem.W PyProof.Rows PySem.Calls
set_option Elab.async false
set_option maxRecDepth 100000
set_option maxHeartbeats 8000000
set_option genSizeOf false
set_option genInjectivity false
set_option linter.all false
namespace Mine
noncomputable abbrev pE : Program:=PySem.Challenge.pw_qd0115_01
noncomputable def allS : List Stmt:=behindTheImports pE
noncomputable def nthS (l : List Stmt) (i : Nat) : Stmt:=l.getD i (.Pass ⟨0,0,0,0⟩)
noncomputable def kidsOf : Stmt → List Stmt
  | .ClassDef _ _ _ b _ _ _ _ _ _ _=>b
  | _=>[]
noncomputable def argsOf : Stmt → Arguments
  | .FunctionDef _ a _ _ _ _ _ _ _ _=>a
  | _=>⟨[],[],none,[],[],none,[]⟩
noncomputable def bodyOf : Stmt → List Stmt
  | .FunctionDef _ _ b _ _ _ _ _ _ _=>b
  | _=>[]
noncomputable def scopeOf : Stmt → Scope
  | .FunctionDef _ _ _ _ _ _ s _ _ _=>s
  | _=>⟨.function,[],false,false,[]⟩
noncomputable def S (i : Nat) : Stmt:=nthS pE.main.body i
noncomputable def M (i j : Nat) : Stmt:=nthS (kidsOf (S i)) j
noncomputable def dE (P : Params) (k : Str) (t : Nat) (v : Value) : DictEntry:=⟨PyData.keyHash P k,.str k t,v⟩
noncomputable def fD (s : Stmt) (name qual : Str) (gl : Addr) (cl : List (Str × Addr)) (dV kV doc pm : Value) (an : Option Addr) (cd ct : Value) (bi : Addr) : FuncData :=
  ⟨name,qual,argsOf s,.stmts (bodyOf s),scopeOf s,gl,cl,dV,kV,doc,pm,an,cd,ct,bi⟩
noncomputable abbrev n:=BT.node
noncomputable abbrev z:=BT.nil
noncomputable abbrev y (o : Obj):=BT.node o .nil .nil
noncomputable abbrev stT (t : BT) (n k : Nat) (os : OsState) : SharedT:={ tree:=t,n:=n,life:={},gens:=#[],drawn:={},toks:=k,os:=os }
noncomputable abbrev posE : Pos:=⟨0,0,0,0⟩
noncomputable def envE : Env:={ scope:=pE.main.scope,locals:=mainNs,globals:=mainNs,cells:=[],code:=.ref 13,frame:=some 14 }
noncomputable abbrev codeE : Code:=.body (behindTheImports pE) envE
noncomputable def o159 (P : Params) : Obj:=⟨.type "dict",none,.dict #[dE P "__name__" 1 (.str "builtins" 160),dE P "__doc__" 2 (.builtin "builtins.__doc__:str#opaque"),dE P "__package__" 3 (.builtin "builtins.__package__:str#opaque"),dE P "__loader__" 4 (.builtin "builtins.__loader__:shared#opaque"),dE P "__spec__" 5 (.builtin "builtins.__spec__#opaque"),dE P "__build_class__" 6 (.builtin "__build_class__"),dE P "__import__" 7 (.builtin "__import__"),dE P "abs" 8 (.builtin "abs"),dE P "all" 9 (.builtin "all"),dE P "any" 10 (.builtin "any"),dE P "ascii" 11 (.builtin "ascii"),dE P "bin" 12 (.builtin "bin"),dE P "breakpoint" 13 (.builtin "breakpoint"),dE P "callable" 14 (.builtin "callable"),dE P "chr" 15 (.builtin "chr"),dE P "compile" 16 (.builtin "compile"),dE P "delattr" 17 (.builtin "delattr"),dE P "dir" 18 (.builtin "dir"),dE P "divmod" 19 (.builtin "divmod"),dE P "eval" 20 (.builtin "eval"),dE P "exec" 21 (.builtin "exec"),dE P "format" 22 (.builtin "format"),dE P "getattr" 23 (.builtin "getattr"),dE P "globals" 24 (.builtin "globals"),dE P "hasattr" 25 (.builtin "hasattr"),dE P "hash" 26 (.builtin "hash"),dE P "hex" 27 (.builtin "hex"),dE P "id" 28 (.builtin "id"),dE P "input" 29 (.builtin "input"),dE P "isinstance" 30 (.builtin "isinstance"),dE P "issubclass" 31 (.builtin "issubclass"),dE P "iter" 32 (.builtin "iter"),dE P "aiter" 33 (.builtin "aiter"),dE P "len" 34 (.builtin "len"),dE P "locals" 35 (.builtin "locals"),dE P "max" 36 (.builtin "max"),dE P "min" 37 (.builtin "min"),dE P "next" 38 (.builtin "next"),dE P "anext" 39 (.builtin "anext"),dE P "oct" 40 (.builtin "oct"),dE P "ord" 41 (.builtin "ord"),dE P "pow" 42 (.builtin "pow"),dE P "print" 43 (.builtin "print"),dE P "repr" 44 (.builtin "repr"),dE P "round" 45 (.builtin "round"),dE P "setattr" 46 (.builtin "setattr"),dE P "sorted" 47 (.builtin "sorted"),dE P "sum" 48 (.builtin "sum"),dE P "vars" 49 (.builtin "vars"),dE P "None" 50 .none,dE P "Ellipsis" 51 (.ellipsis),dE P "NotImplemented" 52 (.notImplemented),dE P "False" 53 (.bool false),dE P "True" 54 (.bool true),dE P "bool" 55 (.type "bool"),dE P "memoryview" 56 (.type "memoryview"),dE P "bytearray" 57 (.type "bytearray"),dE P "bytes" 58 (.type "bytes"),dE P "classmethod" 59 (.type "classmethod"),dE P "complex" 60 (.type "complex"),dE P "dict" 61 (.type "dict"),dE P "enumerate" 62 (.type "enumerate"),dE P "filter" 63 (.type "filter"),dE P "float" 64 (.type "float"),dE P "frozenset" 65 (.type "frozenset"),dE P "property" 66 (.type "property"),dE P "int" 67 (.type "int"),dE P "list" 68 (.type "list"),dE P "map" 69 (.type "map"),dE P "object" 70 (.type "object"),dE P "range" 71 (.type "range"),dE P "reversed" 72 (.type "reversed"),dE P "set" 73 (.type "set"),dE P "slice" 74 (.type "slice"),dE P "staticmethod" 75 (.type "staticmethod"),dE P "str" 76 (.type "str"),dE P "super" 77 (.type "super"),dE P "tuple" 78 (.type "tuple"),dE P "type" 79 (.type "type"),dE P "zip" 80 (.type "zip"),dE P "__debug__" 81 (.bool true),dE P "BaseException" 82 (.type "BaseException"),dE P "BaseExceptionGroup" 83 (.type "BaseExceptionGroup"),dE P "Exception" 84 (.type "Exception"),dE P "GeneratorExit" 85 (.type "GeneratorExit"),dE P "KeyboardInterrupt" 86 (.type "KeyboardInterrupt"),dE P "SystemExit" 87 (.type "SystemExit"),dE P "ArithmeticError" 88 (.type "ArithmeticError"),dE P "AssertionError" 89 (.type "AssertionError"),dE P "AttributeError" 90 (.type "AttributeError"),dE P "BufferError" 91 (.type "BufferError"),dE P "EOFError" 92 (.type "EOFError"),dE P "ImportError" 93 (.type "ImportError"),dE P "LookupError" 94 (.type "LookupError"),dE P "MemoryError" 95 (.type "MemoryError"),dE P "NameError" 96 (.type "NameError"),dE P "OSError" 97 (.type "OSError"),dE P "ReferenceError" 98 (.type "ReferenceError"),dE P "RuntimeError" 99 (.type "RuntimeError"),dE P "StopAsyncIteration" 100 (.type "StopAsyncIteration"),dE P "StopIteration" 101 (.type "StopIteration"),dE P "SyntaxError" 102 (.type "SyntaxError"),dE P "SystemError" 103 (.type "SystemError"),dE P "TypeError" 104 (.type "TypeError"),dE P "ValueError" 105 (.type "ValueError"),dE P "Warning" 106 (.type "Warning"),dE P "FloatingPointError" 107 (.type "FloatingPointError"),dE P "OverflowError" 108 (.type "OverflowError"),dE P "ZeroDivisionError" 109 (.type "ZeroDivisionError"),dE P "BytesWarning" 110 (.type "BytesWarning"),dE P "DeprecationWarning" 111 (.type "DeprecationWarning"),dE P "EncodingWarning" 112 (.type "EncodingWarning"),dE P "FutureWarning" 113 (.type "FutureWarning"),dE P "ImportWarning" 114 (.type "ImportWarning"),dE P "PendingDeprecationWarning" 115 (.type "PendingDeprecationWarning"),dE P "ResourceWarning" 116 (.type "ResourceWarning"),dE P "RuntimeWarning" 117 (.type "RuntimeWarning"),dE P "SyntaxWarning" 118 (.type "SyntaxWarning"),dE P "UnicodeWarning" 119 (.type "UnicodeWarning"),dE P "UserWarning" 120 (.type "UserWarning"),dE P "BlockingIOError" 121 (.type "BlockingIOError"),dE P "ChildProcessError" 122 (.type "ChildProcessError"),dE P "ConnectionError" 123 (.type "ConnectionError"),dE P "FileExistsError" 124 (.type "FileExistsError"),dE P "FileNotFoundError" 125 (.type "FileNotFoundError"),dE P "InterruptedError" 126 (.type "InterruptedError"),dE P "IsADirectoryError" 127 (.type "IsADirectoryError"),dE P "NotADirectoryError" 128 (.type "NotADirectoryError"),dE P "PermissionError" 129 (.type "PermissionError"),dE P "ProcessLookupError" 130 (.type "ProcessLookupError"),dE P "TimeoutError" 131 (.type "TimeoutError"),dE P "IndentationError" 132 (.type "IndentationError"),dE P "_IncompleteInputError" 133 (.type "_IncompleteInputError"),dE P "IndexError" 134 (.type "IndexError"),dE P "KeyError" 135 (.type "KeyError"),dE P "ModuleNotFoundError" 136 (.type "ModuleNotFoundError"),dE P "NotImplementedError" 137 (.type "NotImplementedError"),dE P "PythonFinalizationError" 138 (.type "PythonFinalizationError"),dE P "RecursionError" 139 (.type "RecursionError"),dE P "UnboundLocalError" 140 (.type "UnboundLocalError"),dE P "UnicodeError" 141 (.type "UnicodeError"),dE P "BrokenPipeError" 142 (.type "BrokenPipeError"),dE P "ConnectionAbortedError" 143 (.type "ConnectionAbortedError"),dE P "ConnectionRefusedError" 144 (.type "ConnectionRefusedError"),dE P "ConnectionResetError" 145 (.type "ConnectionResetError"),dE P "TabError" 146 (.type "TabError"),dE P "UnicodeDecodeError" 147 (.type "UnicodeDecodeError"),dE P "UnicodeEncodeError" 148 (.type "UnicodeEncodeError"),dE P "UnicodeTranslateError" 149 (.type "UnicodeTranslateError"),dE P "ExceptionGroup" 150 (.type "ExceptionGroup"),dE P "EnvironmentError" 151 (.type "OSError"),dE P "IOError" 152 (.type "OSError"),dE P "open" 153 (.builtin "open"),dE P "quit" 154 (.builtin "builtins.quit#opaque"),dE P "exit" 155 (.builtin "builtins.exit#opaque"),dE P "copyright" 156 (.builtin "builtins.copyright#opaque"),dE P "credits" 157 (.builtin "builtins.credits#opaque"),dE P "license" 158 (.builtin "builtins.license#opaque"),dE P "help" 159 (.builtin "builtins.help#opaque")] 159,#[]⟩
noncomputable def o162 (P : Params) : Obj:=⟨.type "dict",none,.dict #[dE P "builtins" 162 (.ref 4),dE P "__main__" 163 (.ref 5)] 2,#[]⟩
noncomputable def o173 (P : Params) : Obj:=⟨.type "dict",none,.dict #[dE P "__name__" 165 (.str "__main__" 164),(dE P "__doc__" 166 .none),(dE P "__package__" 167 .none),(dE P "__loader__" 168 (.builtin "__main__.__loader__#opaque")),(dE P "__spec__" 169 .none),(dE P "__annotations__" 170 (.ref 6)),(dE P "__builtins__" 171 (.ref 4)),(dE P "__file__" 173 (.str "/claim/cut.py" 172)),(dE P "__cached__" 174 .none)] 9,#[]⟩
noncomputable def o177 : Obj:=⟨.type "tuple",none,.seq #[] 0,#[]⟩
noncomputable def o178 : Obj:=⟨.none,none,.fields #[],#[]⟩
noncomputable def o179 : Obj:=⟨.type "code",none,.fields #[.str "<module>" 176,.str "<module>" 177,.str "/claim/cut.py" 178,.int 1 0,.int 0 0,.int 0 0,.int 0 0,.int 0 0,.ref 7,.bool false,.int 175 0,.ref 8,.none,.none,.none,.none,.int 179 0,.int 1 0,.str "/claim/cut.py" 180],#[]⟩
noncomputable def o180 : Obj:=⟨.type "frame",none,.plain,#[(some (.ref 9)),(some (.ref 3)),(some (.ref 3)),none,(some (.str "__main__" 164)),none,(some (.ref 0))]⟩
noncomputable def o181 : Obj:=⟨.type "code",none,.fields #[.str "<module>" 182,.str "<module>" 183,.str "/claim/cut.py" 184,.int 1 0,.int 0 0,.int 0 0,.int 0 0,.int 0 0,.ref 11,.bool false,.int 181 0,.ref 12,.none,.none,.none,.none,.int 185 0,.int 1 0,.str "/claim/cut.py" 186],#[]⟩
noncomputable def o182 : Obj:=⟨.type "frame",none,.plain,#[(some (.ref 13)),(some (.ref 3)),(some (.ref 3)),none,(some (.str "__main__" 164)),none,(some (.ref 0))]⟩
noncomputable def o185 (P : Params) : Obj:=⟨.none,none,.dict #[dE P "type.__subclasses__.Exception.0" 230 (.int 46 0),dE P "type.__subclasses__.Exception.n" 231 (.int 1 0)] 2,#[]⟩
noncomputable def o194 : Obj:=⟨.type "code",none,.fields #[.str "_wall" 187,.str "_wall" 188,.str "/claim/cut.py" 189,.int 1 0,.int 1 0,.int 0 0,.int 0 0,.int 3 0,.ref 15,.bool true,.int 181 0,.ref 16,.none,.ref 17,.ref 18,.ref 19,.int 191 0,.int 1 0,.str "/claim/cut.py" 192],#[]⟩
noncomputable def o197 : Obj:=⟨.type "builtin_function_or_method",none,.fields #[.builtin "type.__prepare__",.type "type"],#[]⟩
noncomputable def o204 (P : Params) : Obj:=⟨.type "dict",none,.dict #[dE P "__module__" 203 (.str "octetmint.basics" 194),dE P "__qualname__" 205 (.str "MintError" 204),dE P "__firstlineno__" 207 (.int 5 206),dE P "__init__" 216 (.ref 36),dE P "told" 223 (.ref 43),dE P "__static_attributes__" 226 (.ref 44)] 6,#[]⟩
noncomputable def o206 : Obj:=⟨.type "code",none,.fields #[.str "MintError" 198,.str "MintError" 199,.str "/claim/cut.py" 200,.int 5 0,.int 0 0,.int 0 0,.int 0 0,.int 0 0,.ref 25,.bool false,.int 181 0,.ref 26,.none,.none,.none,.none,.int 201 0,.int 5 0,.str "/claim/cut.py" 202],#[]⟩
noncomputable def o211 : Obj:=⟨.type "code",none,.fields #[.str "__init__" 208,.str "MintError.__init__" 209,.str "/claim/cut.py" 210,.int 7 0,.int 3 0,.int 0 0,.int 0 0,.int 3 0,.ref 30,.bool true,.int 181 0,.ref 31,.none,.ref 32,.ref 33,.ref 34,.int 214 0,.int 7 0,.str "/claim/cut.py" 215],#[]⟩
noncomputable def o212 : Obj:=⟨.type "function",none,.func (fD (M 2 0) "__init__" "MintError.__init__" 3 [] (.ref 29) .none .none (.str "octetmint.basics" 194) none (.ref 35) .none 0),#[]⟩
noncomputable def o215 : Obj:=⟨.type "code",none,.fields #[.str "told" 217,.str "MintError.told" 218,.str "/claim/cut.py" 219,.int 12 0,.int 1 0,.int 0 0,.int 0 0,.int 3 0,.ref 37,.bool true,.int 181 0,.ref 38,.none,.ref 39,.ref 40,.ref 41,.int 221 0,.int 12 0,.str "/claim/cut.py" 222],#[]⟩
noncomputable def o220 (P : Params) : Obj:=⟨.type "dict",none,.dict #[dE P "__module__" 203 (.str "octetmint.basics" 194),dE P "__firstlineno__" 207 (.int 5 206),dE P "__init__" 216 (.ref 36),dE P "told" 223 (.ref 43),dE P "__static_attributes__" 226 (.ref 44),dE P "__weakref__" 228 (.ref 47),dE P "__doc__" 229 .none] 3,#[]⟩
noncomputable def o222 : Obj:=⟨.type "getset_descriptor",none,.fields #[.str "__weakref__" 227,.ref 46,.builtin "ExceptionGroup.__weakref__",.none],#[]⟩
noncomputable def o225 : Obj:=⟨.type "tuple",none,.seq #[.ref 46] 0,#[]⟩
noncomputable def o230 (P : Params) : Obj:=⟨.type "dict",none,.dict #[dE P "__module__" 241 (.str "octetmint.basics" 194),dE P "__qualname__" 243 (.str "OperandError" 242),dE P "__firstlineno__" 245 (.int 16 244),dE P "__static_attributes__" 246 (.ref 57)] 4,#[]⟩
noncomputable def o231 : Obj:=⟨.type "code",none,.fields #[.str "OperandError" 236,.str "OperandError" 237,.str "/claim/cut.py" 238,.int 16 0,.int 0 0,.int 0 0,.int 0 0,.int 0 0,.ref 53,.bool false,.int 181 0,.ref 54,.none,.none,.none,.none,.int 239 0,.int 16 0,.str "/claim/cut.py" 240],#[]⟩
noncomputable def o234 (P : Params) : Obj:=⟨.type "dict",none,.dict #[dE P "__module__" 241 (.str "octetmint.basics" 194),dE P "__firstlineno__" 245 (.int 16 244),dE P "__static_attributes__" 246 (.ref 57),dE P "__doc__" 247 .none] 2,#[]⟩
noncomputable def o235 : Obj:=⟨.type "type",none,.cls ⟨"OperandError",[.ref 46],[.ref 59,.ref 46,.type "Exception",.type "BaseException",.type "object"],58,"OperandError",true,[],[],false,none,false⟩,#[(some (.ref 50)),none,(some (.str "OperandError" 234)),(some (.str "OperandError" 242)),(some (.builtin "Exception.__new__")),(some (.bool true))]⟩
noncomputable def o257 : Obj:=⟨.type "type",none,.cls ⟨"MintError",[.type "Exception"],[.ref 46,.type "Exception",.type "BaseException",.type "object"],45,"MintError",true,[],[.ref 59,.ref 71],false,none,false⟩,#[(some (.ref 22)),none,(some (.str "MintError" 196)),(some (.str "MintError" 204)),(some (.builtin "Exception.__new__")),(some (.bool true))]⟩
noncomputable def o262 (P : Params) : Obj:=⟨.type "dict",none,.dict #[dE P "__module__" 257 (.str "octetmint.basics" 194),dE P "__qualname__" 259 (.str "MachineError" 258),dE P "__firstlineno__" 261 (.int 18 260),dE P "__static_attributes__" 262 (.ref 69)] 4,#[]⟩
noncomputable def o263 : Obj:=⟨.type "code",none,.fields #[.str "MachineError" 252,.str "MachineError" 253,.str "/claim/cut.py" 254,.int 18 0,.int 0 0,.int 0 0,.int 0 0,.int 0 0,.ref 65,.bool false,.int 181 0,.ref 66,.none,.none,.none,.none,.int 255 0,.int 18 0,.str "/claim/cut.py" 256],#[]⟩
noncomputable def o266 (P : Params) : Obj:=⟨.type "dict",none,.dict #[dE P "__module__" 257 (.str "octetmint.basics" 194),dE P "__firstlineno__" 261 (.int 18 260),dE P "__static_attributes__" 262 (.ref 69),dE P "__doc__" 263 .none] 2,#[]⟩
noncomputable def o267 : Obj:=⟨.type "type",none,.cls ⟨"MachineError",[.ref 46],[.ref 71,.ref 46,.type "Exception",.type "BaseException",.type "object"],70,"MachineError",true,[],[],false,none,false⟩,#[(some (.ref 62)),none,(some (.str "MachineError" 250)),(some (.str "MachineError" 258)),(some (.builtin "Exception.__new__")),(some (.bool true))]⟩
noncomputable def o272 : Obj:=⟨.type "code",none,.fields #[.str "mask" 266,.str "mask" 267,.str "/claim/cut.py" 268,.int 20 0,.int 1 0,.int 0 0,.int 0 0,.int 3 0,.ref 74,.bool true,.int 181 0,.ref 75,.none,.ref 76,.ref 77,.ref 78,.int 270 0,.int 20 0,.str "/claim/cut.py" 271],#[]⟩
noncomputable def o276 : Obj:=⟨.type "code",none,.fields #[.str "wrap" 273,.str "wrap" 274,.str "/claim/cut.py" 275,.int 22 0,.int 2 0,.int 0 0,.int 0 0,.int 3 0,.ref 81,.bool true,.int 181 0,.ref 82,.none,.ref 83,.ref 84,.ref 85,.int 278 0,.int 22 0,.str "/claim/cut.py" 279],#[]⟩
noncomputable def o280 : Obj:=⟨.type "code",none,.fields #[.str "bit" 281,.str "bit" 282,.str "/claim/cut.py" 283,.int 24 0,.int 2 0,.int 0 0,.int 0 0,.int 3 0,.ref 88,.bool true,.int 181 0,.ref 89,.none,.ref 90,.ref 91,.ref 92,.int 286 0,.int 24 0,.str "/claim/cut.py" 287],#[]⟩
noncomputable def o282 : Obj:=⟨.type "tuple",none,.seq #[.str "worth" 292,.str "size" 293,.str "rest" 294,.str "count" 295] 0,#[]⟩
noncomputable def o284 : Obj:=⟨.type "code",none,.fields #[.str "ones" 289,.str "ones" 290,.str "/claim/cut.py" 291,.int 26 0,.int 2 0,.int 0 0,.int 0 0,.int 3 0,.ref 95,.bool true,.int 181 0,.ref 96,.none,.ref 97,.ref 98,.ref 99,.int 296 0,.int 26 0,.str "/claim/cut.py" 297],#[]⟩
noncomputable def o288 : Obj:=⟨.type "code",none,.fields #[.str "parity" 299,.str "parity" 300,.str "/claim/cut.py" 301,.int 33 0,.int 1 0,.int 0 0,.int 0 0,.int 3 0,.ref 102,.bool true,.int 181 0,.ref 103,.none,.ref 104,.ref 105,.ref 106,.int 303 0,.int 33 0,.str "/claim/cut.py" 304],#[]⟩
noncomputable def o291 : Obj:=⟨.type "code",none,.fields #[.str "condition_names" 310,.str "condition_names" 311,.str "/claim/cut.py" 312,.int 37 0,.int 0 0,.int 0 0,.int 0 0,.int 3 0,.ref 109,.bool true,.int 181 0,.ref 110,.none,.ref 111,.ref 112,.ref 113,.int 313 0,.int 37 0,.str "/claim/cut.py" 314],#[]⟩
noncomputable def o292 : Obj:=⟨.type "function",none,.func (fD (S 12) "condition_names" "condition_names" 3 [] .none .none .none (.str "octetmint.forms" 306) none (.ref 114) .none 0),#[]⟩
noncomputable def o319 (P : Params) : Obj:=⟨.type "dict",none,.dict #[dE P "__module__" 341 (.str "octetmint.flags" 316),dE P "__qualname__" 343 (.str "Flags" 342),dE P "__firstlineno__" 345 (.int 48 344),dE P "__init__" 352 (.ref 129),dE P "told" 359 (.ref 136),dE P "pack" 367 (.ref 143),dE P "unpack" 375 (.ref 150),dE P "unpack_low" 383 (.ref 157),dE P "copy" 391 (.ref 164),dE P "get" 400 (.ref 171),dE P "put" 412 (.ref 178),dE P "show" 419 (.ref 185),dE P "__static_attributes__" 427 (.ref 186)] 13,#[]⟩
noncomputable def o320 : Obj:=⟨.none,none,.fields #[.int 50 0,.int 4 0,.ref 128,.int 59 0,.int 4 0,.ref 135,.int 62 0,.int 4 0,.ref 142,.int 66 0,.int 4 0,.ref 149,.int 75 0,.int 4 0,.ref 156,.int 78 0,.int 4 0,.ref 163,.int 83 0,.int 4 0,.ref 170,.int 89 0,.int 4 0,.ref 177,.int 97 0,.int 4 0,.ref 184],#[]⟩
noncomputable def o321 : Obj:=⟨.type "code",none,.fields #[.str "Flags" 336,.str "Flags" 337,.str "/claim/cut.py" 338,.int 48 0,.int 0 0,.int 0 0,.int 0 0,.int 0 0,.ref 119,.bool false,.int 181 0,.ref 120,.none,.none,.none,.none,.int 339 0,.int 48 0,.str "/claim/cut.py" 340],#[]⟩
noncomputable def o325 : Obj:=⟨.type "code",none,.fields #[.str "__init__" 346,.str "Flags.__init__" 347,.str "/claim/cut.py" 348,.int 50 0,.int 1 0,.int 0 0,.int 0 0,.int 3 0,.ref 123,.bool true,.int 181 0,.ref 124,.none,.ref 125,.ref 126,.ref 127,.int 350 0,.int 50 0,.str "/claim/cut.py" 351],#[]⟩
noncomputable def o326 : Obj:=⟨.type "function",none,.func (fD (M 22 0) "__init__" "Flags.__init__" 3 [] .none .none .none (.str "octetmint.flags" 316) none (.ref 128) .none 0),#[]⟩
noncomputable def o329 : Obj:=⟨.type "code",none,.fields #[.str "told" 353,.str "Flags.told" 354,.str "/claim/cut.py" 355,.int 59 0,.int 1 0,.int 0 0,.int 0 0,.int 3 0,.ref 130,.bool true,.int 181 0,.ref 131,.none,.ref 132,.ref 133,.ref 134,.int 357 0,.int 59 0,.str "/claim/cut.py" 358],#[]⟩
noncomputable def o333 : Obj:=⟨.type "code",none,.fields #[.str "pack" 360,.str "Flags.pack" 361,.str "/claim/cut.py" 362,.int 62 0,.int 1 0,.int 0 0,.int 0 0,.int 3 0,.ref 137,.bool true,.int 181 0,.ref 138,.none,.ref 139,.ref 140,.ref 141,.int 365 0,.int 62 0,.str "/claim/cut.py" 366],#[]⟩
noncomputable def o337 : Obj:=⟨.type "code",none,.fields #[.str "unpack" 368,.str "Flags.unpack" 369,.str "/claim/cut.py" 370,.int 66 0,.int 2 0,.int 0 0,.int 0 0,.int 3 0,.ref 144,.bool true,.int 181 0,.ref 145,.none,.ref 146,.ref 147,.ref 148,.int 373 0,.int 66 0,.str "/claim/cut.py" 374],#[]⟩
noncomputable def o341 : Obj:=⟨.type "code",none,.fields #[.str "unpack_low" 376,.str "Flags.unpack_low" 377,.str "/claim/cut.py" 378,.int 75 0,.int 2 0,.int 0 0,.int 0 0,.int 3 0,.ref 151,.bool true,.int 181 0,.ref 152,.none,.ref 153,.ref 154,.ref 155,.int 381 0,.int 75 0,.str "/claim/cut.py" 382],#[]⟩
noncomputable def o342 : Obj:=⟨.type "function",none,.func (fD (M 22 4) "unpack_low" "Flags.unpack_low" 3 [] .none .none .none (.str "octetmint.flags" 316) none (.ref 156) .none 0),#[]⟩
noncomputable def o345 : Obj:=⟨.type "code",none,.fields #[.str "copy" 384,.str "Flags.copy" 385,.str "/claim/cut.py" 386,.int 78 0,.int 1 0,.int 0 0,.int 0 0,.int 3 0,.ref 158,.bool true,.int 181 0,.ref 159,.none,.ref 160,.ref 161,.ref 162,.int 389 0,.int 78 0,.str "/claim/cut.py" 390],#[]⟩
noncomputable def o349 : Obj:=⟨.type "code",none,.fields #[.str "get" 392,.str "Flags.get" 393,.str "/claim/cut.py" 394,.int 83 0,.int 2 0,.int 0 0,.int 0 0,.int 3 0,.ref 165,.bool true,.int 181 0,.ref 166,.none,.ref 167,.ref 168,.ref 169,.int 398 0,.int 83 0,.str "/claim/cut.py" 399],#[]⟩
noncomputable def o351 : Obj:=⟨.type "tuple",none,.seq #[.str "self" 404,.str "name" 405,.str "worth" 406,.str "spots" 407,.str "spot" 408,.str "number" 409] 0,#[]⟩
noncomputable def o353 : Obj:=⟨.type "code",none,.fields #[.str "put" 401,.str "Flags.put" 402,.str "/claim/cut.py" 403,.int 89 0,.int 3 0,.int 0 0,.int 0 0,.int 3 0,.ref 172,.bool true,.int 181 0,.ref 173,.none,.ref 174,.ref 175,.ref 176,.int 410 0,.int 89 0,.str "/claim/cut.py" 411],#[]⟩
noncomputable def o357 : Obj:=⟨.type "code",none,.fields #[.str "show" 413,.str "Flags.show" 414,.str "/claim/cut.py" 415,.int 97 0,.int 1 0,.int 0 0,.int 0 0,.int 3 0,.ref 179,.bool true,.int 181 0,.ref 180,.none,.ref 181,.ref 182,.ref 183,.int 417 0,.int 97 0,.str "/claim/cut.py" 418],#[]⟩
noncomputable def o359 : Obj:=⟨.type "tuple",none,.seq #[.str "af" 420,.str "cf" 421,.str "df" 422,.str "of" 423,.str "pf" 424,.str "sf" 425,.str "zf" 426] 0,#[]⟩
noncomputable def o363 (P : Params) : Obj:=⟨.type "dict",none,.dict #[dE P "__module__" 341 (.str "octetmint.flags" 316),dE P "__firstlineno__" 345 (.int 48 344),dE P "__init__" 352 (.ref 129),dE P "told" 359 (.ref 136),dE P "pack" 367 (.ref 143),dE P "unpack" 375 (.ref 150),dE P "unpack_low" 383 (.ref 157),dE P "copy" 391 (.ref 164),dE P "get" 400 (.ref 171),dE P "put" 412 (.ref 178),dE P "show" 419 (.ref 185),dE P "__static_attributes__" 427 (.ref 186),dE P "__dict__" 429 (.ref 189),dE P "__weakref__" 431 (.ref 190),dE P "__doc__" 432 .none] 4,#[]⟩
noncomputable def o364 : Obj:=⟨.type "type",none,.cls ⟨"Flags",[.type "object"],[.ref 188,.type "object"],187,"Flags",true,[],[],false,none,false⟩,#[none,none,(some (.str "Flags" 334)),(some (.str "Flags" 342)),(some (.builtin "object.__new__")),(some (.bool true))]⟩
noncomputable def o365 : Obj:=⟨.type "getset_descriptor",none,.fields #[.str "__dict__" 428,.ref 188,.builtin "function.__dict__",.builtin "function.__dict__#set"],#[]⟩
noncomputable def o366 : Obj:=⟨.type "getset_descriptor",none,.fields #[.str "__weakref__" 430,.ref 188,.builtin "ExceptionGroup.__weakref__",.none],#[]⟩
noncomputable def o371 : Obj:=⟨.type "code",none,.fields #[.str "condition_number" 435,.str "condition_number" 436,.str "/claim/cut.py" 437,.int 99 0,.int 1 0,.int 0 0,.int 0 0,.int 3 0,.ref 193,.bool true,.int 181 0,.ref 194,.none,.ref 195,.ref 196,.ref 197,.int 439 0,.int 99 0,.str "/claim/cut.py" 440],#[]⟩
noncomputable def o372 : Obj:=⟨.type "function",none,.func (fD (S 23) "condition_number" "condition_number" 3 [] .none .none .none (.str "octetmint.flags" 316) none (.ref 198) .none 0),#[]⟩
noncomputable def o373 : Obj:=⟨.type "tuple",none,.seq #[.str "flags" 445,.str "number" 446,.str "pair" 447,.str "truth" 448] 0,#[]⟩
noncomputable def o375 : Obj:=⟨.type "code",none,.fields #[.str "holds_number" 442,.str "holds_number" 443,.str "/claim/cut.py" 444,.int 103 0,.int 2 0,.int 0 0,.int 0 0,.int 3 0,.ref 200,.bool true,.int 181 0,.ref 201,.none,.ref 202,.ref 203,.ref 204,.int 449 0,.int 103 0,.str "/claim/cut.py" 450],#[]⟩
noncomputable def o376 : Obj:=⟨.type "function",none,.func (fD (S 24) "holds_number" "holds_number" 3 [] .none .none .none (.str "octetmint.flags" 316) none (.ref 205) .none 0),#[]⟩
noncomputable def o379 : Obj:=⟨.type "code",none,.fields #[.str "holds" 452,.str "holds" 453,.str "/claim/cut.py" 454,.int 122 0,.int 2 0,.int 0 0,.int 0 0,.int 3 0,.ref 207,.bool true,.int 181 0,.ref 208,.none,.ref 209,.ref 210,.ref 211,.int 457 0,.int 122 0,.str "/claim/cut.py" 458],#[]⟩
noncomputable def o381 : Obj:=⟨.type "tuple",none,.seq #[.str "flags" 463,.str "result" 464,.str "size" 465,.str "told" 466] 0,#[]⟩
noncomputable def o383 : Obj:=⟨.type "code",none,.fields #[.str "szp" 460,.str "szp" 461,.str "/claim/cut.py" 462,.int 124 0,.int 3 0,.int 0 0,.int 0 0,.int 3 0,.ref 214,.bool true,.int 181 0,.ref 215,.none,.ref 216,.ref 217,.ref 218,.int 467 0,.int 124 0,.str "/claim/cut.py" 468],#[]⟩
noncomputable def o385 : Obj:=⟨.type "tuple",none,.seq #[.str "flags" 473,.str "a" 474,.str "b" 475,.str "borrow" 476,.str "size" 477,.str "one" 478,.str "two" 479,.str "rest" 480,.str "result" 481] 0,#[]⟩
noncomputable def o387 : Obj:=⟨.type "code",none,.fields #[.str "sub_flags" 470,.str "sub_flags" 471,.str "/claim/cut.py" 472,.int 130 0,.int 5 0,.int 0 0,.int 0 0,.int 3 0,.ref 221,.bool true,.int 181 0,.ref 222,.none,.ref 223,.ref 224,.ref 225,.int 482 0,.int 130 0,.str "/claim/cut.py" 483],#[]⟩
noncomputable def o408 (P : Params) : Obj:=⟨.type "dict",none,.dict #[dE P "__module__" 502 (.str "octetmint.registers" 485),dE P "__qualname__" 504 (.str "Register" 503),dE P "__firstlineno__" 506 (.int 143 505),dE P "__init__" 517 (.ref 241),dE P "code" 524 (.ref 248),dE P "is_extended" 531 (.ref 255),dE P "is_high" 538 (.ref 262),dE P "needs_rex" 545 (.ref 269),dE P "told" 552 (.ref 276),dE P "__static_attributes__" 557 (.ref 277)] 10,#[]⟩
noncomputable def o409 : Obj:=⟨.none,none,.fields #[.int 145 0,.int 4 0,.ref 240,.int 151 0,.int 4 0,.ref 247,.int 154 0,.int 4 0,.ref 254,.int 157 0,.int 4 0,.ref 261,.int 160 0,.int 4 0,.ref 268,.int 163 0,.int 4 0,.ref 275],#[]⟩
noncomputable def o410 : Obj:=⟨.type "code",none,.fields #[.str "Register" 497,.str "Register" 498,.str "/claim/cut.py" 499,.int 143 0,.int 0 0,.int 0 0,.int 0 0,.int 0 0,.ref 231,.bool false,.int 181 0,.ref 232,.none,.none,.none,.none,.int 500 0,.int 143 0,.str "/claim/cut.py" 501],#[]⟩
noncomputable def o411 : Obj:=⟨.type "frame",none,.plain,#[(some (.ref 233)),(some (.ref 3)),(some (.ref 230)),none,(some (.str "octetmint.registers" 485)),none,(some (.ref 0))]⟩
noncomputable def o412 : Obj:=⟨.type "tuple",none,.seq #[.str "self" 510,.str "name" 511,.str "kind" 512,.str "number" 513,.str "size" 514] 0,#[]⟩
noncomputable def o414 : Obj:=⟨.type "code",none,.fields #[.str "__init__" 507,.str "Register.__init__" 508,.str "/claim/cut.py" 509,.int 145 0,.int 5 0,.int 0 0,.int 0 0,.int 3 0,.ref 235,.bool true,.int 181 0,.ref 236,.none,.ref 237,.ref 238,.ref 239,.int 515 0,.int 145 0,.str "/claim/cut.py" 516],#[]⟩
noncomputable def o415 : Obj:=⟨.type "function",none,.func (fD (M 33 0) "__init__" "Register.__init__" 3 [] .none .none .none (.str "octetmint.registers" 485) none (.ref 240) .none 0),#[]⟩
noncomputable def o418 : Obj:=⟨.type "code",none,.fields #[.str "code" 518,.str "Register.code" 519,.str "/claim/cut.py" 520,.int 151 0,.int 1 0,.int 0 0,.int 0 0,.int 3 0,.ref 242,.bool true,.int 181 0,.ref 243,.none,.ref 244,.ref 245,.ref 246,.int 522 0,.int 151 0,.str "/claim/cut.py" 523],#[]⟩
noncomputable def o422 : Obj:=⟨.type "code",none,.fields #[.str "is_extended" 525,.str "Register.is_extended" 526,.str "/claim/cut.py" 527,.int 154 0,.int 1 0,.int 0 0,.int 0 0,.int 3 0,.ref 249,.bool true,.int 181 0,.ref 250,.none,.ref 251,.ref 252,.ref 253,.int 529 0,.int 154 0,.str "/claim/cut.py" 530],#[]⟩
noncomputable def o423 : Obj:=⟨.type "function",none,.func (fD (M 33 2) "is_extended" "Register.is_extended" 3 [] .none .none .none (.str "octetmint.registers" 485) none (.ref 254) .none 0),#[]⟩
noncomputable def o426 : Obj:=⟨.type "code",none,.fields #[.str "is_high" 532,.str "Register.is_high" 533,.str "/claim/cut.py" 534,.int 157 0,.int 1 0,.int 0 0,.int 0 0,.int 3 0,.ref 256,.bool true,.int 181 0,.ref 257,.none,.ref 258,.ref 259,.ref 260,.int 536 0,.int 157 0,.str "/claim/cut.py" 537],#[]⟩
noncomputable def o427 : Obj:=⟨.type "function",none,.func (fD (M 33 3) "is_high" "Register.is_high" 3 [] .none .none .none (.str "octetmint.registers" 485) none (.ref 261) .none 0),#[]⟩
noncomputable def o430 : Obj:=⟨.type "code",none,.fields #[.str "needs_rex" 539,.str "Register.needs_rex" 540,.str "/claim/cut.py" 541,.int 160 0,.int 1 0,.int 0 0,.int 0 0,.int 3 0,.ref 263,.bool true,.int 181 0,.ref 264,.none,.ref 265,.ref 266,.ref 267,.int 543 0,.int 160 0,.str "/claim/cut.py" 544],#[]⟩
noncomputable def o431 : Obj:=⟨.type "function",none,.func (fD (M 33 4) "needs_rex" "Register.needs_rex" 3 [] .none .none .none (.str "octetmint.registers" 485) none (.ref 268) .none 0),#[]⟩
noncomputable def o434 : Obj:=⟨.type "code",none,.fields #[.str "told" 546,.str "Register.told" 547,.str "/claim/cut.py" 548,.int 163 0,.int 1 0,.int 0 0,.int 0 0,.int 3 0,.ref 270,.bool true,.int 181 0,.ref 271,.none,.ref 272,.ref 273,.ref 274,.int 550 0,.int 163 0,.str "/claim/cut.py" 551],#[]⟩
noncomputable def o435 : Obj:=⟨.type "function",none,.func (fD (M 33 5) "told" "Register.told" 3 [] .none .none .none (.str "octetmint.registers" 485) none (.ref 275) .none 0),#[]⟩
noncomputable def o436 : Obj:=⟨.type "tuple",none,.seq #[.str "kind" 553,.str "name" 554,.str "number" 555,.str "size" 556] 0,#[]⟩
noncomputable def o440 (P : Params) : Obj:=⟨.type "dict",none,.dict #[dE P "__module__" 502 (.str "octetmint.registers" 485),dE P "__firstlineno__" 506 (.int 143 505),dE P "__init__" 517 (.ref 241),dE P "code" 524 (.ref 248),dE P "is_extended" 531 (.ref 255),dE P "is_high" 538 (.ref 262),dE P "needs_rex" 545 (.ref 269),dE P "told" 552 (.ref 276),dE P "__static_attributes__" 557 (.ref 277),dE P "__dict__" 559 (.ref 280),dE P "__weakref__" 561 (.ref 281),dE P "__doc__" 562 .none] 4,#[]⟩
noncomputable def o441 : Obj:=⟨.type "type",none,.cls ⟨"Register",[.type "object"],[.ref 279,.type "object"],278,"Register",true,[],[],false,none,false⟩,#[none,none,(some (.str "Register" 495)),(some (.str "Register" 503)),(some (.builtin "object.__new__")),(some (.bool true))]⟩
noncomputable def o442 : Obj:=⟨.type "getset_descriptor",none,.fields #[.str "__dict__" 558,.ref 279,.builtin "function.__dict__",.builtin "function.__dict__#set"],#[]⟩
noncomputable def o443 : Obj:=⟨.type "getset_descriptor",none,.fields #[.str "__weakref__" 560,.ref 279,.builtin "ExceptionGroup.__weakref__",.none],#[]⟩
noncomputable def o448 : Obj:=⟨.type "code",none,.fields #[.str "early_names" 565,.str "early_names" 566,.str "/claim/cut.py" 567,.int 165 0,.int 1 0,.int 0 0,.int 0 0,.int 3 0,.ref 284,.bool true,.int 181 0,.ref 285,.none,.ref 286,.ref 287,.ref 288,.int 569 0,.int 165 0,.str "/claim/cut.py" 570],#[]⟩
noncomputable def o449 : Obj:=⟨.type "function",none,.func (fD (S 34) "early_names" "early_names" 3 [] .none .none .none (.str "octetmint.registers" 485) none (.ref 289) .none 0),#[]⟩
noncomputable def o452 : Obj:=⟨.type "code",none,.fields #[.str "late_ending" 572,.str "late_ending" 573,.str "/claim/cut.py" 574,.int 175 0,.int 1 0,.int 0 0,.int 0 0,.int 3 0,.ref 291,.bool true,.int 181 0,.ref 292,.none,.ref 293,.ref 294,.ref 295,.int 576 0,.int 175 0,.str "/claim/cut.py" 577],#[]⟩
noncomputable def o453 : Obj:=⟨.type "function",none,.func (fD (S 35) "late_ending" "late_ending" 3 [] .none .none .none (.str "octetmint.registers" 485) none (.ref 296) .none 0),#[]⟩
noncomputable def o456 : Obj:=⟨.type "code",none,.fields #[.str "gpr" 579,.str "gpr" 580,.str "/claim/cut.py" 581,.int 183 0,.int 2 0,.int 0 0,.int 0 0,.int 3 0,.ref 298,.bool true,.int 181 0,.ref 299,.none,.ref 300,.ref 301,.ref 302,.int 585 0,.int 183 0,.str "/claim/cut.py" 586],#[]⟩
noncomputable def o479 (P : Params) : Obj:=⟨.type "dict",none,.dict #[dE P "__module__" 601 (.str "octetmint.machine" 588),dE P "__qualname__" 603 (.str "Memory" 602),dE P "__firstlineno__" 605 (.int 193 604),dE P "__init__" 612 (.ref 318),dE P "octet" 620 (.ref 325),dE P "set_octet" 629 (.ref 332),dE P "read" 640 (.ref 339),dE P "write" 651 (.ref 346),dE P "load" 662 (.ref 353),dE P "octets" 668 (.ref 358),dE P "written" 674 (.ref 363),dE P "spans" 681 (.ref 370),dE P "find" 692 (.ref 377),dE P "copy" 701 (.ref 384),dE P "told" 708 (.ref 391),dE P "__static_attributes__" 710 (.ref 392)] 16,#[]⟩
noncomputable def o480 : Obj:=⟨.none,none,.fields #[.int 195 0,.int 4 0,.ref 317,.int 198 0,.int 4 0,.ref 324,.int 201 0,.int 4 0,.ref 331,.int 204 0,.int 4 0,.ref 338,.int 210 0,.int 4 0,.ref 345,.int 214 0,.int 4 0,.ref 352,.int 218 0,.int 4 0,.ref 357,.int 221 0,.int 4 0,.ref 362,.int 224 0,.int 4 0,.ref 369,.int 227 0,.int 4 0,.ref 376,.int 233 0,.int 4 0,.ref 383,.int 239 0,.int 4 0,.ref 390],#[]⟩
noncomputable def o481 : Obj:=⟨.type "code",none,.fields #[.str "Memory" 596,.str "Memory" 597,.str "/claim/cut.py" 598,.int 193 0,.int 0 0,.int 0 0,.int 0 0,.int 0 0,.ref 308,.bool false,.int 181 0,.ref 309,.none,.none,.none,.none,.int 599 0,.int 193 0,.str "/claim/cut.py" 600],#[]⟩
noncomputable def o482 : Obj:=⟨.type "frame",none,.plain,#[(some (.ref 310)),(some (.ref 3)),(some (.ref 307)),none,(some (.str "octetmint.machine" 588)),none,(some (.ref 0))]⟩
noncomputable def o485 : Obj:=⟨.type "code",none,.fields #[.str "__init__" 606,.str "Memory.__init__" 607,.str "/claim/cut.py" 608,.int 195 0,.int 1 0,.int 0 0,.int 0 0,.int 3 0,.ref 312,.bool true,.int 181 0,.ref 313,.none,.ref 314,.ref 315,.ref 316,.int 610 0,.int 195 0,.str "/claim/cut.py" 611],#[]⟩
noncomputable def o486 : Obj:=⟨.type "function",none,.func (fD (M 40 0) "__init__" "Memory.__init__" 3 [] .none .none .none (.str "octetmint.machine" 588) none (.ref 317) .none 0),#[]⟩
noncomputable def o489 : Obj:=⟨.type "code",none,.fields #[.str "octet" 613,.str "Memory.octet" 614,.str "/claim/cut.py" 615,.int 198 0,.int 2 0,.int 0 0,.int 0 0,.int 3 0,.ref 319,.bool true,.int 181 0,.ref 320,.none,.ref 321,.ref 322,.ref 323,.int 618 0,.int 198 0,.str "/claim/cut.py" 619],#[]⟩
noncomputable def o493 : Obj:=⟨.type "code",none,.fields #[.str "set_octet" 621,.str "Memory.set_octet" 622,.str "/claim/cut.py" 623,.int 201 0,.int 3 0,.int 0 0,.int 0 0,.int 3 0,.ref 326,.bool true,.int 181 0,.ref 327,.none,.ref 328,.ref 329,.ref 330,.int 627 0,.int 201 0,.str "/claim/cut.py" 628],#[]⟩
noncomputable def o494 : Obj:=⟨.type "function",none,.func (fD (M 40 2) "set_octet" "Memory.set_octet" 3 [] .none .none .none (.str "octetmint.machine" 588) none (.ref 331) .none 0),#[]⟩
noncomputable def o495 : Obj:=⟨.type "tuple",none,.seq #[.str "self" 633,.str "place" 634,.str "width" 635,.str "worth" 636,.str "at" 637] 0,#[]⟩
noncomputable def o497 : Obj:=⟨.type "code",none,.fields #[.str "read" 630,.str "Memory.read" 631,.str "/claim/cut.py" 632,.int 204 0,.int 3 0,.int 0 0,.int 0 0,.int 3 0,.ref 333,.bool true,.int 181 0,.ref 334,.none,.ref 335,.ref 336,.ref 337,.int 638 0,.int 204 0,.str "/claim/cut.py" 639],#[]⟩
noncomputable def o499 : Obj:=⟨.type "tuple",none,.seq #[.str "self" 644,.str "place" 645,.str "width" 646,.str "worth" 647,.str "at" 648] 0,#[]⟩
noncomputable def o501 : Obj:=⟨.type "code",none,.fields #[.str "write" 641,.str "Memory.write" 642,.str "/claim/cut.py" 643,.int 210 0,.int 4 0,.int 0 0,.int 0 0,.int 3 0,.ref 340,.bool true,.int 181 0,.ref 341,.none,.ref 342,.ref 343,.ref 344,.int 649 0,.int 210 0,.str "/claim/cut.py" 650],#[]⟩
noncomputable def o503 : Obj:=⟨.type "tuple",none,.seq #[.str "self" 655,.str "place" 656,.str "octets" 657,.str "at" 658,.str "octet" 659] 0,#[]⟩
noncomputable def o505 : Obj:=⟨.type "code",none,.fields #[.str "load" 652,.str "Memory.load" 653,.str "/claim/cut.py" 654,.int 214 0,.int 3 0,.int 0 0,.int 0 0,.int 3 0,.ref 347,.bool true,.int 181 0,.ref 348,.none,.ref 349,.ref 350,.ref 351,.int 660 0,.int 214 0,.str "/claim/cut.py" 661],#[]⟩
noncomputable def o508 : Obj:=⟨.type "code",none,.fields #[.str "octets" 663,.str "Memory.octets" 664,.str "/claim/cut.py" 665,.int 218 0,.int 3 0,.int 0 0,.int 0 0,.int 3 0,.ref 354,.bool true,.int 181 0,.ref 355,.none,.none,.none,.ref 356,.int 666 0,.int 218 0,.str "/claim/cut.py" 667],#[]⟩
noncomputable def o509 : Obj:=⟨.type "function",none,.func (fD (M 40 6) "octets" "Memory.octets" 3 [] .none .none .none (.str "octetmint.machine" 588) none (.ref 357) .none 0),#[]⟩
noncomputable def o511 : Obj:=⟨.type "code",none,.fields #[.str "written" 669,.str "Memory.written" 670,.str "/claim/cut.py" 671,.int 221 0,.int 1 0,.int 0 0,.int 0 0,.int 3 0,.ref 359,.bool true,.int 181 0,.ref 360,.none,.none,.none,.ref 361,.int 672 0,.int 221 0,.str "/claim/cut.py" 673],#[]⟩
noncomputable def o512 : Obj:=⟨.type "function",none,.func (fD (M 40 7) "written" "Memory.written" 3 [] .none .none .none (.str "octetmint.machine" 588) none (.ref 362) .none 0),#[]⟩
noncomputable def o515 : Obj:=⟨.type "code",none,.fields #[.str "spans" 675,.str "Memory.spans" 676,.str "/claim/cut.py" 677,.int 224 0,.int 1 0,.int 0 0,.int 0 0,.int 3 0,.ref 364,.bool true,.int 181 0,.ref 365,.none,.ref 366,.ref 367,.ref 368,.int 679 0,.int 224 0,.str "/claim/cut.py" 680],#[]⟩
noncomputable def o517 : Obj:=⟨.type "tuple",none,.seq #[.str "self" 685,.str "octets" 686,.str "begin" 687,.str "end" 688,.str "place" 689] 0,#[]⟩
noncomputable def o519 : Obj:=⟨.type "code",none,.fields #[.str "find" 682,.str "Memory.find" 683,.str "/claim/cut.py" 684,.int 227 0,.int 4 0,.int 0 0,.int 0 0,.int 3 0,.ref 371,.bool true,.int 181 0,.ref 372,.none,.ref 373,.ref 374,.ref 375,.int 690 0,.int 227 0,.str "/claim/cut.py" 691],#[]⟩
noncomputable def o523 : Obj:=⟨.type "code",none,.fields #[.str "copy" 693,.str "Memory.copy" 694,.str "/claim/cut.py" 695,.int 233 0,.int 1 0,.int 0 0,.int 0 0,.int 3 0,.ref 378,.bool true,.int 181 0,.ref 379,.none,.ref 380,.ref 381,.ref 382,.int 699 0,.int 233 0,.str "/claim/cut.py" 700],#[]⟩
noncomputable def o527 : Obj:=⟨.type "code",none,.fields #[.str "told" 702,.str "Memory.told" 703,.str "/claim/cut.py" 704,.int 239 0,.int 1 0,.int 0 0,.int 0 0,.int 3 0,.ref 385,.bool true,.int 181 0,.ref 386,.none,.ref 387,.ref 388,.ref 389,.int 706 0,.int 239 0,.str "/claim/cut.py" 707],#[]⟩
noncomputable def o533 (P : Params) : Obj:=⟨.type "dict",none,.dict #[dE P "__module__" 601 (.str "octetmint.machine" 588),dE P "__firstlineno__" 605 (.int 193 604),dE P "__init__" 612 (.ref 318),dE P "octet" 620 (.ref 325),dE P "set_octet" 629 (.ref 332),dE P "read" 640 (.ref 339),dE P "write" 651 (.ref 346),dE P "load" 662 (.ref 353),dE P "octets" 668 (.ref 358),dE P "written" 674 (.ref 363),dE P "spans" 681 (.ref 370),dE P "find" 692 (.ref 377),dE P "copy" 701 (.ref 384),dE P "told" 708 (.ref 391),dE P "__static_attributes__" 710 (.ref 392),dE P "__dict__" 712 (.ref 395),dE P "__weakref__" 714 (.ref 396),dE P "__doc__" 715 .none] 4,#[]⟩
noncomputable def o534 : Obj:=⟨.type "type",none,.cls ⟨"Memory",[.type "object"],[.ref 394,.type "object"],393,"Memory",true,[],[],false,none,false⟩,#[none,none,(some (.str "Memory" 594)),(some (.str "Memory" 602)),(some (.builtin "object.__new__")),(some (.bool true))]⟩
noncomputable def o535 : Obj:=⟨.type "getset_descriptor",none,.fields #[.str "__dict__" 711,.ref 394,.builtin "function.__dict__",.builtin "function.__dict__#set"],#[]⟩
noncomputable def o536 : Obj:=⟨.type "getset_descriptor",none,.fields #[.str "__weakref__" 713,.ref 394,.builtin "ExceptionGroup.__weakref__",.none],#[]⟩
noncomputable def o541 : Obj:=⟨.type "code",none,.fields #[.str "joined" 718,.str "joined" 719,.str "/claim/cut.py" 720,.int 241 0,.int 3 0,.int 0 0,.int 0 0,.int 3 0,.ref 399,.bool true,.int 181 0,.ref 400,.none,.ref 401,.ref 402,.ref 403,.int 724 0,.int 241 0,.str "/claim/cut.py" 725],#[]⟩
noncomputable def o565 (P : Params) : Obj:=⟨.type "dict",none,.dict #[dE P "__module__" 735 (.str "octetmint.machine" 588),dE P "__qualname__" 737 (.str "State" 736),dE P "__firstlineno__" 739 (.int 246 738),dE P "__init__" 747 (.ref 419),dE P "get" 755 (.ref 426),dE P "put" 765 (.ref 433),dE P "put_low" 776 (.ref 440),dE P "registers" 782 (.ref 445),dE P "offset" 791 (.ref 452),dE P "place" 800 (.ref 459),dE P "size_of" 810 (.ref 466),dE P "read" 819 (.ref 473),dE P "write" 829 (.ref 480),dE P "push" 838 (.ref 487),dE P "pop" 847 (.ref 494),dE P "told" 855 (.ref 501),dE P "copy" 863 (.ref 508),dE P "__static_attributes__" 873 (.ref 509)] 18,#[]⟩
noncomputable def o566 : Obj:=⟨.none,none,.fields #[.int 248 0,.int 4 0,.ref 418,.int 259 0,.int 4 0,.ref 425,.int 270 0,.int 4 0,.ref 432,.int 282 0,.int 4 0,.ref 439,.int 289 0,.int 4 0,.ref 444,.int 292 0,.int 4 0,.ref 451,.int 300 0,.int 4 0,.ref 458,.int 304 0,.int 4 0,.ref 465,.int 312 0,.int 4 0,.ref 472,.int 319 0,.int 4 0,.ref 479,.int 327 0,.int 4 0,.ref 486,.int 331 0,.int 4 0,.ref 493,.int 336 0,.int 4 0,.ref 500,.int 340 0,.int 4 0,.ref 507],#[]⟩
noncomputable def o567 : Obj:=⟨.type "code",none,.fields #[.str "State" 730,.str "State" 731,.str "/claim/cut.py" 732,.int 246 0,.int 0 0,.int 0 0,.int 0 0,.int 0 0,.ref 409,.bool false,.int 181 0,.ref 410,.none,.none,.none,.none,.int 733 0,.int 246 0,.str "/claim/cut.py" 734],#[]⟩
noncomputable def o568 : Obj:=⟨.type "frame",none,.plain,#[(some (.ref 411)),(some (.ref 3)),(some (.ref 408)),none,(some (.str "octetmint.machine" 588)),none,(some (.ref 0))]⟩
noncomputable def o571 : Obj:=⟨.type "code",none,.fields #[.str "__init__" 740,.str "State.__init__" 741,.str "/claim/cut.py" 742,.int 248 0,.int 2 0,.int 0 0,.int 0 0,.int 3 0,.ref 413,.bool true,.int 181 0,.ref 414,.none,.ref 415,.ref 416,.ref 417,.int 745 0,.int 248 0,.str "/claim/cut.py" 746],#[]⟩
noncomputable def o572 : Obj:=⟨.type "function",none,.func (fD (M 43 0) "__init__" "State.__init__" 3 [] .none .none .none (.str "octetmint.machine" 588) none (.ref 418) .none 0),#[]⟩
noncomputable def o575 : Obj:=⟨.type "code",none,.fields #[.str "get" 748,.str "State.get" 749,.str "/claim/cut.py" 750,.int 259 0,.int 2 0,.int 0 0,.int 0 0,.int 3 0,.ref 420,.bool true,.int 181 0,.ref 421,.none,.ref 422,.ref 423,.ref 424,.int 753 0,.int 259 0,.str "/claim/cut.py" 754],#[]⟩
noncomputable def o577 : Obj:=⟨.type "tuple",none,.seq #[.str "self" 759,.str "register" 760,.str "worth" 761,.str "old" 762] 0,#[]⟩
noncomputable def o579 : Obj:=⟨.type "code",none,.fields #[.str "put" 756,.str "State.put" 757,.str "/claim/cut.py" 758,.int 270 0,.int 3 0,.int 0 0,.int 0 0,.int 3 0,.ref 427,.bool true,.int 181 0,.ref 428,.none,.ref 429,.ref 430,.ref 431,.int 763 0,.int 270 0,.str "/claim/cut.py" 764],#[]⟩
noncomputable def o581 : Obj:=⟨.type "tuple",none,.seq #[.str "self" 769,.str "register" 770,.str "size" 771,.str "worth" 772,.str "old" 773] 0,#[]⟩
noncomputable def o583 : Obj:=⟨.type "code",none,.fields #[.str "put_low" 766,.str "State.put_low" 767,.str "/claim/cut.py" 768,.int 282 0,.int 4 0,.int 0 0,.int 0 0,.int 3 0,.ref 434,.bool true,.int 181 0,.ref 435,.none,.ref 436,.ref 437,.ref 438,.int 774 0,.int 282 0,.str "/claim/cut.py" 775],#[]⟩
noncomputable def o584 : Obj:=⟨.type "function",none,.func (fD (M 43 3) "put_low" "State.put_low" 3 [] .none .none .none (.str "octetmint.machine" 588) none (.ref 439) .none 0),#[]⟩
noncomputable def o586 : Obj:=⟨.type "code",none,.fields #[.str "registers" 777,.str "State.registers" 778,.str "/claim/cut.py" 779,.int 289 0,.int 1 0,.int 0 0,.int 0 0,.int 3 0,.ref 441,.bool true,.int 181 0,.ref 442,.none,.none,.none,.ref 443,.int 780 0,.int 289 0,.str "/claim/cut.py" 781],#[]⟩
noncomputable def o587 : Obj:=⟨.type "function",none,.func (fD (M 43 4) "registers" "State.registers" 3 [] .none .none .none (.str "octetmint.machine" 588) none (.ref 444) .none 0),#[]⟩
noncomputable def o590 : Obj:=⟨.type "code",none,.fields #[.str "offset" 783,.str "State.offset" 784,.str "/claim/cut.py" 785,.int 292 0,.int 2 0,.int 0 0,.int 0 0,.int 3 0,.ref 446,.bool true,.int 181 0,.ref 447,.none,.ref 448,.ref 449,.ref 450,.int 789 0,.int 292 0,.str "/claim/cut.py" 790],#[]⟩
noncomputable def o594 : Obj:=⟨.type "code",none,.fields #[.str "place" 792,.str "State.place" 793,.str "/claim/cut.py" 794,.int 300 0,.int 2 0,.int 0 0,.int 0 0,.int 3 0,.ref 453,.bool true,.int 181 0,.ref 454,.none,.ref 455,.ref 456,.ref 457,.int 798 0,.int 300 0,.str "/claim/cut.py" 799],#[]⟩
noncomputable def o596 : Obj:=⟨.type "tuple",none,.seq #[.str "self" 804,.str "operand" 805,.str "instruction" 806,.str "one" 807] 0,#[]⟩
noncomputable def o598 : Obj:=⟨.type "code",none,.fields #[.str "size_of" 801,.str "State.size_of" 802,.str "/claim/cut.py" 803,.int 304 0,.int 3 0,.int 0 0,.int 0 0,.int 3 0,.ref 460,.bool true,.int 181 0,.ref 461,.none,.ref 462,.ref 463,.ref 464,.int 808 0,.int 304 0,.str "/claim/cut.py" 809],#[]⟩
noncomputable def o599 : Obj:=⟨.type "function",none,.func (fD (M 43 7) "size_of" "State.size_of" 3 [] .none .none .none (.str "octetmint.machine" 588) none (.ref 465) .none 0),#[]⟩
noncomputable def o602 : Obj:=⟨.type "code",none,.fields #[.str "read" 811,.str "State.read" 812,.str "/claim/cut.py" 813,.int 312 0,.int 3 0,.int 0 0,.int 0 0,.int 3 0,.ref 467,.bool true,.int 181 0,.ref 468,.none,.ref 469,.ref 470,.ref 471,.int 817 0,.int 312 0,.str "/claim/cut.py" 818],#[]⟩
noncomputable def o604 : Obj:=⟨.type "tuple",none,.seq #[.str "self" 823,.str "operand" 824,.str "size" 825,.str "worth" 826] 0,#[]⟩
noncomputable def o606 : Obj:=⟨.type "code",none,.fields #[.str "write" 820,.str "State.write" 821,.str "/claim/cut.py" 822,.int 319 0,.int 4 0,.int 0 0,.int 0 0,.int 3 0,.ref 474,.bool true,.int 181 0,.ref 475,.none,.ref 476,.ref 477,.ref 478,.int 827 0,.int 319 0,.str "/claim/cut.py" 828],#[]⟩
noncomputable def o610 : Obj:=⟨.type "code",none,.fields #[.str "push" 830,.str "State.push" 831,.str "/claim/cut.py" 832,.int 327 0,.int 3 0,.int 0 0,.int 0 0,.int 3 0,.ref 481,.bool true,.int 181 0,.ref 482,.none,.ref 483,.ref 484,.ref 485,.int 836 0,.int 327 0,.str "/claim/cut.py" 837],#[]⟩
noncomputable def o614 : Obj:=⟨.type "code",none,.fields #[.str "pop" 839,.str "State.pop" 840,.str "/claim/cut.py" 841,.int 331 0,.int 2 0,.int 0 0,.int 0 0,.int 3 0,.ref 488,.bool true,.int 181 0,.ref 489,.none,.ref 490,.ref 491,.ref 492,.int 845 0,.int 331 0,.str "/claim/cut.py" 846],#[]⟩
noncomputable def o618 : Obj:=⟨.type "code",none,.fields #[.str "told" 848,.str "State.told" 849,.str "/claim/cut.py" 850,.int 336 0,.int 1 0,.int 0 0,.int 0 0,.int 3 0,.ref 495,.bool true,.int 181 0,.ref 496,.none,.ref 497,.ref 498,.ref 499,.int 853 0,.int 336 0,.str "/claim/cut.py" 854],#[]⟩
noncomputable def o622 : Obj:=⟨.type "code",none,.fields #[.str "copy" 856,.str "State.copy" 857,.str "/claim/cut.py" 858,.int 340 0,.int 1 0,.int 0 0,.int 0 0,.int 3 0,.ref 502,.bool true,.int 181 0,.ref 503,.none,.ref 504,.ref 505,.ref 506,.int 861 0,.int 340 0,.str "/claim/cut.py" 862],#[]⟩
noncomputable def o624 : Obj:=⟨.type "tuple",none,.seq #[.str "begin" 864,.str "flags" 865,.str "is_halted" 866,.str "iset" 867,.str "memory" 868,.str "regs" 869,.str "rip" 870,.str "segments" 871,.str "xmm" 872] 0,#[]⟩
noncomputable def o628 (P : Params) : Obj:=⟨.type "dict",none,.dict #[dE P "__module__" 735 (.str "octetmint.machine" 588),dE P "__firstlineno__" 739 (.int 246 738),dE P "__init__" 747 (.ref 419),dE P "get" 755 (.ref 426),dE P "put" 765 (.ref 433),dE P "put_low" 776 (.ref 440),dE P "registers" 782 (.ref 445),dE P "offset" 791 (.ref 452),dE P "place" 800 (.ref 459),dE P "size_of" 810 (.ref 466),dE P "read" 819 (.ref 473),dE P "write" 829 (.ref 480),dE P "push" 838 (.ref 487),dE P "pop" 847 (.ref 494),dE P "told" 855 (.ref 501),dE P "copy" 863 (.ref 508),dE P "__static_attributes__" 873 (.ref 509),dE P "__dict__" 875 (.ref 512),dE P "__weakref__" 877 (.ref 513),dE P "__doc__" 878 .none] 4,#[]⟩
noncomputable def o629 : Obj:=⟨.type "type",none,.cls ⟨"State",[.type "object"],[.ref 511,.type "object"],510,"State",true,[],[],false,none,false⟩,#[none,none,(some (.str "State" 728)),(some (.str "State" 736)),(some (.builtin "object.__new__")),(some (.bool true))]⟩
noncomputable def o630 : Obj:=⟨.type "getset_descriptor",none,.fields #[.str "__dict__" 874,.ref 511,.builtin "function.__dict__",.builtin "function.__dict__#set"],#[]⟩
noncomputable def o631 : Obj:=⟨.type "getset_descriptor",none,.fields #[.str "__weakref__" 876,.ref 511,.builtin "ExceptionGroup.__weakref__",.none],#[]⟩
noncomputable def o634 : Obj:=⟨.type "tuple",none,.seq #[.str "state" 884,.str "instruction" 885,.str "deeds" 886,.str "deed" 887] 0,#[]⟩
noncomputable def o636 : Obj:=⟨.type "code",none,.fields #[.str "done" 881,.str "done" 882,.str "/claim/cut.py" 883,.int 351 0,.int 3 0,.int 0 0,.int 0 0,.int 3 0,.ref 516,.bool true,.int 181 0,.ref 517,.none,.ref 518,.ref 519,.ref 520,.int 888 0,.int 351 0,.str "/claim/cut.py" 889],#[]⟩
noncomputable def o646 : Obj:=⟨.type "code",none,.fields #[.str "perform" 891,.str "perform" 892,.str "/claim/cut.py" 893,.int 361 0,.int 3 0,.int 0 0,.int 0 0,.int 3 0,.ref 523,.bool true,.int 181 0,.ref 524,.none,.ref 525,.ref 526,.ref 527,.int 898 0,.int 361 0,.str "/claim/cut.py" 899],#[]⟩
noncomputable def o656 (P : Params) : Obj:=⟨.type "dict",none,.dict #[dE P "__module__" 910 (.str "octetmint.operands" 901),dE P "__qualname__" 912 (.str "Operand" 911),dE P "__firstlineno__" 914 (.int 367 913),dE P "__init__" 922 (.ref 543),dE P "told" 929 (.ref 550),dE P "symbol" 936 (.ref 557),dE P "registers" 943 (.ref 564),dE P "__static_attributes__" 945 (.ref 565)] 8,#[]⟩
noncomputable def o662 : Obj:=⟨.type "code",none,.fields #[.str "__init__" 915,.str "Operand.__init__" 916,.str "/claim/cut.py" 917,.int 369 0,.int 2 0,.int 0 0,.int 0 0,.int 3 0,.ref 537,.bool true,.int 181 0,.ref 538,.none,.ref 539,.ref 540,.ref 541,.int 920 0,.int 369 0,.str "/claim/cut.py" 921],#[]⟩
noncomputable def o666 : Obj:=⟨.type "code",none,.fields #[.str "told" 923,.str "Operand.told" 924,.str "/claim/cut.py" 925,.int 372 0,.int 1 0,.int 0 0,.int 0 0,.int 3 0,.ref 544,.bool true,.int 181 0,.ref 545,.none,.ref 546,.ref 547,.ref 548,.int 927 0,.int 372 0,.str "/claim/cut.py" 928],#[]⟩
noncomputable def o670 : Obj:=⟨.type "code",none,.fields #[.str "symbol" 930,.str "Operand.symbol" 931,.str "/claim/cut.py" 932,.int 375 0,.int 1 0,.int 0 0,.int 0 0,.int 3 0,.ref 551,.bool true,.int 181 0,.ref 552,.none,.ref 553,.ref 554,.ref 555,.int 934 0,.int 375 0,.str "/claim/cut.py" 935],#[]⟩
noncomputable def o674 : Obj:=⟨.type "code",none,.fields #[.str "registers" 937,.str "Operand.registers" 938,.str "/claim/cut.py" 939,.int 378 0,.int 1 0,.int 0 0,.int 0 0,.int 3 0,.ref 558,.bool true,.int 181 0,.ref 559,.none,.ref 560,.ref 561,.ref 562,.int 941 0,.int 378 0,.str "/claim/cut.py" 942],#[]⟩
noncomputable def o680 (P : Params) : Obj:=⟨.type "dict",none,.dict #[dE P "__module__" 910 (.str "octetmint.operands" 901),dE P "__firstlineno__" 914 (.int 367 913),dE P "__init__" 922 (.ref 543),dE P "told" 929 (.ref 550),dE P "symbol" 936 (.ref 557),dE P "registers" 943 (.ref 564),dE P "__static_attributes__" 945 (.ref 565),dE P "__dict__" 947 (.ref 568),dE P "__weakref__" 949 (.ref 569),dE P "__doc__" 950 .none] 4,#[]⟩
noncomputable def o686 : Obj:=⟨.type "tuple",none,.seq #[.ref 567] 0,#[]⟩
noncomputable def o700 : Obj:=⟨.type "code",none,.fields #[.str "__init__" 965,.str "Reg.__init__" 966,.str "/claim/cut.py" 967,.int 382 0,.int 2 0,.int 0 0,.int 0 0,.int 3 0,.ref 579,.bool true,.int 181 0,.ref 580,.none,.ref 581,.ref 582,.ref 583,.int 970 0,.int 382 0,.str "/claim/cut.py" 971],#[]⟩
noncomputable def o704 : Obj:=⟨.type "code",none,.fields #[.str "told" 973,.str "Reg.told" 974,.str "/claim/cut.py" 975,.int 386 0,.int 1 0,.int 0 0,.int 0 0,.int 3 0,.ref 586,.bool true,.int 181 0,.ref 587,.none,.ref 588,.ref 589,.ref 590,.int 977 0,.int 386 0,.str "/claim/cut.py" 978],#[]⟩
noncomputable def o708 : Obj:=⟨.type "code",none,.fields #[.str "registers" 980,.str "Reg.registers" 981,.str "/claim/cut.py" 982,.int 389 0,.int 1 0,.int 0 0,.int 0 0,.int 3 0,.ref 593,.bool true,.int 181 0,.ref 594,.none,.ref 595,.ref 596,.ref 597,.int 984 0,.int 389 0,.str "/claim/cut.py" 985],#[]⟩
noncomputable def o712 (P : Params) : Obj:=⟨.type "dict",none,.dict #[dE P "__module__" 960 (.str "octetmint.operands" 901),dE P "__firstlineno__" 964 (.int 380 963),dE P "__init__" 972 (.ref 585),dE P "told" 979 (.ref 592),dE P "registers" 986 (.ref 599),dE P "__static_attributes__" 988 (.ref 600),dE P "__doc__" 989 .none] 2,#[]⟩
noncomputable def o713 : Obj:=⟨.type "type",none,.cls ⟨"Reg",[.ref 567],[.ref 602,.ref 567,.type "object"],601,"Reg",true,[],[],false,none,false⟩,#[(some (.ref 572)),none,(some (.str "Reg" 953)),(some (.str "Reg" 961)),(some (.builtin "object.__new__")),(some (.bool true))]⟩
noncomputable def o734 : Obj:=⟨.type "code",none,.fields #[.str "__init__" 1005,.str "Imm.__init__" 1006,.str "/claim/cut.py" 1007,.int 393 0,.int 3 0,.int 0 0,.int 0 0,.int 3 0,.ref 613,.bool true,.int 181 0,.ref 614,.none,.ref 615,.ref 616,.ref 617,.int 1011 0,.int 393 0,.str "/claim/cut.py" 1012],#[]⟩
noncomputable def o738 : Obj:=⟨.type "code",none,.fields #[.str "told" 1014,.str "Imm.told" 1015,.str "/claim/cut.py" 1016,.int 398 0,.int 1 0,.int 0 0,.int 0 0,.int 3 0,.ref 620,.bool true,.int 181 0,.ref 621,.none,.ref 622,.ref 623,.ref 624,.int 1018 0,.int 398 0,.str "/claim/cut.py" 1019],#[]⟩
noncomputable def o742 : Obj:=⟨.type "code",none,.fields #[.str "symbol" 1021,.str "Imm.symbol" 1022,.str "/claim/cut.py" 1023,.int 401 0,.int 1 0,.int 0 0,.int 0 0,.int 3 0,.ref 627,.bool true,.int 181 0,.ref 628,.none,.ref 629,.ref 630,.ref 631,.int 1025 0,.int 401 0,.str "/claim/cut.py" 1026],#[]⟩
noncomputable def o746 (P : Params) : Obj:=⟨.type "dict",none,.dict #[dE P "__module__" 999 (.str "octetmint.operands" 901),dE P "__firstlineno__" 1003 (.int 391 1002),dE P "__init__" 1013 (.ref 619),dE P "told" 1020 (.ref 626),dE P "symbol" 1027 (.ref 633),dE P "__static_attributes__" 1030 (.ref 634),dE P "__doc__" 1031 .none] 2,#[]⟩
noncomputable def o747 : Obj:=⟨.type "type",none,.cls ⟨"Imm",[.ref 567],[.ref 636,.ref 567,.type "object"],635,"Imm",true,[],[],false,none,false⟩,#[(some (.ref 605)),none,(some (.str "Imm" 992)),(some (.str "Imm" 1000)),(some (.builtin "object.__new__")),(some (.bool true))]⟩
noncomputable def o753 : Obj:=⟨.type "type",none,.cls ⟨"Operand",[.type "object"],[.ref 567,.type "object"],566,"Operand",true,[],[.ref 602,.ref 636,.ref 689],false,none,false⟩,#[none,none,(some (.str "Operand" 903)),(some (.str "Operand" 911)),(some (.builtin "object.__new__")),(some (.bool true))]⟩
noncomputable def o764 (P : Params) : Obj:=⟨.type "dict",none,.dict #[dE P "__module__" 1041 (.str "octetmint.operands" 901),dE P "__qualname__" 1043 (.str "Mem" 1042),dE P "__firstlineno__" 1045 (.int 403 1044),dE P "__init__" 1062 (.ref 653),dE P "told" 1071 (.ref 660),dE P "symbol" 1078 (.ref 667),dE P "registers" 1084 (.ref 672),dE P "is_rip" 1091 (.ref 679),dE P "is_absolute" 1098 (.ref 686),dE P "__static_attributes__" 1106 (.ref 687)] 10,#[]⟩
noncomputable def o769 : Obj:=⟨.type "tuple",none,.seq #[.str "self" 1052,.str "base" 1053,.str "index" 1054,.str "scale" 1055,.str "worth" 1056,.str "size" 1057,.str "segment" 1058,.str "name" 1059] 0,#[]⟩
noncomputable def o771 : Obj:=⟨.type "code",none,.fields #[.str "__init__" 1049,.str "Mem.__init__" 1050,.str "/claim/cut.py" 1051,.int 405 0,.int 8 0,.int 0 0,.int 0 0,.int 3 0,.ref 647,.bool true,.int 181 0,.ref 648,.none,.ref 649,.ref 650,.ref 651,.int 1060 0,.int 405 0,.str "/claim/cut.py" 1061],#[]⟩
noncomputable def o775 : Obj:=⟨.type "code",none,.fields #[.str "told" 1063,.str "Mem.told" 1064,.str "/claim/cut.py" 1065,.int 415 0,.int 1 0,.int 0 0,.int 0 0,.int 3 0,.ref 654,.bool true,.int 181 0,.ref 655,.none,.ref 656,.ref 657,.ref 658,.int 1069 0,.int 415 0,.str "/claim/cut.py" 1070],#[]⟩
noncomputable def o779 : Obj:=⟨.type "code",none,.fields #[.str "symbol" 1072,.str "Mem.symbol" 1073,.str "/claim/cut.py" 1074,.int 420 0,.int 1 0,.int 0 0,.int 0 0,.int 3 0,.ref 661,.bool true,.int 181 0,.ref 662,.none,.ref 663,.ref 664,.ref 665,.int 1076 0,.int 420 0,.str "/claim/cut.py" 1077],#[]⟩
noncomputable def o782 : Obj:=⟨.type "code",none,.fields #[.str "registers" 1079,.str "Mem.registers" 1080,.str "/claim/cut.py" 1081,.int 423 0,.int 1 0,.int 0 0,.int 0 0,.int 3 0,.ref 668,.bool true,.int 181 0,.ref 669,.none,.none,.none,.ref 670,.int 1082 0,.int 423 0,.str "/claim/cut.py" 1083],#[]⟩
noncomputable def o786 : Obj:=⟨.type "code",none,.fields #[.str "is_rip" 1085,.str "Mem.is_rip" 1086,.str "/claim/cut.py" 1087,.int 426 0,.int 1 0,.int 0 0,.int 0 0,.int 3 0,.ref 673,.bool true,.int 181 0,.ref 674,.none,.ref 675,.ref 676,.ref 677,.int 1089 0,.int 426 0,.str "/claim/cut.py" 1090],#[]⟩
noncomputable def o790 : Obj:=⟨.type "code",none,.fields #[.str "is_absolute" 1092,.str "Mem.is_absolute" 1093,.str "/claim/cut.py" 1094,.int 429 0,.int 1 0,.int 0 0,.int 0 0,.int 3 0,.ref 680,.bool true,.int 181 0,.ref 681,.none,.ref 682,.ref 683,.ref 684,.int 1096 0,.int 429 0,.str "/claim/cut.py" 1097],#[]⟩
noncomputable def o792 : Obj:=⟨.type "tuple",none,.seq #[.str "base" 1099,.str "index" 1100,.str "name" 1101,.str "scale" 1102,.str "segment" 1103,.str "size" 1104,.str "worth" 1105] 0,#[]⟩
noncomputable def o794 (P : Params) : Obj:=⟨.type "dict",none,.dict #[dE P "__module__" 1041 (.str "octetmint.operands" 901),dE P "__firstlineno__" 1045 (.int 403 1044),dE P "__init__" 1062 (.ref 653),dE P "told" 1071 (.ref 660),dE P "symbol" 1078 (.ref 667),dE P "registers" 1084 (.ref 672),dE P "is_rip" 1091 (.ref 679),dE P "is_absolute" 1098 (.ref 686),dE P "__static_attributes__" 1106 (.ref 687),dE P "__doc__" 1107 .none] 2,#[]⟩
noncomputable def o795 : Obj:=⟨.type "type",none,.cls ⟨"Mem",[.ref 567],[.ref 689,.ref 567,.type "object"],688,"Mem",true,[],[],false,none,false⟩,#[(some (.ref 639)),none,(some (.str "Mem" 1034)),(some (.str "Mem" 1042)),(some (.builtin "object.__new__")),(some (.bool true))]⟩
noncomputable def o828 (P : Params) : Obj:=⟨.type "dict",none,.dict #[dE P "__module__" 1117 (.str "octetmint.operands" 901),dE P "__qualname__" 1119 (.str "Instruction" 1118),dE P "__firstlineno__" 1121 (.int 431 1120),dE P "__init__" 1132 (.ref 706),dE P "told" 1138 (.ref 711),dE P "memory_at" 1147 (.ref 718),dE P "memory" 1155 (.ref 725),dE P "symbols" 1162 (.ref 732),dE P "replaced" 1171 (.ref 739),dE P "__static_attributes__" 1175 (.ref 740)] 10,#[]⟩
noncomputable def o835 : Obj:=⟨.type "code",none,.fields #[.str "__init__" 1123,.str "Instruction.__init__" 1124,.str "/claim/cut.py" 1125,.int 433 0,.int 4 0,.int 0 0,.int 0 0,.int 3 0,.ref 700,.bool true,.int 181 0,.ref 701,.none,.ref 702,.ref 703,.ref 704,.int 1130 0,.int 433 0,.str "/claim/cut.py" 1131],#[]⟩
noncomputable def o838 : Obj:=⟨.type "code",none,.fields #[.str "told" 1133,.str "Instruction.told" 1134,.str "/claim/cut.py" 1135,.int 438 0,.int 1 0,.int 0 0,.int 0 0,.int 3 0,.ref 707,.bool true,.int 181 0,.ref 708,.none,.none,.none,.ref 709,.int 1136 0,.int 438 0,.str "/claim/cut.py" 1137],#[]⟩
noncomputable def o842 : Obj:=⟨.type "code",none,.fields #[.str "memory_at" 1139,.str "Instruction.memory_at" 1140,.str "/claim/cut.py" 1141,.int 441 0,.int 1 0,.int 0 0,.int 0 0,.int 3 0,.ref 712,.bool true,.int 181 0,.ref 713,.none,.ref 714,.ref 715,.ref 716,.int 1145 0,.int 441 0,.str "/claim/cut.py" 1146],#[]⟩
noncomputable def o846 : Obj:=⟨.type "code",none,.fields #[.str "memory" 1148,.str "Instruction.memory" 1149,.str "/claim/cut.py" 1150,.int 447 0,.int 1 0,.int 0 0,.int 0 0,.int 3 0,.ref 719,.bool true,.int 181 0,.ref 720,.none,.ref 721,.ref 722,.ref 723,.int 1153 0,.int 447 0,.str "/claim/cut.py" 1154],#[]⟩
noncomputable def o850 : Obj:=⟨.type "code",none,.fields #[.str "symbols" 1156,.str "Instruction.symbols" 1157,.str "/claim/cut.py" 1158,.int 451 0,.int 1 0,.int 0 0,.int 0 0,.int 3 0,.ref 726,.bool true,.int 181 0,.ref 727,.none,.ref 728,.ref 729,.ref 730,.int 1160 0,.int 451 0,.str "/claim/cut.py" 1161],#[]⟩
noncomputable def o854 : Obj:=⟨.type "code",none,.fields #[.str "replaced" 1163,.str "Instruction.replaced" 1164,.str "/claim/cut.py" 1165,.int 454 0,.int 3 0,.int 0 0,.int 0 0,.int 3 0,.ref 733,.bool true,.int 181 0,.ref 734,.none,.ref 735,.ref 736,.ref 737,.int 1169 0,.int 454 0,.str "/claim/cut.py" 1170],#[]⟩
noncomputable def o860 (P : Params) : Obj:=⟨.type "dict",none,.dict #[dE P "__module__" 1117 (.str "octetmint.operands" 901),dE P "__firstlineno__" 1121 (.int 431 1120),dE P "__init__" 1132 (.ref 706),dE P "told" 1138 (.ref 711),dE P "memory_at" 1147 (.ref 718),dE P "memory" 1155 (.ref 725),dE P "symbols" 1162 (.ref 732),dE P "replaced" 1171 (.ref 739),dE P "__static_attributes__" 1175 (.ref 740),dE P "__dict__" 1177 (.ref 743),dE P "__weakref__" 1179 (.ref 744),dE P "__doc__" 1180 .none] 4,#[]⟩
noncomputable def o861 : Obj:=⟨.type "type",none,.cls ⟨"Instruction",[.type "object"],[.ref 742,.type "object"],741,"Instruction",true,[],[],false,none,false⟩,#[none,none,(some (.str "Instruction" 1110)),(some (.str "Instruction" 1118)),(some (.builtin "object.__new__")),(some (.bool true))]⟩
noncomputable def o868 : Obj:=⟨.type "code",none,.fields #[.str "condition_of" 1185,.str "condition_of" 1186,.str "/claim/cut.py" 1187,.int 457 0,.int 1 0,.int 0 0,.int 0 0,.int 3 0,.ref 747,.bool true,.int 181 0,.ref 748,.none,.ref 749,.ref 750,.ref 751,.int 1190 0,.int 457 0,.str "/claim/cut.py" 1191],#[]⟩
noncomputable def o872 : Obj:=⟨.type "code",none,.fields #[.str "string_stem" 1193,.str "string_stem" 1194,.str "/claim/cut.py" 1195,.int 462 0,.int 1 0,.int 0 0,.int 0 0,.int 3 0,.ref 754,.bool true,.int 181 0,.ref 755,.none,.ref 756,.ref 757,.ref 758,.int 1198 0,.int 462 0,.str "/claim/cut.py" 1199],#[]⟩
noncomputable def o876 : Obj:=⟨.type "code",none,.fields #[.str "where_next" 1201,.str "where_next" 1202,.str "/claim/cut.py" 1203,.int 468 0,.int 1 0,.int 0 0,.int 0 0,.int 3 0,.ref 761,.bool true,.int 181 0,.ref 762,.none,.ref 763,.ref 764,.ref 765,.int 1205 0,.int 468 0,.str "/claim/cut.py" 1206],#[]⟩
noncomputable def o880 : Obj:=⟨.type "code",none,.fields #[.str "exchange" 1236,.str "exchange" 1237,.str "/claim/cut.py" 1238,.int 494 0,.int 4 0,.int 0 0,.int 0 0,.int 3 0,.ref 768,.bool true,.int 181 0,.ref 769,.none,.ref 770,.ref 771,.ref 772,.int 1245 0,.int 494 0,.str "/claim/cut.py" 1246],#[]⟩
noncomputable def o884 : Obj:=⟨.type "code",none,.fields #[.str "move_deed" 1248,.str "move_deed" 1249,.str "/claim/cut.py" 1250,.int 501 0,.int 2 0,.int 0 0,.int 0 0,.int 3 0,.ref 775,.bool true,.int 181 0,.ref 776,.none,.ref 777,.ref 778,.ref 779,.int 1257 0,.int 501 0,.str "/claim/cut.py" 1258],#[]⟩
noncomputable def o913 : Obj:=⟨.type "code",none,.fields #[.str "push_operand" 1260,.str "push_operand" 1261,.str "/claim/cut.py" 1262,.int 517 0,.int 2 0,.int 0 0,.int 0 0,.int 3 0,.ref 782,.bool true,.int 181 0,.ref 783,.none,.ref 784,.ref 785,.ref 786,.int 1267 0,.int 517 0,.str "/claim/cut.py" 1268],#[]⟩
noncomputable def o917 : Obj:=⟨.type "code",none,.fields #[.str "pop_operand" 1270,.str "pop_operand" 1271,.str "/claim/cut.py" 1272,.int 521 0,.int 2 0,.int 0 0,.int 0 0,.int 3 0,.ref 789,.bool true,.int 181 0,.ref 790,.none,.ref 791,.ref 792,.ref 793,.int 1278 0,.int 521 0,.str "/claim/cut.py" 1279],#[]⟩
noncomputable def o921 : Obj:=⟨.type "code",none,.fields #[.str "stack_deed" 1281,.str "stack_deed" 1282,.str "/claim/cut.py" 1283,.int 526 0,.int 2 0,.int 0 0,.int 0 0,.int 3 0,.ref 796,.bool true,.int 181 0,.ref 797,.none,.ref 798,.ref 799,.ref 800,.int 1287 0,.int 526 0,.str "/claim/cut.py" 1288],#[]⟩
noncomputable def o925 : Obj:=⟨.type "code",none,.fields #[.str "target_of" 1290,.str "target_of" 1291,.str "/claim/cut.py" 1292,.int 542 0,.int 2 0,.int 0 0,.int 0 0,.int 3 0,.ref 803,.bool true,.int 181 0,.ref 804,.none,.ref 805,.ref 806,.ref 807,.int 1295 0,.int 542 0,.str "/claim/cut.py" 1296],#[]⟩
noncomputable def o929 : Obj:=⟨.type "code",none,.fields #[.str "count_down" 1298,.str "count_down" 1299,.str "/claim/cut.py" 1300,.int 548 0,.int 1 0,.int 0 0,.int 0 0,.int 3 0,.ref 810,.bool true,.int 181 0,.ref 811,.none,.ref 812,.ref 813,.ref 814,.int 1302 0,.int 548 0,.str "/claim/cut.py" 1303],#[]⟩
noncomputable def o933 : Obj:=⟨.type "code",none,.fields #[.str "is_taken" 1305,.str "is_taken" 1306,.str "/claim/cut.py" 1307,.int 551 0,.int 2 0,.int 0 0,.int 0 0,.int 3 0,.ref 817,.bool true,.int 181 0,.ref 818,.none,.ref 819,.ref 820,.ref 821,.int 1310 0,.int 551 0,.str "/claim/cut.py" 1311],#[]⟩
noncomputable def o937 : Obj:=⟨.type "code",none,.fields #[.str "jump_deed" 1313,.str "jump_deed" 1314,.str "/claim/cut.py" 1315,.int 563 0,.int 2 0,.int 0 0,.int 0 0,.int 3 0,.ref 824,.bool true,.int 181 0,.ref 825,.none,.ref 826,.ref 827,.ref 828,.int 1320 0,.int 563 0,.str "/claim/cut.py" 1321],#[]⟩
noncomputable def o941 : Obj:=⟨.type "code",none,.fields #[.str "go_on" 1323,.str "go_on" 1324,.str "/claim/cut.py" 1325,.int 580 0,.int 3 0,.int 0 0,.int 0 0,.int 3 0,.ref 831,.bool true,.int 181 0,.ref 832,.none,.ref 833,.ref 834,.ref 835,.int 1330 0,.int 580 0,.str "/claim/cut.py" 1331],#[]⟩
noncomputable def o945 : Obj:=⟨.type "code",none,.fields #[.str "string_round" 1333,.str "string_round" 1334,.str "/claim/cut.py" 1335,.int 583 0,.int 3 0,.int 0 0,.int 0 0,.int 3 0,.ref 838,.bool true,.int 181 0,.ref 839,.none,.ref 840,.ref 841,.ref 842,.int 1342 0,.int 583 0,.str "/claim/cut.py" 1343],#[]⟩
noncomputable def o949 : Obj:=⟨.type "code",none,.fields #[.str "is_last" 1345,.str "is_last" 1346,.str "/claim/cut.py" 1347,.int 604 0,.int 3 0,.int 0 0,.int 0 0,.int 3 0,.ref 845,.bool true,.int 181 0,.ref 846,.none,.ref 847,.ref 848,.ref 849,.int 1351 0,.int 604 0,.str "/claim/cut.py" 1352],#[]⟩
noncomputable def o953 : Obj:=⟨.type "code",none,.fields #[.str "string_deed" 1354,.str "string_deed" 1355,.str "/claim/cut.py" 1356,.int 610 0,.int 2 0,.int 0 0,.int 0 0,.int 3 0,.ref 852,.bool true,.int 181 0,.ref 853,.none,.ref 854,.ref 855,.ref 856,.int 1362 0,.int 610 0,.str "/claim/cut.py" 1363],#[]⟩
noncomputable def o957 : Obj:=⟨.type "code",none,.fields #[.str "is_xmm" 1365,.str "is_xmm" 1366,.str "/claim/cut.py" 1367,.int 625 0,.int 1 0,.int 0 0,.int 0 0,.int 3 0,.ref 859,.bool true,.int 181 0,.ref 860,.none,.ref 861,.ref 862,.ref 863,.int 1369 0,.int 625 0,.str "/claim/cut.py" 1370],#[]⟩
noncomputable def o961 : Obj:=⟨.type "code",none,.fields #[.str "need_aligned" 1372,.str "need_aligned" 1373,.str "/claim/cut.py" 1374,.int 627 0,.int 2 0,.int 0 0,.int 0 0,.int 3 0,.ref 866,.bool true,.int 181 0,.ref 867,.none,.ref 868,.ref 869,.ref 870,.int 1377 0,.int 627 0,.str "/claim/cut.py" 1378],#[]⟩
noncomputable def o965 : Obj:=⟨.type "code",none,.fields #[.str "whole_move" 1380,.str "whole_move" 1381,.str "/claim/cut.py" 1382,.int 630 0,.int 4 0,.int 0 0,.int 0 0,.int 3 0,.ref 873,.bool true,.int 181 0,.ref 874,.none,.ref 875,.ref 876,.ref 877,.int 1387 0,.int 630 0,.str "/claim/cut.py" 1388],#[]⟩
noncomputable def o969 : Obj:=⟨.type "code",none,.fields #[.str "part_size" 1390,.str "part_size" 1391,.str "/claim/cut.py" 1392,.int 635 0,.int 1 0,.int 0 0,.int 0 0,.int 3 0,.ref 880,.bool true,.int 181 0,.ref 881,.none,.ref 882,.ref 883,.ref 884,.int 1394 0,.int 635 0,.str "/claim/cut.py" 1395],#[]⟩
noncomputable def o973 : Obj:=⟨.type "code",none,.fields #[.str "part_move" 1397,.str "part_move" 1398,.str "/claim/cut.py" 1399,.int 641 0,.int 5 0,.int 0 0,.int 0 0,.int 3 0,.ref 887,.bool true,.int 181 0,.ref 888,.none,.ref 889,.ref 890,.ref 891,.int 1406 0,.int 641 0,.str "/claim/cut.py" 1407],#[]⟩
noncomputable def o976 : Obj:=⟨.type "code",none,.fields #[.str "lanes" 1409,.str "lanes" 1410,.str "/claim/cut.py" 1411,.int 647 0,.int 2 0,.int 0 0,.int 0 0,.int 3 0,.ref 894,.bool true,.int 181 0,.ref 895,.none,.none,.none,.ref 896,.int 1412 0,.int 647 0,.str "/claim/cut.py" 1413],#[]⟩
noncomputable def o980 : Obj:=⟨.type "code",none,.fields #[.str "joined" 1415,.str "joined" 1416,.str "/claim/cut.py" 1417,.int 649 0,.int 2 0,.int 0 0,.int 0 0,.int 3 0,.ref 899,.bool true,.int 181 0,.ref 900,.none,.ref 901,.ref 902,.ref 903,.int 1422 0,.int 649 0,.str "/claim/cut.py" 1423],#[]⟩
noncomputable def o984 : Obj:=⟨.type "code",none,.fields #[.str "lane_size" 1426,.str "lane_size" 1427,.str "/claim/cut.py" 1428,.int 655 0,.int 1 0,.int 0 0,.int 0 0,.int 3 0,.ref 906,.bool true,.int 181 0,.ref 907,.none,.ref 908,.ref 909,.ref 910,.int 1433 0,.int 655 0,.str "/claim/cut.py" 1434],#[]⟩
noncomputable def o988 : Obj:=⟨.type "code",none,.fields #[.str "lane_worth" 1436,.str "lane_worth" 1437,.str "/claim/cut.py" 1438,.int 660 0,.int 4 0,.int 0 0,.int 0 0,.int 3 0,.ref 913,.bool true,.int 181 0,.ref 914,.none,.ref 915,.ref 916,.ref 917,.int 1443 0,.int 660 0,.str "/claim/cut.py" 1444],#[]⟩
noncomputable def o991 : Obj:=⟨.type "code",none,.fields #[.str "lane_result" 1446,.str "lane_result" 1447,.str "/claim/cut.py" 1448,.int 666 0,.int 4 0,.int 0 0,.int 0 0,.int 3 0,.ref 920,.bool true,.int 181 0,.ref 921,.none,.none,.none,.ref 922,.int 1449 0,.int 666 0,.str "/claim/cut.py" 1450],#[]⟩
noncomputable def o995 : Obj:=⟨.type "code",none,.fields #[.str "bit_result" 1452,.str "bit_result" 1453,.str "/claim/cut.py" 1454,.int 670 0,.int 3 0,.int 0 0,.int 0 0,.int 3 0,.ref 925,.bool true,.int 181 0,.ref 926,.none,.ref 927,.ref 928,.ref 929,.int 1458 0,.int 670 0,.str "/claim/cut.py" 1459],#[]⟩
noncomputable def o1008 (P : Params) : Obj:=⟨.type "dict",none,.dict #[dE P "__name__" 165 (.str "law_qd0115_01" 1494),(dE P "__doc__" 166 .none),(dE P "__package__" 167 .none),(dE P "__loader__" 168 (.builtin "__main__.__loader__#opaque")),(dE P "__spec__" 169 .none),(dE P "__annotations__" 170 (.ref 6)),(dE P "__builtins__" 171 (.ref 4)),(dE P "__file__" 173 (.str "/claim/cut.py" 172)),(dE P "__cached__" 174 .none),(dE P "_wall" 193 (.ref 21)),(dE P "MintError" 233 (.ref 46)),(dE P "OperandError" 249 (.ref 59)),(dE P "MachineError" 265 (.ref 71)),(dE P "mask" 272 (.ref 80)),(dE P "wrap" 280 (.ref 87)),(dE P "bit" 288 (.ref 94)),(dE P "ones" 298 (.ref 101)),(dE P "parity" 305 (.ref 108)),(dE P "CONDITIONS" 309 (.str "o no b ae e ne be a s ns p np l ge le g" 308)),(dE P "condition_names" 315 (.ref 115)),(dE P "CF" 319 (.int 0 318)),(dE P "PF" 321 (.int 2 320)),(dE P "AF" 323 (.int 4 322)),(dE P "ZF" 325 (.int 6 324)),(dE P "SF" 327 (.int 7 326)),(dE P "DF" 329 (.int 10 328)),(dE P "OF" 331 (.int 11 330)),(dE P "FLAG_NAMES" 333 (.str "cf pf af zf sf of df" 332)),(dE P "Flags" 434 (.ref 188)),(dE P "condition_number" 441 (.ref 199)),(dE P "holds_number" 451 (.ref 206)),(dE P "holds" 459 (.ref 213)),(dE P "szp" 469 (.ref 220)),(dE P "sub_flags" 484 (.ref 227)),(dE P "NAMES_8" 488 (.str "al cl dl bl spl bpl sil dil" 487)),(dE P "NAMES_16" 490 (.str "ax cx dx bx sp bp si di" 489)),(dE P "NAMES_32" 492 (.str "eax ecx edx ebx esp ebp esi edi" 491)),(dE P "NAMES_64" 494 (.str "rax rcx rdx rbx rsp rbp rsi rdi" 493)),(dE P "Register" 564 (.ref 279)),(dE P "early_names" 571 (.ref 290)),(dE P "late_ending" 578 (.ref 297)),(dE P "gpr" 587 (.ref 304)),(dE P "STACK" 591 (.int 4 590)),(dE P "TRAPS" 593 (.str "ud2 int int3 syscall cpuid" 592)),(dE P "Memory" 717 (.ref 394)),dE P "joined" 726 (.ref 905),(dE P "joined_machine" 727 (.ref 405)),(dE P "State" 880 (.ref 511)),(dE P "done" 890 (.ref 522)),(dE P "perform" 900 (.ref 529)),(dE P "Operand" 952 (.ref 567)),(dE P "Reg" 991 (.ref 602)),(dE P "Imm" 1033 (.ref 636)),(dE P "Mem" 1109 (.ref 689)),(dE P "Instruction" 1182 (.ref 742)),(dE P "condition_of" 1192 (.ref 753)),(dE P "string_stem" 1200 (.ref 760)),(dE P "where_next" 1207 (.ref 767)),(dE P "RAX" 1211 (.int 0 1210)),(dE P "RCX" 1213 (.int 1 1212)),(dE P "RSP" 1215 (.int 4 1214)),(dE P "RBP" 1217 (.int 5 1216)),(dE P "RSI" 1219 (.int 6 1218)),(dE P "RDI" 1221 (.int 7 1220)),(dE P "ALL_LANES" 1227 (.int 340282366920938463463374607431768211455 1226)),(dE P "LETTERS" 1229 (.str "bwdq" 1228)),(dE P "WHOLE_MOVES" 1231 (.str "movaps movups movdqa movdqu" 1230)),(dE P "ALIGNED_MOVES" 1233 (.str "movaps movdqa" 1232)),(dE P "BIT_NAMES" 1235 (.str "pxor por pand pandn xorps orps andps" 1234)),(dE P "exchange" 1247 (.ref 774)),(dE P "move_deed" 1259 (.ref 781)),dE P "push_operand" 1269 (.ref 788),dE P "pop_operand" 1280 (.ref 795),dE P "stack_deed" 1289 (.ref 802),dE P "target_of" 1297 (.ref 809),dE P "count_down" 1304 (.ref 816),dE P "is_taken" 1312 (.ref 823),dE P "jump_deed" 1322 (.ref 830),dE P "go_on" 1332 (.ref 837),dE P "string_round" 1344 (.ref 844),dE P "is_last" 1353 (.ref 851),dE P "string_deed" 1364 (.ref 858),dE P "is_xmm" 1371 (.ref 865),dE P "need_aligned" 1379 (.ref 872),dE P "whole_move" 1389 (.ref 879),dE P "part_size" 1396 (.ref 886),dE P "part_move" 1408 (.ref 893),dE P "lanes" 1414 (.ref 898),dE P "joined_transfers" 1425 (.ref 905),dE P "lane_size" 1435 (.ref 912),dE P "lane_worth" 1445 (.ref 919),dE P "lane_result" 1451 (.ref 924),dE P "bit_result" 1460 (.ref 931),dE P "vector_move" 1471 (.ref 938),dE P "vector_deed" 1485 (.ref 945),dE P "transfer_deed" 1493 (.ref 952),dE P "_law_base" 1501 (.ref 959),dE P "_law_pen" 1510 (.ref 966),dE P "_law_take" 1519 (.ref 973),dE P "_law_row" 1531 (.ref 980),dE P "_law_state" 1541 (.ref 987),dE P "_law_refused" 1549 (.ref 994),dE P "law" 1555 (.ref 999)] 103,#[]⟩
noncomputable def o1009 : Obj:=⟨.none,none,.fields #[.int 1 0,.int 0 0,.ref 20,.int 5 0,.int 0 0,.ref 27,.int 16 0,.int 0 0,.ref 55,.int 18 0,.int 0 0,.ref 67,.int 20 0,.int 0 0,.ref 79,.int 22 0,.int 0 0,.ref 86,.int 24 0,.int 0 0,.ref 93,.int 26 0,.int 0 0,.ref 100,.int 33 0,.int 0 0,.ref 107,.int 37 0,.int 0 0,.ref 114,.int 48 0,.int 0 0,.ref 121,.int 99 0,.int 0 0,.ref 198,.int 103 0,.int 0 0,.ref 205,.int 122 0,.int 0 0,.ref 212,.int 124 0,.int 0 0,.ref 219,.int 130 0,.int 0 0,.ref 226,.int 143 0,.int 0 0,.ref 233,.int 165 0,.int 0 0,.ref 289,.int 175 0,.int 0 0,.ref 296,.int 183 0,.int 0 0,.ref 303,.int 193 0,.int 0 0,.ref 310,.int 241 0,.int 0 0,.ref 404,.int 246 0,.int 0 0,.ref 411,.int 351 0,.int 0 0,.ref 521,.int 361 0,.int 0 0,.ref 528,.int 367 0,.int 0 0,.ref 535,.int 380 0,.int 0 0,.ref 577,.int 391 0,.int 0 0,.ref 610,.int 403 0,.int 0 0,.ref 644,.int 431 0,.int 0 0,.ref 697,.int 457 0,.int 0 0,.ref 752,.int 462 0,.int 0 0,.ref 759,.int 468 0,.int 0 0,.ref 766,.int 494 0,.int 0 0,.ref 773,.int 501 0,.int 0 0,.ref 780,.int 517 0,.int 0 0,.ref 787,.int 521 0,.int 0 0,.ref 794,.int 526 0,.int 0 0,.ref 801,.int 542 0,.int 0 0,.ref 808,.int 548 0,.int 0 0,.ref 815,.int 551 0,.int 0 0,.ref 822,.int 563 0,.int 0 0,.ref 829,.int 580 0,.int 0 0,.ref 836,.int 583 0,.int 0 0,.ref 843,.int 604 0,.int 0 0,.ref 850,.int 610 0,.int 0 0,.ref 857,.int 625 0,.int 0 0,.ref 864,.int 627 0,.int 0 0,.ref 871,.int 630 0,.int 0 0,.ref 878,.int 635 0,.int 0 0,.ref 885,.int 641 0,.int 0 0,.ref 892,.int 647 0,.int 0 0,.ref 897,.int 649 0,.int 0 0,.ref 904,.int 655 0,.int 0 0,.ref 911,.int 660 0,.int 0 0,.ref 918,.int 666 0,.int 0 0,.ref 923,.int 670 0,.int 0 0,.ref 930,.int 678 0,.int 0 0,.ref 937,.int 687 0,.int 0 0,.ref 944,.int 705 0,.int 0 0,.ref 951,.int 712 0,.int 0 0,.ref 958,.int 714 0,.int 0 0,.ref 965,.int 719 0,.int 0 0,.ref 972,.int 727 0,.int 0 0,.ref 979,.int 739 0,.int 0 0,.ref 986,.int 747 0,.int 0 0,.ref 993,.int 753 0,.int 0 0,.ref 998],#[]⟩
noncomputable def o1012 : Obj:=⟨.type "code",none,.fields #[.str "vector_move" 1461,.str "vector_move" 1462,.str "/claim/cut.py" 1463,.int 678 0,.int 4 0,.int 0 0,.int 0 0,.int 3 0,.ref 932,.bool true,.int 181 0,.ref 933,.none,.ref 934,.ref 935,.ref 936,.int 1469 0,.int 678 0,.str "/claim/cut.py" 1470],#[]⟩
noncomputable def o1014 : Obj:=⟨.type "tuple",none,.seq #[.str "state" 1475,.str "instruction" 1476,.str "name" 1477,.str "one" 1478,.str "other" 1479,.str "size" 1480,.str "first" 1481,.str "second" 1482] 0,#[]⟩
noncomputable def o1016 : Obj:=⟨.type "code",none,.fields #[.str "vector_deed" 1472,.str "vector_deed" 1473,.str "/claim/cut.py" 1474,.int 687 0,.int 2 0,.int 0 0,.int 0 0,.int 3 0,.ref 939,.bool true,.int 181 0,.ref 940,.none,.ref 941,.ref 942,.ref 943,.int 1483 0,.int 687 0,.str "/claim/cut.py" 1484],#[]⟩
noncomputable def o1020 : Obj:=⟨.type "code",none,.fields #[.str "transfer_deed" 1486,.str "transfer_deed" 1487,.str "/claim/cut.py" 1488,.int 705 0,.int 2 0,.int 0 0,.int 0 0,.int 3 0,.ref 946,.bool true,.int 181 0,.ref 947,.none,.ref 948,.ref 949,.ref 950,.int 1491 0,.int 705 0,.str "/claim/cut.py" 1492],#[]⟩
noncomputable def o1023 : Obj:=⟨.type "code",none,.fields #[.str "_law_base" 1496,.str "_law_base" 1497,.str "/claim/cut.py" 1498,.int 712 0,.int 0 0,.int 0 0,.int 0 0,.int 3 0,.ref 953,.bool true,.int 181 0,.ref 954,.none,.ref 955,.ref 956,.ref 957,.int 1499 0,.int 712 0,.str "/claim/cut.py" 1500],#[]⟩
noncomputable def o1027 : Obj:=⟨.type "code",none,.fields #[.str "_law_pen" 1502,.str "_law_pen" 1503,.str "/claim/cut.py" 1504,.int 714 0,.int 1 0,.int 0 0,.int 0 0,.int 3 0,.ref 960,.bool true,.int 181 0,.ref 961,.none,.ref 962,.ref 963,.ref 964,.int 1508 0,.int 714 0,.str "/claim/cut.py" 1509],#[]⟩
noncomputable def o1031 : Obj:=⟨.type "code",none,.fields #[.str "_law_take" 1511,.str "_law_take" 1512,.str "/claim/cut.py" 1513,.int 719 0,.int 2 0,.int 0 0,.int 0 0,.int 3 0,.ref 967,.bool true,.int 181 0,.ref 968,.none,.ref 969,.ref 970,.ref 971,.int 1517 0,.int 719 0,.str "/claim/cut.py" 1518],#[]⟩
noncomputable def o1035 : Obj:=⟨.type "code",none,.fields #[.str "_law_row" 1520,.str "_law_row" 1521,.str "/claim/cut.py" 1522,.int 727 0,.int 1 0,.int 0 0,.int 0 0,.int 3 0,.ref 974,.bool true,.int 181 0,.ref 975,.none,.ref 976,.ref 977,.ref 978,.int 1529 0,.int 727 0,.str "/claim/cut.py" 1530],#[]⟩
noncomputable def o1039 : Obj:=⟨.type "code",none,.fields #[.str "_law_state" 1532,.str "_law_state" 1533,.str "/claim/cut.py" 1534,.int 739 0,.int 1 0,.int 0 0,.int 0 0,.int 3 0,.ref 981,.bool true,.int 181 0,.ref 982,.none,.ref 983,.ref 984,.ref 985,.int 1539 0,.int 739 0,.str "/claim/cut.py" 1540],#[]⟩
noncomputable def o1043 : Obj:=⟨.type "code",none,.fields #[.str "_law_refused" 1542,.str "_law_refused" 1543,.str "/claim/cut.py" 1544,.int 747 0,.int 2 0,.int 0 0,.int 0 0,.int 3 0,.ref 988,.bool true,.int 181 0,.ref 989,.none,.ref 990,.ref 991,.ref 992,.int 1547 0,.int 747 0,.str "/claim/cut.py" 1548],#[]⟩
noncomputable def o1046 : Obj:=⟨.type "code",none,.fields #[.str "law" 1550,.str "law" 1551,.str "/claim/cut.py" 1552,.int 753 0,.int 1 0,.int 0 0,.int 0 0,.int 3 0,.ref 995,.bool true,.int 181 0,.ref 996,.none,.none,.none,.ref 997,.int 1553 0,.int 753 0,.str "/claim/cut.py" 1554],#[]⟩
noncomputable def heapA (P : Params) : Heap:=⟨#[(o159 P),(o162 P),(⟨.none,none,.dict #[] 0,#[]⟩),(o173 P),(⟨.type "module",(some 0),.plain,#[]⟩),(⟨.type "module",(some 3),.plain,#[]⟩),(⟨.type "dict",none,.dict #[] 0,#[]⟩),o177,o178,o179,o180,o177,o178,o181,o182],{}⟩
noncomputable def tree0 (P : Params) : BT:=(n (o159 P) (n (o162 P) (n (o173 P) (y o177) (y o177)) (n (⟨.type "module",(some 3),.plain,#[]⟩) (y o179) (y o181))) (n (⟨.none,none,.dict #[] 0,#[]⟩) (n (⟨.type "module",(some 0),.plain,#[]⟩) (y o178) (y o178)) (n (⟨.type "dict",none,.dict #[] 0,#[]⟩) (y o180) (y o182))))
noncomputable def sts6 : List Stmt:=(allS.drop 0).take 45
noncomputable def sts12 : List Stmt:=(allS.drop 45).take 59
noncomputable def tree6 (P : Params) : BT:=(n (o159 P) (n (o162 P) (n (⟨.type "dict",none,.dict #[(dE P "__name__" 165 (.str "octetmint.machine" 588)),(dE P "__doc__" 166 .none),(dE P "__package__" 167 .none),(dE P "__loader__" 168 (.builtin "__main__.__loader__#opaque")),(dE P "__spec__" 169 .none),(dE P "__annotations__" 170 (.ref 6)),(dE P "__builtins__" 171 (.ref 4)),(dE P "__file__" 173 (.str "/claim/cut.py" 172)),(dE P "__cached__" 174 .none),(dE P "_wall" 193 (.ref 21)),(dE P "MintError" 233 (.ref 46)),(dE P "OperandError" 249 (.ref 59)),(dE P "MachineError" 265 (.ref 71)),(dE P "mask" 272 (.ref 80)),(dE P "wrap" 280 (.ref 87)),(dE P "bit" 288 (.ref 94)),(dE P "ones" 298 (.ref 101)),(dE P "parity" 305 (.ref 108)),(dE P "CONDITIONS" 309 (.str "o no b ae e ne be a s ns p np l ge le g" 308)),(dE P "condition_names" 315 (.ref 115)),(dE P "CF" 319 (.int 0 318)),(dE P "PF" 321 (.int 2 320)),(dE P "AF" 323 (.int 4 322)),(dE P "ZF" 325 (.int 6 324)),(dE P "SF" 327 (.int 7 326)),(dE P "DF" 329 (.int 10 328)),(dE P "OF" 331 (.int 11 330)),(dE P "FLAG_NAMES" 333 (.str "cf pf af zf sf of df" 332)),(dE P "Flags" 434 (.ref 188)),(dE P "condition_number" 441 (.ref 199)),(dE P "holds_number" 451 (.ref 206)),(dE P "holds" 459 (.ref 213)),(dE P "szp" 469 (.ref 220)),(dE P "sub_flags" 484 (.ref 227)),(dE P "NAMES_8" 488 (.str "al cl dl bl spl bpl sil dil" 487)),(dE P "NAMES_16" 490 (.str "ax cx dx bx sp bp si di" 489)),(dE P "NAMES_32" 492 (.str "eax ecx edx ebx esp ebp esi edi" 491)),(dE P "NAMES_64" 494 (.str "rax rcx rdx rbx rsp rbp rsi rdi" 493)),(dE P "Register" 564 (.ref 279)),(dE P "early_names" 571 (.ref 290)),(dE P "late_ending" 578 (.ref 297)),(dE P "gpr" 587 (.ref 304)),(dE P "STACK" 591 (.int 4 590)),(dE P "TRAPS" 593 (.str "ud2 int int3 syscall cpuid" 592)),(dE P "Memory" 717 (.ref 394)),(dE P "joined" 726 (.ref 405)),(dE P "joined_machine" 727 (.ref 405)),(dE P "State" 880 (.ref 511)),(dE P "done" 890 (.ref 522))] 49,#[]⟩) (n o177 (n o177 (n o178 (n o197 (n (⟨.none,none,.func (fD (M 22 0) "__init__" "Flags.__init__" 0 [] .none .none .none .none none .none .none 0),#[]⟩) (n o423 (y o629) z) (y o523)) (n (⟨.type "super",none,.fields #[.ref 188,.ref 188,.ref 188],#[]⟩) (y o177) (y o178))) (n o177 (n o178 (y o177) (y (⟨.type "tuple",none,.seq #[.str "self" 743,.str "iset" 744] 0,#[]⟩))) (n o385 (y (⟨.none,none,.func (fD (M 40 5) "load" "Memory.load" 0 [] .none .none .none .none none .none .none 0),#[]⟩)) (y o606)))) (n o222 (n o272 (n (⟨.type "function",none,.func (fD (M 22 2) "pack" "Flags.pack" 3 [] .none .none .none (.str "octetmint.flags" 316) none (.ref 142) .none 0),#[]⟩) (y o178) (y o177)) (n o177 (y o495) (y o177))) (n o177 (n o177 (y o456) (y (⟨.none,none,.func (fD (M 43 2) "put" "State.put" 0 [] .none .none .none .none none .none .none 0),#[]⟩))) (n (⟨.none,none,.func (fD (M 33 0) "__init__" "Register.__init__" 0 [] .none .none .none .none none .none .none 0),#[]⟩) (y o177) (y o177))))) (n o197 (n (⟨.type "tuple",none,.seq #[.str "self" 220] 0,#[]⟩) (n o267 (n o329 (n o177 (y o177) z) (y (⟨.type "function",none,.func (fD (M 40 11) "told" "Memory.told" 3 [] .none .none .none (.str "octetmint.machine" 588) none (.ref 390) .none 0),#[]⟩))) (n o372 (y o178) (y (⟨.type "tuple",none,.seq #[.str "self" 795,.str "mem" 796,.str "base" 797] 0,#[]⟩)))) (n o178 (n (⟨.type "tuple",none,.seq #[.str "self" 395,.str "name" 396,.str "names" 397] 0,#[]⟩) (y (⟨.none,none,.func (fD (S 35) "late_ending" "late_ending" 0 [] .none .none .none .none none .none .none 0),#[]⟩)) (y o177)) (n o177 (y o177) (y (⟨.type "function",none,.func (fD (M 43 10) "push" "State.push" 3 [] .none .none .none (.str "octetmint.machine" 588) none (.ref 486) .none 0),#[]⟩))))) (n o231 (n (⟨.type "function",none,.func (fD (S 6) "wrap" "wrap" 3 [] .none .none .none (.str "octetmint.basics" 194) none (.ref 86) .none 0),#[]⟩) (n o177 (y o441) (y o197)) (n o178 (y o177) (y (⟨.none,none,.func (fD (M 43 8) "read" "State.read" 0 [] .none .none .none .none none .none .none 0),#[]⟩)))) (n o177 (n (⟨.none,none,.func (fD (M 22 8) "show" "Flags.show" 0 [] .none .none .none .none none .none .none 0),#[]⟩) (y o482) (y o583)) (n o418 (y (⟨.none,none,.func (fD (M 40 9) "find" "Memory.find" 0 [] .none .none .none .none none .none .none 0),#[]⟩)) (y o178)))))) (n o177 (n (⟨.none,none,.func (fD (S 0) "_wall" "_wall" 0 [] .none .none .none .none none .none .none 0),#[]⟩) (n o211 (n o263 (n o178 (n o177 (y (⟨.type "builtin_function_or_method",none,.fields #[.builtin "object.__init_subclass__",.ref 511],#[]⟩)) z) (y (⟨.type "tuple",none,.seq #[.str "self" 705] 0,#[]⟩))) (n (⟨.type "tuple",none,.seq #[.str "condition" 438] 0,#[]⟩) (y (⟨.none,none,.func (fD (M 40 1) "octet" "Memory.octet" 0 [] .none .none .none .none none .none .none 0),#[]⟩)) (y o590))) (n (⟨.none,none,.func (fD (S 8) "ones" "ones" 0 [] .none .none .none .none none .none .none 0),#[]⟩) (n o345 (y o177) (y o572)) (n (⟨.type "function",none,.func (fD (S 27) "sub_flags" "sub_flags" 3 [] .none .none .none (.str "octetmint.flags" 316) none (.ref 226) .none 0),#[]⟩) (y o178) (y (⟨.type "tuple",none,.seq #[.str "self" 833,.str "worth" 834,.str "width" 835] 0,#[]⟩))))) (n o197 (n (⟨.type "tuple",none,.seq #[.str "worth" 276,.str "size" 277] 0,#[]⟩) (n o177 (y o434) (y (⟨.none,none,.func (fD (S 41) "joined" "joined" 0 [] .none .none .none .none none .none .none 0),#[]⟩))) (n (⟨.none,none,.func (fD (S 25) "holds" "holds" 0 [] .none .none .none .none none .none .none 0),#[]⟩) (y (⟨.type "function",none,.func (fD (M 40 3) "read" "Memory.read" 3 [] .none .none .none (.str "octetmint.machine" 588) none (.ref 338) .none 0),#[]⟩)) (y o177))) (n o292 (n o177 (y (o479 P)) (y o178)) (n o178 (y o177) (y (⟨.none,none,.func (fD (M 43 12) "told" "State.told" 0 [] .none .none .none .none none .none .none 0),#[]⟩)))))) (n o206 (n (⟨.type "function",none,.func (fD (M 2 1) "told" "MintError.told" 3 [] .none .none .none (.str "octetmint.basics" 194) none (.ref 42) .none 0),#[]⟩) (n o178 (n (⟨.type "tuple",none,.seq #[.str "self" 363,.str "low" 364] 0,#[]⟩) (y (⟨.none,none,.func (fD (M 33 4) "needs_rex" "Register.needs_rex" 0 [] .none .none .none .none none .none .none 0),#[]⟩)) (y o535)) (n o177 (y o493) (y (⟨.type "function",none,.func (fD (M 43 6) "place" "State.place" 3 [] .none .none .none (.str "octetmint.machine" 588) none (.ref 458) .none 0),#[]⟩)))) (n o288 (n (⟨.type "function",none,.func (fD (M 22 6) "get" "Flags.get" 3 [] .none .none .none (.str "octetmint.flags" 316) none (.ref 170) .none 0),#[]⟩) (y o178) (y o177)) (n o177 (y o512) (y o177)))) (n o235 (n o177 (n (⟨.none,none,.func (fD (M 22 4) "unpack_low" "Flags.unpack_low" 0 [] .none .none .none .none none .none .none 0),#[]⟩) (y (⟨.type "builtin_function_or_method",none,.fields #[.builtin "object.__init_subclass__",.ref 279],#[]⟩)) (y o567)) (n o383 (y o177) (y o178))) (n o177 (n (o363 P) (y o177) (y (⟨.none,none,.func (fD (M 43 4) "registers" "State.registers" 0 [] .none .none .none .none none .none .none 0),#[]⟩))) (n (⟨.type "tuple",none,.seq #[.str "self" 528] 0,#[]⟩) (y o178) (y o622))))))) (n (⟨.type "module",(some 3),.plain,#[]⟩) (n o179 (n (⟨.type "tuple",none,.seq #[.str "k" 190] 0,#[]⟩) (n o177 (n o177 (n o326 (n o178 (y o631) z) (y o177)) (n o177 (y (⟨.type "tuple",none,.seq #[.str "self" 616,.str "place" 617] 0,#[]⟩)) (y o177))) (n o282 (n o177 (y o448) (y (⟨.none,none,.func (fD (M 43 0) "__init__" "State.__init__" 0 [] .none .none .none .none none .none .none 0),#[]⟩))) (n (⟨.none,none,.func (fD (S 27) "sub_flags" "sub_flags" 0 [] .none .none .none .none none .none .none 0),#[]⟩) (y (⟨.type "function",none,.func (fD (M 40 5) "load" "Memory.load" 3 [] .none .none .none (.str "octetmint.machine" 588) none (.ref 352) .none 0),#[]⟩)) (y o177)))) (n (⟨.type "builtin_function_or_method",none,.fields #[.builtin "object.__init_subclass__",.ref 46],#[]⟩) (n o177 (n o178 (y o177) (y (⟨.type "tuple",none,.seq #[.str "old" 721,.str "worth" 722,.str "size" 723] 0,#[]⟩))) (n (⟨.type "tuple",none,.seq #[.str "flags" 455,.str "condition" 456] 0,#[]⟩) (y (⟨.none,none,.func (fD (M 40 3) "read" "Memory.read" 0 [] .none .none .none .none none .none .none 0),#[]⟩)) (y o598))) (n (⟨.none,none,.func (fD (S 12) "condition_names" "condition_names" 0 [] .none .none .none .none none .none .none 0),#[]⟩) (n o353 (y o177) (y (⟨.type "function",none,.func (fD (M 43 2) "put" "State.put" 3 [] .none .none .none (.str "octetmint.machine" 588) none (.ref 432) .none 0),#[]⟩))) (n o415 (y o515) (y (⟨.type "tuple",none,.seq #[.str "self" 851,.str "bases" 852] 0,#[]⟩)))))) (n o177 (n (⟨.none,none,.func (fD (M 2 1) "told" "MintError.told" 0 [] .none .none .none .none none .none .none 0),#[]⟩) (n (⟨.type "builtin_function_or_method",none,.fields #[.builtin "object.__init_subclass__",.ref 71],#[]⟩) (n o177 (n (⟨.type "tuple",none,.seq #[.str "self" 542] 0,#[]⟩) (y o636) z) (y (o533 P))) (n o178 (y o177) (y (⟨.none,none,.func (fD (M 43 6) "place" "State.place" 0 [] .none .none .none .none none .none .none 0),#[]⟩)))) (n o177 (n (⟨.none,none,.func (fD (M 22 6) "get" "Flags.get" 0 [] .none .none .none .none none .none .none 0),#[]⟩) (y o453) (y o575)) (n o410 (y (⟨.none,none,.func (fD (M 40 7) "written" "Memory.written" 0 [] .none .none .none .none none .none .none 0),#[]⟩)) (y o178)))) (n o177 (n o178 (n (⟨.type "tuple",none,.seq #[.str "self" 379,.str "octet" 380] 0,#[]⟩) (y o443) (y o177)) (n o177 (y o501) (y (⟨.type "function",none,.func (fD (M 43 8) "read" "State.read" 3 [] .none .none .none (.str "octetmint.machine" 588) none (.ref 472) .none 0),#[]⟩)))) (n o321 (n (⟨.type "function",none,.func (fD (M 22 8) "show" "Flags.show" 3 [] .none .none .none (.str "octetmint.flags" 316) none (.ref 184) .none 0),#[]⟩) (y o178) (y o177)) (n o177 (y (⟨.type "function",none,.func (fD (M 40 9) "find" "Memory.find" 3 [] .none .none .none (.str "octetmint.machine" 588) none (.ref 376) .none 0),#[]⟩)) (y o177)))))) (n o181 (n (⟨.type "function",none,.func (fD (S 0) "_wall" "_wall" 3 [] .none .none .none (.str "__main__" 164) none (.ref 20) .none 0),#[]⟩) (n o177 (n o177 (n o177 (n o426 (y o178) z) (y (⟨.none,none,.func (fD (M 40 11) "told" "Memory.told" 0 [] .none .none .none .none none .none .none 0),#[]⟩))) (n (⟨.none,none,.func (fD (S 23) "condition_number" "condition_number" 0 [] .none .none .none .none none .none .none 0),#[]⟩) (y (⟨.type "function",none,.func (fD (M 40 1) "octet" "Memory.octet" 3 [] .none .none .none (.str "octetmint.machine" 588) none (.ref 324) .none 0),#[]⟩)) (y o177))) (n (⟨.type "function",none,.func (fD (S 8) "ones" "ones" 3 [] .none .none .none (.str "octetmint.basics" 194) none (.ref 100) .none 0),#[]⟩) (n o177 (y (⟨.type "tuple",none,.seq #[.str "size" 575] 0,#[]⟩)) (y o178)) (n o197 (y o508) (y (⟨.none,none,.func (fD (M 43 10) "push" "State.push" 0 [] .none .none .none .none none .none .none 0),#[]⟩))))) (n o177 (n (⟨.none,none,.func (fD (S 6) "wrap" "wrap" 0 [] .none .none .none .none none .none .none 0),#[]⟩) (n o337 (y o436) (y (⟨.type "function",none,.func (fD (S 41) "joined" "joined" 3 [] .none .none .none (.str "octetmint.machine" 588) none (.ref 404) .none 0),#[]⟩))) (n (⟨.type "function",none,.func (fD (S 25) "holds" "holds" 3 [] .none .none .none (.str "octetmint.flags" 316) none (.ref 212) .none 0),#[]⟩) (y o178) (y (⟨.type "tuple",none,.seq #[.str "self" 814,.str "operand" 815,.str "size" 816] 0,#[]⟩)))) (n o197 (n (⟨.type "tuple",none,.seq #[.str "self" 416] 0,#[]⟩) (y o480) (y o177)) (n o177 (y o517) (y (⟨.type "function",none,.func (fD (M 43 12) "told" "State.told" 3 [] .none .none .none (.str "octetmint.machine" 588) none (.ref 500) .none 0),#[]⟩)))))) (n (⟨.type "tuple",none,.seq #[.none] 0,#[]⟩) (n (o220 P) (n o177 (n (⟨.none,none,.func (fD (M 22 2) "pack" "Flags.pack" 0 [] .none .none .none .none none .none .none 0),#[]⟩) (y o431) (y (⟨.type "super",none,.fields #[.ref 394,.ref 394,.ref 394],#[]⟩))) (n o375 (y o177) (y o178))) (n o177 (n o178 (y o177) (y o577)) (n o412 (y o178) (y o614)))) (n (⟨.type "builtin_function_or_method",none,.fields #[.builtin "object.__init_subclass__",.ref 59],#[]⟩) (n o280 (n o342 (y o178) (y o177)) (n o177 (y o503) (y o177))) (n (⟨.type "tuple",none,.seq #[.str "self" 349] 0,#[]⟩) (n o365 (y o485) (y o587)) (n (⟨.none,none,.func (fD (M 33 2) "is_extended" "Register.is_extended" 0 [] .none .none .none .none none .none .none 0),#[]⟩) (y o177) (y o624)))))))) (n (o185 P) (n (⟨.type "module",(some 0),.plain,#[]⟩) (n o178 (n o178 (n (⟨.type "tuple",none,.seq #[.str "self" 211,.str "what" 212,.str "at" 213] 0,#[]⟩) (n (o262 P) (n o325 (n o177 (y o630) z) (y (⟨.type "function",none,.func (fD (M 40 10) "copy" "Memory.copy" 3 [] .none .none .none (.str "octetmint.machine" 588) none (.ref 383) .none 0),#[]⟩))) (n (⟨.type "builtin_function_or_method",none,.fields #[.builtin "object.__init_subclass__",.ref 188],#[]⟩) (y o178) (y (⟨.type "tuple",none,.seq #[.str "self" 786,.str "mem" 787,.str "total" 788] 0,#[]⟩)))) (n o178 (n (⟨.type "tuple",none,.seq #[.str "self" 387,.str "found" 388] 0,#[]⟩) (y (⟨.none,none,.func (fD (S 34) "early_names" "early_names" 0 [] .none .none .none .none none .none .none 0),#[]⟩)) (y o177)) (n o177 (y o505) (y (⟨.type "function",none,.func (fD (M 43 9) "write" "State.write" 3 [] .none .none .none (.str "octetmint.machine" 588) none (.ref 479) .none 0),#[]⟩))))) (n (⟨.type "super",none,.fields #[.ref 46,.ref 46,.ref 46],#[]⟩) (n (⟨.type "function",none,.func (fD (S 5) "mask" "mask" 3 [] .none .none .none (.str "octetmint.basics" 194) none (.ref 79) .none 0),#[]⟩) (n o177 (y (⟨.type "tuple",none,.seq #[.str "self" 549] 0,#[]⟩)) (y o178)) (n o178 (y o177) (y (⟨.none,none,.func (fD (M 43 7) "size_of" "State.size_of" 0 [] .none .none .none .none none .none .none 0),#[]⟩)))) (n o177 (n (⟨.none,none,.func (fD (M 22 7) "put" "Flags.put" 0 [] .none .none .none .none none .none .none 0),#[]⟩) (y (⟨.type "function",none,.func (fD (S 36) "gpr" "gpr" 3 [] .none .none .none (.str "octetmint.registers" 485) none (.ref 303) .none 0),#[]⟩)) (y o579)) (n o414 (y (⟨.none,none,.func (fD (M 40 8) "spans" "Memory.spans" 0 [] .none .none .none .none none .none .none 0),#[]⟩)) (y o178))))) (n (o204 P) (n o177 (n (⟨.type "super",none,.fields #[.ref 71,.ref 71,.ref 71],#[]⟩) (n (⟨.type "function",none,.func (fD (M 22 1) "told" "Flags.told" 3 [] .none .none .none (.str "octetmint.flags" 316) none (.ref 135) .none 0),#[]⟩) (n o178 (y (⟨.none,none,.func (fD (S 44) "done" "done" 0 [] .none .none .none .none none .none .none 0),#[]⟩)) z) (y (⟨.type "tuple",none,.seq #[.str "held" 709] 0,#[]⟩))) (n o177 (y (⟨.type "tuple",none,.seq #[.str "self" 624,.str "place" 625,.str "octet" 626] 0,#[]⟩)) (y o177))) (n (⟨.type "tuple",none,.seq #[.str "worth" 302] 0,#[]⟩) (n o177 (y o452) (y (⟨.none,none,.func (fD (M 43 1) "get" "State.get" 0 [] .none .none .none .none none .none .none 0),#[]⟩))) (n o409 (y o178) (y o177)))) (n (⟨.type "frame",none,.plain,#[(some (.ref 55)),(some (.ref 3)),(some (.ref 52)),none,(some (.str "octetmint.basics" 194)),none,(some (.ref 0))]⟩) (n o177 (n o178 (y o442) (y (o565 P))) (n o381 (y (⟨.none,none,.func (fD (M 40 4) "write" "Memory.write" 0 [] .none .none .none .none none .none .none 0),#[]⟩)) (y o602))) (n o320 (n o357 (y o177) (y o584)) (n (⟨.type "function",none,.func (fD (M 33 1) "code" "Register.code" 3 [] .none .none .none (.str "octetmint.registers" 485) none (.ref 247) .none 0),#[]⟩) (y o519) (y (⟨.type "tuple",none,.seq #[.str "self" 859,.str "other" 860] 0,#[]⟩))))))) (n (⟨.none,none,.fields #[.int 1 0,.int 0 0,.ref 20,.int 5 0,.int 0 0,.ref 27,.int 16 0,.int 0 0,.ref 55,.int 18 0,.int 0 0,.ref 67,.int 20 0,.int 0 0,.ref 79,.int 22 0,.int 0 0,.ref 86,.int 24 0,.int 0 0,.ref 93,.int 26 0,.int 0 0,.ref 100,.int 33 0,.int 0 0,.ref 107,.int 37 0,.int 0 0,.ref 114,.int 48 0,.int 0 0,.ref 121,.int 99 0,.int 0 0,.ref 198,.int 103 0,.int 0 0,.ref 205,.int 122 0,.int 0 0,.ref 212,.int 124 0,.int 0 0,.ref 219,.int 130 0,.int 0 0,.ref 226,.int 143 0,.int 0 0,.ref 233,.int 165 0,.int 0 0,.ref 289,.int 175 0,.int 0 0,.ref 296,.int 183 0,.int 0 0,.ref 303,.int 193 0,.int 0 0,.ref 310,.int 241 0,.int 0 0,.ref 404,.int 246 0,.int 0 0,.ref 411,.int 351 0,.int 0 0,.ref 521],#[]⟩) (n o194 (n o212 (n (⟨.type "frame",none,.plain,#[(some (.ref 67)),(some (.ref 3)),(some (.ref 64)),none,(some (.str "octetmint.basics" 194)),none,(some (.ref 0))]⟩) (n (⟨.type "tuple",none,.seq #[.str "self" 356] 0,#[]⟩) (n (⟨.none,none,.func (fD (M 33 3) "is_high" "Register.is_high" 0 [] .none .none .none .none none .none .none 0),#[]⟩) (y o177) z) (y o177)) (n o177 (y o489) (y (⟨.type "function",none,.func (fD (M 43 5) "offset" "State.offset" 3 [] .none .none .none (.str "octetmint.machine" 588) none (.ref 451) .none 0),#[]⟩)))) (n o284 (n (⟨.type "function",none,.func (fD (M 22 5) "copy" "Flags.copy" 3 [] .none .none .none (.str "octetmint.flags" 316) none (.ref 163) .none 0),#[]⟩) (y o178) (y o177)) (n o177 (y (⟨.none,none,.func (fD (M 40 6) "octets" "Memory.octets" 0 [] .none .none .none .none none .none .none 0),#[]⟩)) (y o177)))) (n (o230 P) (n o177 (n (⟨.none,none,.func (fD (M 22 3) "unpack" "Flags.unpack" 0 [] .none .none .none .none none .none .none 0),#[]⟩) (y o435) (y o541)) (n o379 (y o177) (y o178))) (n o177 (n o178 (y o177) (y o581)) (n (⟨.type "tuple",none,.seq #[.str "self" 521] 0,#[]⟩) (y o178) (y o618))))) (n (⟨.type "frame",none,.plain,#[(some (.ref 27)),(some (.ref 3)),(some (.ref 24)),none,(some (.str "octetmint.basics" 194)),none,(some (.ref 0))]⟩) (n (⟨.type "tuple",none,.seq #[.str "at" 224,.str "what" 225] 0,#[]⟩) (n (⟨.type "tuple",none,.seq #[.str "size" 269] 0,#[]⟩) (n o177 (y o430) (y o536)) (n (⟨.none,none,.func (fD (S 24) "holds_number" "holds_number" 0 [] .none .none .none .none none .none .none 0),#[]⟩) (y o494) (y o177))) (n (⟨.type "function",none,.func (fD (S 9) "parity" "parity" 3 [] .none .none .none (.str "octetmint.basics" 194) none (.ref 107) .none 0),#[]⟩) (n o177 (y (⟨.type "tuple",none,.seq #[.str "number" 582,.str "size" 583,.str "names" 584] 0,#[]⟩)) (y o178)) (n o178 (y o177) (y (⟨.none,none,.func (fD (M 43 11) "pop" "State.pop" 0 [] .none .none .none .none none .none .none 0),#[]⟩))))) (n (⟨.type "super",none,.fields #[.ref 59,.ref 59,.ref 59],#[]⟩) (n (⟨.none,none,.func (fD (S 7) "bit" "bit" 0 [] .none .none .none .none none .none .none 0),#[]⟩) (n o341 (y o177) (y o568)) (n (⟨.type "function",none,.func (fD (S 26) "szp" "szp" 3 [] .none .none .none (.str "octetmint.flags" 316) none (.ref 219) .none 0),#[]⟩) (y o178) (y o604))) (n o178 (n o364 (y (⟨.none,none,.func (fD (M 40 0) "__init__" "Memory.__init__" 0 [] .none .none .none .none none .none .none 0),#[]⟩)) (y o586)) (n o177 (y (⟨.type "tuple",none,.seq #[.str "self" 696,.str "other" 697,.str "place" 698] 0,#[]⟩)) (y (⟨.type "function",none,.func (fD (M 43 13) "copy" "State.copy" 3 [] .none .none .none (.str "octetmint.machine" 588) none (.ref 507) .none 0),#[]⟩)))))))) (n (⟨.type "dict",none,.dict #[] 0,#[]⟩) (n o180 (n o177 (n (⟨.none,none,.func (fD (M 2 0) "__init__" "MintError.__init__" 0 [] .none .none .none .none none .none .none 0),#[]⟩) (n o178 (n o177 (n (⟨.type "tuple",none,.seq #[.str "self" 535] 0,#[]⟩) (y (⟨.type "super",none,.fields #[.ref 511,.ref 511,.ref 511],#[]⟩)) z) (y o178)) (n o178 (y o177) (y (⟨.none,none,.func (fD (M 43 5) "offset" "State.offset" 0 [] .none .none .none .none none .none .none 0),#[]⟩)))) (n o177 (n (⟨.none,none,.func (fD (M 22 5) "copy" "Flags.copy" 0 [] .none .none .none .none none .none .none 0),#[]⟩) (y o449) (y o571)) (n o387 (y o177) (y o178)))) (n o225 (n o178 (n (⟨.type "tuple",none,.seq #[.str "self" 371,.str "number" 372] 0,#[]⟩) (y (⟨.none,none,.func (fD (M 33 5) "told" "Register.told" 0 [] .none .none .none .none none .none .none 0),#[]⟩)) (y o177)) (n o177 (y o497) (y o599))) (n o291 (n (⟨.type "function",none,.func (fD (M 22 7) "put" "Flags.put" 3 [] .none .none .none (.str "octetmint.flags" 316) none (.ref 177) .none 0),#[]⟩) (y o197) (y o177)) (n o177 (y (⟨.type "function",none,.func (fD (M 40 8) "spans" "Memory.spans" 3 [] .none .none .none (.str "octetmint.machine" 588) none (.ref 369) .none 0),#[]⟩)) (y o177))))) (n (⟨.none,none,.fields #[.int 7 0,.int 4 0,.ref 35,.int 12 0,.int 4 0,.ref 42],#[]⟩) (n o215 (n o177 (n o178 (n o177 (y (⟨.type "function",none,.func (fD (S 44) "done" "done" 3 [] .none .none .none (.str "octetmint.machine" 588) none (.ref 521) .none 0),#[]⟩)) z) (y o534)) (n o373 (y (⟨.none,none,.func (fD (M 40 2) "set_octet" "Memory.set_octet" 0 [] .none .none .none .none none .none .none 0),#[]⟩)) (y o594))) (n (⟨.none,none,.func (fD (S 9) "parity" "parity" 0 [] .none .none .none .none none .none .none 0),#[]⟩) (n o349 (y o177) (y (⟨.type "function",none,.func (fD (M 43 1) "get" "State.get" 3 [] .none .none .none (.str "octetmint.machine" 588) none (.ref 425) .none 0),#[]⟩))) (n o411 (y o511) (y (⟨.type "tuple",none,.seq #[.str "self" 842,.str "width" 843,.str "worth" 844] 0,#[]⟩))))) (n (o234 P) (n (⟨.type "tuple",none,.seq #[.str "worth" 284,.str "n" 285] 0,#[]⟩) (n o177 (y (⟨.type "super",none,.fields #[.ref 279,.ref 279,.ref 279],#[]⟩)) (y o566)) (n (⟨.none,none,.func (fD (S 26) "szp" "szp" 0 [] .none .none .none .none none .none .none 0),#[]⟩) (y (⟨.type "function",none,.func (fD (M 40 4) "write" "Memory.write" 3 [] .none .none .none (.str "octetmint.machine" 588) none (.ref 345) .none 0),#[]⟩)) (y o177))) (n (⟨.type "frame",none,.plain,#[(some (.ref 121)),(some (.ref 3)),(some (.ref 118)),none,(some (.str "octetmint.flags" 316)),none,(some (.ref 0))]⟩) (n o359 (y (⟨.type "tuple",none,.seq #[.str "self" 609] 0,#[]⟩)) (y o178)) (n o178 (y o177) (y (⟨.none,none,.func (fD (M 43 13) "copy" "State.copy" 0 [] .none .none .none .none none .none .none 0),#[]⟩))))))) (n o182 (n (⟨.type "tuple",none,.seq #[.type "Exception"] 0,#[]⟩) (n o178 (n (o266 P) (n (⟨.none,none,.func (fD (M 22 1) "told" "Flags.told" 0 [] .none .none .none .none none .none .none 0),#[]⟩) (n o427 (y o634) z) (y o527)) (n o371 (y o177) (y o178))) (n o177 (n o178 (y o177) (y (⟨.type "tuple",none,.seq #[.str "self" 751,.str "register" 752] 0,#[]⟩))) (n (o408 P) (y o509) (y o610)))) (n o178 (n o276 (n (⟨.type "function",none,.func (fD (M 22 3) "unpack" "Flags.unpack" 3 [] .none .none .none (.str "octetmint.flags" 316) none (.ref 149) .none 0),#[]⟩) (y (o440 P)) (y o177)) (n o177 (y o499) (y o177))) (n (o319 P) (n o177 (y o481) (y (⟨.none,none,.func (fD (M 43 3) "put_low" "State.put_low" 0 [] .none .none .none .none none .none .none 0),#[]⟩))) (n (⟨.none,none,.func (fD (M 33 1) "code" "Register.code" 0 [] .none .none .none .none none .none .none 0),#[]⟩) (y o177) (y o177))))) (n o177 (n o257 (n (⟨.none,none,.func (fD (S 5) "mask" "mask" 0 [] .none .none .none .none none .none .none 0),#[]⟩) (n o333 (y o177) (y (⟨.type "builtin_function_or_method",none,.fields #[.builtin "object.__init_subclass__",.ref 394],#[]⟩))) (n o376 (y o178) (y o596))) (n o178 (n o351 (y (⟨.none,none,.func (fD (S 36) "gpr" "gpr" 0 [] .none .none .none .none none .none .none 0),#[]⟩)) (y o177)) (n o177 (y (⟨.type "tuple",none,.seq #[.str "self" 678] 0,#[]⟩)) (y (⟨.type "function",none,.func (fD (M 43 11) "pop" "State.pop" 3 [] .none .none .none (.str "octetmint.machine" 588) none (.ref 493) .none 0),#[]⟩))))) (n o225 (n (⟨.type "function",none,.func (fD (S 7) "bit" "bit" 3 [] .none .none .none (.str "octetmint.basics" 194) none (.ref 93) .none 0),#[]⟩) (n o177 (y (⟨.type "tuple",none,.seq #[.str "size" 568] 0,#[]⟩)) (y o178)) (n o178 (y o177) (y (⟨.none,none,.func (fD (M 43 9) "write" "State.write" 0 [] .none .none .none .none none .none .none 0),#[]⟩)))) (n o177 (n o366 (y o486) (y o177)) (n o422 (y (⟨.none,none,.func (fD (M 40 10) "copy" "Memory.copy" 0 [] .none .none .none .none none .none .none 0),#[]⟩)) (y (o628 P))))))))))
noncomputable def tree12 (P : Params) : BT:=(n (o159 P) (n (o162 P) (n (o1008 P) (n o177 (n o177 (n o178 (n o197 (n (⟨.none,none,.func (fD (M 22 0) "__init__" "Flags.__init__" 0 [] .none .none .none .none none .none .none 0),#[]⟩) (n o423 (y o629) (y (⟨.type "function",none,.func (fD (S 55) "where_next" "where_next" 3 [] .none .none .none (.str "octetmint.flow" 1183) none (.ref 766) .none 0),#[]⟩))) (n o523 (y o686) (y o178))) (n (⟨.type "super",none,.fields #[.ref 188,.ref 188,.ref 188],#[]⟩) (n o177 (y o177) (y o177)) (n o178 (y o177) (y (⟨.type "function",none,.func (fD (S 97) "_law_base" "_law_base" 3 [] .none .none .none (.str "law_qd0115_01" 1494) none (.ref 958) .none 0),#[]⟩))))) (n o177 (n o178 (n o177 (y (⟨.type "function",none,.func (fD (M 47 0) "__init__" "Operand.__init__" 3 [] .none .none .none (.str "octetmint.operands" 901) none (.ref 542) .none 0),#[]⟩)) (y o177)) (n (⟨.type "tuple",none,.seq #[.str "self" 743,.str "iset" 744] 0,#[]⟩) (y o782) (y (⟨.type "tuple",none,.seq #[.str "name" 1455,.str "one" 1456,.str "other" 1457] 0,#[]⟩)))) (n o385 (n (⟨.none,none,.func (fD (M 40 5) "load" "Memory.load" 0 [] .none .none .none .none none .none .none 0),#[]⟩) (y (⟨.type "dict",none,.dict #[dE P "__module__" 999 (.str "octetmint.operands" 901),dE P "__qualname__" 1001 (.str "Imm" 1000),dE P "__firstlineno__" 1003 (.int 391 1002),dE P "__init__" 1013 (.ref 619),dE P "told" 1020 (.ref 626),dE P "symbol" 1027 (.ref 633),dE P "__static_attributes__" 1030 (.ref 634)] 7,#[]⟩)) (y (⟨.none,none,.func (fD (S 81) "is_xmm" "is_xmm" 0 [] .none .none .none .none none .none .none 0),#[]⟩))) (n o606 (y (⟨.type "tuple",none,.seq #[.str "self" 1166,.str "at" 1167,.str "operand" 1168] 0,#[]⟩)) (y o177))))) (n o222 (n o272 (n (⟨.type "function",none,.func (fD (M 22 2) "pack" "Flags.pack" 3 [] .none .none .none (.str "octetmint.flags" 316) none (.ref 142) .none 0),#[]⟩) (n o178 (y (⟨.none,none,.func (fD (S 45) "perform" "perform" 0 [] .none .none .none .none none .none .none 0),#[]⟩)) (y o178)) (n o177 (y o178) (y o984))) (n o177 (n o495 (y o704) (y (⟨.type "tuple",none,.seq #[.str "state" 1348,.str "sort" 1349,.str "prefix" 1350] 0,#[]⟩))) (n o177 (y o177) (y o178)))) (n o177 (n o177 (n o456 (y o178) (y o929)) (n (⟨.none,none,.func (fD (M 43 2) "put" "State.put" 0 [] .none .none .none .none none .none .none 0),#[]⟩) (y o792) (y (⟨.none,none,.func (fD (S 94) "vector_deed" "vector_deed" 0 [] .none .none .none .none none .none .none 0),#[]⟩)))) (n (⟨.none,none,.func (fD (M 33 0) "__init__" "Register.__init__" 0 [] .none .none .none .none none .none .none 0),#[]⟩) (n o177 (y o177) (y (⟨.type "function",none,.func (fD (S 83) "whole_move" "whole_move" 3 [] .none .none .none (.str "octetmint.transfers" 1208) none (.ref 878) .none 0),#[]⟩))) (n o177 (y (⟨.none,none,.func (fD (S 53) "condition_of" "condition_of" 0 [] .none .none .none .none none .none .none 0),#[]⟩)) z))))) (n o197 (n (⟨.type "tuple",none,.seq #[.str "self" 220] 0,#[]⟩) (n o267 (n o329 (n o177 (y o177) (y o177)) (n (⟨.type "function",none,.func (fD (M 40 11) "told" "Memory.told" 3 [] .none .none .none (.str "octetmint.machine" 588) none (.ref 390) .none 0),#[]⟩) (y o177) (y (⟨.none,none,.func (fD (S 87) "joined" "joined" 0 [] .none .none .none .none none .none .none 0),#[]⟩)))) (n o372 (n o178 (y (⟨.none,none,.func (fD (M 48 0) "__init__" "Reg.__init__" 0 [] .none .none .none .none none .none .none 0),#[]⟩)) (y o178)) (n (⟨.type "tuple",none,.seq #[.str "self" 795,.str "mem" 796,.str "base" 797] 0,#[]⟩) (y (⟨.type "function",none,.func (fD (M 51 1) "told" "Instruction.told" 3 [] .none .none .none (.str "octetmint.operands" 901) none (.ref 710) .none 0),#[]⟩)) (y o177)))) (n o178 (n (⟨.type "tuple",none,.seq #[.str "self" 395,.str "name" 396,.str "names" 397] 0,#[]⟩) (n (⟨.none,none,.func (fD (S 35) "late_ending" "late_ending" 0 [] .none .none .none .none none .none .none 0),#[]⟩) (y o177) (y (⟨.none,none,.func (fD (S 73) "target_of" "target_of" 0 [] .none .none .none .none none .none .none 0),#[]⟩))) (n o177 (y (⟨.type "function",none,.func (fD (M 50 4) "is_rip" "Mem.is_rip" 3 [] .none .none .none (.str "octetmint.operands" 901) none (.ref 678) .none 0),#[]⟩)) (y o177))) (n o177 (n o177 (y (⟨.type "tuple",none,.seq #[.str "self" 1008,.str "worth" 1009,.str "name" 1010] 0,#[]⟩)) (y o961)) (n (⟨.type "function",none,.func (fD (M 43 10) "push" "State.push" 3 [] .none .none .none (.str "octetmint.machine" 588) none (.ref 486) .none 0),#[]⟩) (y (⟨.type "getset_descriptor",none,.fields #[.str "__dict__" 1176,.ref 742,.builtin "function.__dict__",.builtin "function.__dict__#set"],#[]⟩)) (y (⟨.type "function",none,.func (fD (S 103) "law" "law" 3 [] .none .none .none (.str "law_qd0115_01" 1494) none (.ref 998) .none 0),#[]⟩)))))) (n o231 (n (⟨.type "function",none,.func (fD (S 6) "wrap" "wrap" 3 [] .none .none .none (.str "octetmint.basics" 194) none (.ref 86) .none 0),#[]⟩) (n o177 (n o441 (y (⟨.type "code",none,.fields #[.str "Operand" 905,.str "Operand" 906,.str "/claim/cut.py" 907,.int 367 0,.int 0 0,.int 0 0,.int 0 0,.int 0 0,.ref 533,.bool false,.int 181 0,.ref 534,.none,.none,.none,.none,.int 908 0,.int 367 0,.str "/claim/cut.py" 909],#[]⟩)) (y (⟨.type "tuple",none,.seq #[.str "state" 1273,.str "instruction" 1274,.str "one" 1275,.str "size" 1276,.str "worth" 1277] 0,#[]⟩))) (n o197 (y (⟨.type "tuple",none,.seq #[.str "self" 1075] 0,#[]⟩)) (y (⟨.type "function",none,.func (fD (S 90) "lane_worth" "lane_worth" 3 [] .none .none .none (.str "octetmint.transfers" 1208) none (.ref 918) .none 0),#[]⟩)))) (n o178 (n o177 (y (⟨.type "function",none,.func (fD (M 48 2) "registers" "Reg.registers" 3 [] .none .none .none (.str "octetmint.operands" 901) none (.ref 598) .none 0),#[]⟩)) (y o177)) (n (⟨.none,none,.func (fD (M 43 8) "read" "State.read" 0 [] .none .none .none .none none .none .none 0),#[]⟩) (y o178) (y (⟨.type "tuple",none,.seq #[.str "pen" 1535,.str "state" 1536,.str "number" 1537,.str "at" 1538] 0,#[]⟩))))) (n o177 (n (⟨.none,none,.func (fD (M 22 8) "show" "Flags.show" 0 [] .none .none .none .none none .none .none 0),#[]⟩) (n o482 (y o753) (y (⟨.type "function",none,.func (fD (S 75) "is_taken" "is_taken" 3 [] .none .none .none (.str "octetmint.transfers" 1208) none (.ref 822) .none 0),#[]⟩))) (n o583 (y o177) (y o1020))) (n o418 (n (⟨.none,none,.func (fD (M 40 9) "find" "Memory.find" 0 [] .none .none .none .none none .none .none 0),#[]⟩) (y (⟨.none,none,.func (fD (M 49 2) "symbol" "Imm.symbol" 0 [] .none .none .none .none none .none .none 0),#[]⟩)) (y o177)) (n o178 (y o872) z)))))) (n o177 (n (⟨.none,none,.func (fD (S 0) "_wall" "_wall" 0 [] .none .none .none .none none .none .none 0),#[]⟩) (n o211 (n o263 (n o178 (n o177 (y (⟨.type "builtin_function_or_method",none,.fields #[.builtin "object.__init_subclass__",.ref 511],#[]⟩)) (y o177)) (n (⟨.type "tuple",none,.seq #[.str "self" 705] 0,#[]⟩) (y (⟨.none,none,.fields #[.int 405 0,.int 4 0,.ref 652,.int 415 0,.int 4 0,.ref 659,.int 420 0,.int 4 0,.ref 666,.int 423 0,.int 4 0,.ref 671,.int 426 0,.int 4 0,.ref 678,.int 429 0,.int 4 0,.ref 685],#[]⟩)) (y o177))) (n (⟨.type "tuple",none,.seq #[.str "condition" 438] 0,#[]⟩) (n (⟨.none,none,.func (fD (M 40 1) "octet" "Memory.octet" 0 [] .none .none .none .none none .none .none 0),#[]⟩) (y o177) (y (⟨.none,none,.func (fD (S 77) "go_on" "go_on" 0 [] .none .none .none .none none .none .none 0),#[]⟩))) (n o590 (y o177) (y o177)))) (n (⟨.none,none,.func (fD (S 8) "ones" "ones" 0 [] .none .none .none .none none .none .none 0),#[]⟩) (n o345 (n o177 (y o177) (y o177)) (n o572 (y (⟨.type "tuple",none,.seq #[.str "self" 1088] 0,#[]⟩)) (y (⟨.type "function",none,.func (fD (S 92) "bit_result" "bit_result" 3 [] .none .none .none (.str "octetmint.transfers" 1208) none (.ref 930) .none 0),#[]⟩)))) (n (⟨.type "function",none,.func (fD (S 27) "sub_flags" "sub_flags" 3 [] .none .none .none (.str "octetmint.flags" 316) none (.ref 226) .none 0),#[]⟩) (n o178 (y (⟨.type "frame",none,.plain,#[(some (.ref 610)),(some (.ref 3)),(some (.ref 607)),none,(some (.str "octetmint.operands" 901)),none,(some (.ref 0))]⟩)) (y o178)) (n (⟨.type "tuple",none,.seq #[.str "self" 833,.str "worth" 834,.str "width" 835] 0,#[]⟩) (y (⟨.type "function",none,.func (fD (M 51 5) "replaced" "Instruction.replaced" 3 [] .none .none .none (.str "octetmint.operands" 901) none (.ref 738) .none 0),#[]⟩)) (y o177))))) (n o197 (n (⟨.type "tuple",none,.seq #[.str "worth" 276,.str "size" 277] 0,#[]⟩) (n o177 (n o434 (y o197) (y o913)) (n (⟨.none,none,.func (fD (S 41) "joined" "joined" 0 [] .none .none .none .none none .none .none 0),#[]⟩) (y o775) (y (⟨.type "tuple",none,.seq #[.str "stem" 1439,.str "one" 1440,.str "other" 1441,.str "size" 1442] 0,#[]⟩)))) (n (⟨.none,none,.func (fD (S 25) "holds" "holds" 0 [] .none .none .none .none none .none .none 0),#[]⟩) (n (⟨.type "function",none,.func (fD (M 40 3) "read" "Memory.read" 3 [] .none .none .none (.str "octetmint.machine" 588) none (.ref 338) .none 0),#[]⟩) (y (⟨.type "tuple",none,.seq #[.str "self" 983] 0,#[]⟩)) (y (⟨.type "function",none,.func (fD (S 79) "is_last" "is_last" 3 [] .none .none .none (.str "octetmint.transfers" 1208) none (.ref 850) .none 0),#[]⟩))) (n o177 (y (⟨.none,none,.func (fD (M 51 3) "memory" "Instruction.memory" 0 [] .none .none .none .none none .none .none 0),#[]⟩)) (y o1035)))) (n o292 (n o177 (n (o479 P) (y o674) (y (⟨.type "tuple",none,.seq #[.str "state" 1308,.str "name" 1309] 0,#[]⟩))) (n o178 (y (⟨.type "builtin_function_or_method",none,.fields #[.builtin "object.__init_subclass__",.ref 689],#[]⟩)) (y o178))) (n o178 (n o177 (y o177) (y o177)) (n (⟨.none,none,.func (fD (M 43 12) "told" "State.told" 0 [] .none .none .none .none none .none .none 0),#[]⟩) (y o178) z))))) (n o206 (n (⟨.type "function",none,.func (fD (M 2 1) "told" "MintError.told" 3 [] .none .none .none (.str "octetmint.basics" 194) none (.ref 42) .none 0),#[]⟩) (n o178 (n (⟨.type "tuple",none,.seq #[.str "self" 363,.str "low" 364] 0,#[]⟩) (n (⟨.none,none,.func (fD (M 33 4) "needs_rex" "Register.needs_rex" 0 [] .none .none .none .none none .none .none 0),#[]⟩) (y o177) (y (⟨.none,none,.func (fD (S 69) "move_deed" "move_deed" 0 [] .none .none .none .none none .none .none 0),#[]⟩))) (n o535 (y (⟨.none,none,.func (fD (M 50 0) "__init__" "Mem.__init__" 0 [] .none .none .none .none none .none .none 0),#[]⟩)) (y o178))) (n o177 (n o493 (y o178) (y o945)) (n (⟨.type "function",none,.func (fD (M 43 6) "place" "State.place" 3 [] .none .none .none (.str "octetmint.machine" 588) none (.ref 458) .none 0),#[]⟩) (y o177) (y (⟨.none,none,.func (fD (S 99) "_law_take" "_law_take" 0 [] .none .none .none .none none .none .none 0),#[]⟩))))) (n o288 (n (⟨.type "function",none,.func (fD (M 22 6) "get" "Flags.get" 3 [] .none .none .none (.str "octetmint.flags" 316) none (.ref 170) .none 0),#[]⟩) (n o178 (y (⟨.none,none,.func (fD (M 47 2) "symbol" "Operand.symbol" 0 [] .none .none .none .none none .none .none 0),#[]⟩)) (y o178)) (n o177 (y o177) (y o177))) (n o177 (n o512 (y (⟨.type "function",none,.func (fD (M 49 0) "__init__" "Imm.__init__" 3 [] (.ref 612) .none .none (.str "octetmint.operands" 901) none (.ref 618) .none 0),#[]⟩)) (y (⟨.type "tuple",none,.seq #[.str "state" 1383,.str "name" 1384,.str "one" 1385,.str "other" 1386] 0,#[]⟩))) (n o177 (y o177) z)))) (n o235 (n o177 (n (⟨.none,none,.func (fD (M 22 4) "unpack_low" "Flags.unpack_low" 0 [] .none .none .none .none none .none .none 0),#[]⟩) (n (⟨.type "builtin_function_or_method",none,.fields #[.builtin "object.__init_subclass__",.ref 279],#[]⟩) (y (⟨.type "tuple",none,.seq #[.str "self" 918,.str "kind" 919] 0,#[]⟩)) (y (⟨.type "function",none,.func (fD (S 71) "pop_operand" "pop_operand" 3 [] .none .none .none (.str "octetmint.transfers" 1208) none (.ref 794) .none 0),#[]⟩))) (n o567 (y (⟨.type "function",none,.func (fD (M 50 2) "symbol" "Mem.symbol" 3 [] .none .none .none (.str "octetmint.operands" 901) none (.ref 666) .none 0),#[]⟩)) (y o991))) (n o383 (n o177 (y (⟨.type "super",none,.fields #[.ref 602,.ref 602,.ref 602],#[]⟩)) (y o177)) (n o178 (y o850) (y (⟨.type "function",none,.func (fD (S 101) "_law_state" "_law_state" 3 [] .none .none .none (.str "law_qd0115_01" 1494) none (.ref 986) .none 0),#[]⟩))))) (n o177 (n (o363 P) (n o177 (y (⟨.type "builtin_function_or_method",none,.fields #[.builtin "object.__init_subclass__",.ref 567],#[]⟩)) (y o177)) (n (⟨.none,none,.func (fD (M 43 4) "registers" "State.registers" 0 [] .none .none .none .none none .none .none 0),#[]⟩) (y (⟨.type "tuple",none,.seq #[.str "" 1122] 0,#[]⟩)) (y o177))) (n (⟨.type "tuple",none,.seq #[.str "self" 528] 0,#[]⟩) (n o178 (y (o746 P)) (y (⟨.none,none,.func (fD (S 85) "part_move" "part_move" 0 [] .none .none .none .none none .none .none 0),#[]⟩))) (n o622 (y (⟨.type "tuple",none,.seq #[.str "name" 1204] 0,#[]⟩)) z))))))) (n (⟨.type "module",(some 3),.plain,#[]⟩) (n o179 (n (⟨.type "tuple",none,.seq #[.str "k" 190] 0,#[]⟩) (n o177 (n o177 (n o326 (n o178 (y o631) (y o178)) (n o177 (y (o764 P)) (y o976))) (n o177 (n (⟨.type "tuple",none,.seq #[.str "self" 616,.str "place" 617] 0,#[]⟩) (y (⟨.type "code",none,.fields #[.str "Reg" 955,.str "Reg" 956,.str "/claim/cut.py" 957,.int 380 0,.int 0 0,.int 0 0,.int 0 0,.int 0 0,.ref 575,.bool false,.int 181 0,.ref 576,.none,.none,.none,.none,.int 958 0,.int 380 0,.str "/claim/cut.py" 959],#[]⟩)) (y (⟨.type "tuple",none,.seq #[.str "state" 1326,.str "number" 1327,.str "width" 1328,.str "step" 1329] 0,#[]⟩))) (n o177 (y o835) (y o178)))) (n o282 (n o177 (n o448 (y o178) (y o921)) (n (⟨.none,none,.func (fD (M 43 0) "__init__" "State.__init__" 0 [] .none .none .none .none none .none .none 0),#[]⟩) (y o177) (y (⟨.none,none,.func (fD (S 92) "bit_result" "bit_result" 0 [] .none .none .none .none none .none .none 0),#[]⟩)))) (n (⟨.none,none,.func (fD (S 27) "sub_flags" "sub_flags" 0 [] .none .none .none .none none .none .none 0),#[]⟩) (n (⟨.type "function",none,.func (fD (M 40 5) "load" "Memory.load" 3 [] .none .none .none (.str "octetmint.machine" 588) none (.ref 352) .none 0),#[]⟩) (y (⟨.none,none,.fields #[.int 393 0,.int 4 0,.ref 618,.int 398 0,.int 4 0,.ref 625,.int 401 0,.int 4 0,.ref 632],#[]⟩)) (y (⟨.type "function",none,.func (fD (S 81) "is_xmm" "is_xmm" 3 [] .none .none .none (.str "octetmint.transfers" 1208) none (.ref 864) .none 0),#[]⟩))) (n o177 (y (⟨.none,none,.func (fD (M 51 5) "replaced" "Instruction.replaced" 0 [] .none .none .none .none none .none .none 0),#[]⟩)) (y o1043))))) (n (⟨.type "builtin_function_or_method",none,.fields #[.builtin "object.__init_subclass__",.ref 46],#[]⟩) (n o177 (n o178 (n o177 (y (⟨.type "function",none,.func (fD (S 45) "perform" "perform" 3 [] .none .none .none (.str "octetmint.machine" 588) none (.ref 528) .none 0),#[]⟩)) (y o177)) (n (⟨.type "tuple",none,.seq #[.str "old" 721,.str "worth" 722,.str "size" 723] 0,#[]⟩) (y o177) (y o177))) (n (⟨.type "tuple",none,.seq #[.str "flags" 455,.str "condition" 456] 0,#[]⟩) (n (⟨.none,none,.func (fD (M 40 3) "read" "Memory.read" 0 [] .none .none .none .none none .none .none 0),#[]⟩) (y o177) (y (⟨.none,none,.func (fD (S 79) "is_last" "is_last" 0 [] .none .none .none .none none .none .none 0),#[]⟩))) (n o598 (y (⟨.type "tuple",none,.seq #[.str "self" 1151,.str "at" 1152] 0,#[]⟩)) (y o177)))) (n (⟨.none,none,.func (fD (S 12) "condition_names" "condition_names" 0 [] .none .none .none .none none .none .none 0),#[]⟩) (n o353 (n o177 (y o177) (y o177)) (n (⟨.type "function",none,.func (fD (M 43 2) "put" "State.put" 3 [] .none .none .none (.str "octetmint.machine" 588) none (.ref 432) .none 0),#[]⟩) (y o795) (y (⟨.type "function",none,.func (fD (S 94) "vector_deed" "vector_deed" 3 [] .none .none .none (.str "octetmint.transfers" 1208) none (.ref 944) .none 0),#[]⟩)))) (n o415 (n o515 (y o738) (y o178)) (n (⟨.type "tuple",none,.seq #[.str "self" 851,.str "bases" 852] 0,#[]⟩) (y (⟨.type "function",none,.func (fD (S 53) "condition_of" "condition_of" 3 [] .none .none .none (.str "octetmint.flow" 1183) none (.ref 752) .none 0),#[]⟩)) z))))) (n o177 (n (⟨.none,none,.func (fD (M 2 1) "told" "MintError.told" 0 [] .none .none .none .none none .none .none 0),#[]⟩) (n (⟨.type "builtin_function_or_method",none,.fields #[.builtin "object.__init_subclass__",.ref 71],#[]⟩) (n o177 (n (⟨.type "tuple",none,.seq #[.str "self" 542] 0,#[]⟩) (y o636) (y (⟨.type "tuple",none,.seq #[.str "state" 1251,.str "instruction" 1252,.str "name" 1253,.str "one" 1254,.str "other" 1255,.str "size" 1256] 0,#[]⟩))) (n (o533 P) (y o769) (y (⟨.type "function",none,.func (fD (S 87) "joined" "joined" 3 [] .none .none .none (.str "octetmint.transfers" 1208) none (.ref 904) .none 0),#[]⟩)))) (n o178 (n o177 (y (⟨.type "function",none,.func (fD (M 48 0) "__init__" "Reg.__init__" 3 [] .none .none .none (.str "octetmint.operands" 901) none (.ref 584) .none 0),#[]⟩)) (y o177)) (n (⟨.none,none,.func (fD (M 43 6) "place" "State.place" 0 [] .none .none .none .none none .none .none 0),#[]⟩) (y o178) (y (⟨.type "tuple",none,.seq #[.str "pen" 1514,.str "many" 1515,.str "found" 1516] 0,#[]⟩))))) (n o177 (n (⟨.none,none,.func (fD (M 22 6) "get" "Flags.get" 0 [] .none .none .none .none none .none .none 0),#[]⟩) (n o453 (y (⟨.type "tuple",none,.seq #[.str "self" 933] 0,#[]⟩)) (y (⟨.type "function",none,.func (fD (S 73) "target_of" "target_of" 3 [] .none .none .none (.str "octetmint.transfers" 1208) none (.ref 808) .none 0),#[]⟩))) (n o575 (y o178) (y o1012))) (n o410 (n (⟨.none,none,.func (fD (M 40 7) "written" "Memory.written" 0 [] .none .none .none .none none .none .none 0),#[]⟩) (y (⟨.none,none,.func (fD (M 49 0) "__init__" "Imm.__init__" 0 [] .none .none .none .none none .none .none 0),#[]⟩)) (y o177)) (n o178 (y (⟨.type "super",none,.fields #[.ref 742,.ref 742,.ref 742],#[]⟩)) z)))) (n o177 (n o178 (n (⟨.type "tuple",none,.seq #[.str "self" 379,.str "octet" 380] 0,#[]⟩) (n o443 (y o177) (y (⟨.none,none,.func (fD (S 71) "pop_operand" "pop_operand" 0 [] .none .none .none .none none .none .none 0),#[]⟩))) (n o177 (y (⟨.none,none,.func (fD (M 50 2) "symbol" "Mem.symbol" 0 [] .none .none .none .none none .none .none 0),#[]⟩)) (y o178))) (n o177 (n o501 (y (o712 P)) (y o953)) (n (⟨.type "function",none,.func (fD (M 43 8) "read" "State.read" 3 [] .none .none .none (.str "octetmint.machine" 588) none (.ref 472) .none 0),#[]⟩) (y o177) (y (⟨.none,none,.func (fD (S 101) "_law_state" "_law_state" 0 [] .none .none .none .none none .none .none 0),#[]⟩))))) (n o321 (n (⟨.type "function",none,.func (fD (M 22 8) "show" "Flags.show" 3 [] .none .none .none (.str "octetmint.flags" 316) none (.ref 184) .none 0),#[]⟩) (n o178 (y (⟨.type "getset_descriptor",none,.fields #[.str "__weakref__" 948,.ref 567,.builtin "ExceptionGroup.__weakref__",.none],#[]⟩)) (y o178)) (n o177 (y (⟨.type "code",none,.fields #[.str "Instruction" 1112,.str "Instruction" 1113,.str "/claim/cut.py" 1114,.int 431 0,.int 0 0,.int 0 0,.int 0 0,.int 0 0,.ref 695,.bool false,.int 181 0,.ref 696,.none,.none,.none,.none,.int 1115 0,.int 431 0,.str "/claim/cut.py" 1116],#[]⟩)) (y o177))) (n o177 (n (⟨.type "function",none,.func (fD (M 40 9) "find" "Memory.find" 3 [] .none .none .none (.str "octetmint.machine" 588) none (.ref 376) .none 0),#[]⟩) (y (⟨.type "function",none,.func (fD (M 49 2) "symbol" "Imm.symbol" 3 [] .none .none .none (.str "octetmint.operands" 901) none (.ref 632) .none 0),#[]⟩)) (y (⟨.type "tuple",none,.seq #[.str "state" 1400,.str "name" 1401,.str "one" 1402,.str "other" 1403,.str "size" 1404,.str "worth" 1405] 0,#[]⟩))) (n o177 (y o177) z)))))) (n o181 (n (⟨.type "function",none,.func (fD (S 0) "_wall" "_wall" 3 [] .none .none .none (.str "__main__" 164) none (.ref 20) .none 0),#[]⟩) (n o177 (n o177 (n o177 (n o426 (y o178) (y o880)) (n (⟨.none,none,.func (fD (M 40 11) "told" "Memory.told" 0 [] .none .none .none .none none .none .none 0),#[]⟩) (y (⟨.type "frame",none,.plain,#[(some (.ref 644)),(some (.ref 3)),(some (.ref 641)),none,(some (.str "octetmint.operands" 901)),none,(some (.ref 0))]⟩)) (y (⟨.type "tuple",none,.seq #[.str "parts" 1418,.str "size" 1419,.str "worth" 1420,.str "at" 1421] 0,#[]⟩)))) (n (⟨.none,none,.func (fD (S 23) "condition_number" "condition_number" 0 [] .none .none .none .none none .none .none 0),#[]⟩) (n (⟨.type "function",none,.func (fD (M 40 1) "octet" "Memory.octet" 3 [] .none .none .none (.str "octetmint.machine" 588) none (.ref 324) .none 0),#[]⟩) (y (⟨.type "tuple",none,.seq #[.str "self" 968,.str "register" 969] 0,#[]⟩)) (y (⟨.type "function",none,.func (fD (S 77) "go_on" "go_on" 3 [] .none .none .none (.str "octetmint.transfers" 1208) none (.ref 836) .none 0),#[]⟩))) (n o177 (y (⟨.none,none,.func (fD (M 51 1) "told" "Instruction.told" 0 [] .none .none .none .none none .none .none 0),#[]⟩)) (y o1027)))) (n (⟨.type "function",none,.func (fD (S 8) "ones" "ones" 3 [] .none .none .none (.str "octetmint.basics" 194) none (.ref 100) .none 0),#[]⟩) (n o177 (n (⟨.type "tuple",none,.seq #[.str "size" 575] 0,#[]⟩) (y o666) (y (⟨.type "tuple",none,.seq #[.str "state" 1293,.str "operand" 1294] 0,#[]⟩))) (n o178 (y (⟨.none,none,.func (fD (M 50 4) "is_rip" "Mem.is_rip" 0 [] .none .none .none .none none .none .none 0),#[]⟩)) (y o178))) (n o197 (n o508 (y o177) (y o177)) (n (⟨.none,none,.func (fD (M 43 10) "push" "State.push" 0 [] .none .none .none .none none .none .none 0),#[]⟩) (y (o860 P)) (y (⟨.none,none,.func (fD (S 103) "law" "law" 0 [] .none .none .none .none none .none .none 0),#[]⟩)))))) (n o177 (n (⟨.none,none,.func (fD (S 6) "wrap" "wrap" 0 [] .none .none .none .none none .none .none 0),#[]⟩) (n o337 (n o436 (y o177) (y o177)) (n (⟨.type "function",none,.func (fD (S 41) "joined" "joined" 3 [] .none .none .none (.str "octetmint.machine" 588) none (.ref 404) .none 0),#[]⟩) (y o177) (y (⟨.none,none,.func (fD (S 90) "lane_worth" "lane_worth" 0 [] .none .none .none .none none .none .none 0),#[]⟩)))) (n (⟨.type "function",none,.func (fD (S 25) "holds" "holds" 3 [] .none .none .none (.str "octetmint.flags" 316) none (.ref 212) .none 0),#[]⟩) (n o178 (y (⟨.none,none,.func (fD (M 48 2) "registers" "Reg.registers" 0 [] .none .none .none .none none .none .none 0),#[]⟩)) (y o178)) (n (⟨.type "tuple",none,.seq #[.str "self" 814,.str "operand" 815,.str "size" 816] 0,#[]⟩) (y (⟨.type "function",none,.func (fD (M 51 3) "memory" "Instruction.memory" 3 [] .none .none .none (.str "octetmint.operands" 901) none (.ref 724) .none 0),#[]⟩)) (y o177)))) (n o197 (n (⟨.type "tuple",none,.seq #[.str "self" 416] 0,#[]⟩) (n o480 (y (⟨.type "tuple",none,.seq #[.str "kind" 944] 0,#[]⟩)) (y (⟨.none,none,.func (fD (S 75) "is_taken" "is_taken" 0 [] .none .none .none .none none .none .none 0),#[]⟩))) (n o177 (y o197) (y o177))) (n o177 (n o517 (y (⟨.type "tuple",none,.seq #[.str "self" 1024] 0,#[]⟩)) (y o969)) (n (⟨.type "function",none,.func (fD (M 43 12) "told" "State.told" 3 [] .none .none .none (.str "octetmint.machine" 588) none (.ref 500) .none 0),#[]⟩) (y o177) z))))) (n (⟨.type "tuple",none,.seq #[.none] 0,#[]⟩) (n (o220 P) (n o177 (n (⟨.none,none,.func (fD (M 22 2) "pack" "Flags.pack" 0 [] .none .none .none .none none .none .none 0),#[]⟩) (n o431 (y (⟨.type "tuple",none,.seq #[.str "state" 894,.str "rows" 895,.str "deeds" 896,.str "instruction" 897] 0,#[]⟩)) (y (⟨.type "function",none,.func (fD (S 69) "move_deed" "move_deed" 3 [] .none .none .none (.str "octetmint.transfers" 1208) none (.ref 780) .none 0),#[]⟩))) (n (⟨.type "super",none,.fields #[.ref 394,.ref 394,.ref 394],#[]⟩) (y (⟨.type "function",none,.func (fD (M 50 0) "__init__" "Mem.__init__" 3 [] (.ref 646) .none .none (.str "octetmint.operands" 901) none (.ref 652) .none 0),#[]⟩)) (y o177))) (n o375 (n o177 (y o177) (y o177)) (n o178 (y o842) (y (⟨.type "function",none,.func (fD (S 99) "_law_take" "_law_take" 3 [] .none .none .none (.str "law_qd0115_01" 1494) none (.ref 972) .none 0),#[]⟩))))) (n o177 (n o178 (n o177 (y (⟨.type "function",none,.func (fD (M 47 2) "symbol" "Operand.symbol" 3 [] .none .none .none (.str "octetmint.operands" 901) none (.ref 556) .none 0),#[]⟩)) (y o177)) (n o577 (y o790) (y o1014))) (n o412 (n o178 (y o178) (y (⟨.none,none,.func (fD (S 83) "whole_move" "whole_move" 0 [] .none .none .none .none none .none .none 0),#[]⟩))) (n o614 (y (⟨.type "tuple",none,.seq #[.str "name" 1188,.str "stem" 1189] 0,#[]⟩)) z)))) (n (⟨.type "builtin_function_or_method",none,.fields #[.builtin "object.__init_subclass__",.ref 59],#[]⟩) (n o280 (n o342 (n o178 (y (⟨.none,none,.func (fD (M 47 0) "__init__" "Operand.__init__" 0 [] .none .none .none .none none .none .none 0),#[]⟩)) (y o178)) (n o177 (y o178) (y o177))) (n o177 (n o503 (y o686) (y (⟨.type "tuple",none,.seq #[.str "operand" 1368] 0,#[]⟩))) (n o177 (y o177) (y o178)))) (n (⟨.type "tuple",none,.seq #[.str "self" 349] 0,#[]⟩) (n o365 (n o485 (y o197) (y o937)) (n o587 (y o178) (y (⟨.none,none,.func (fD (S 97) "_law_base" "_law_base" 0 [] .none .none .none .none none .none .none 0),#[]⟩)))) (n (⟨.none,none,.func (fD (M 33 2) "is_extended" "Register.is_extended" 0 [] .none .none .none .none none .none .none 0),#[]⟩) (n o177 (y (⟨.type "super",none,.fields #[.ref 636,.ref 636,.ref 636],#[]⟩)) (y (⟨.type "function",none,.func (fD (S 85) "part_move" "part_move" 3 [] .none .none .none (.str "octetmint.transfers" 1208) none (.ref 892) .none 0),#[]⟩))) (n o624 (y (⟨.none,none,.func (fD (S 55) "where_next" "where_next" 0 [] .none .none .none .none none .none .none 0),#[]⟩)) z)))))))) (n (o185 P) (n (⟨.type "module",(some 0),.plain,#[]⟩) (n o178 (n o178 (n (⟨.type "tuple",none,.seq #[.str "self" 211,.str "what" 212,.str "at" 213] 0,#[]⟩) (n (o262 P) (n o325 (n o177 (y o630) (y o177)) (n (⟨.type "function",none,.func (fD (M 40 10) "copy" "Memory.copy" 3 [] .none .none .none (.str "octetmint.machine" 588) none (.ref 383) .none 0),#[]⟩) (y o197) (y (⟨.none,none,.func (fD (S 86) "lanes" "lanes" 0 [] .none .none .none .none none .none .none 0),#[]⟩)))) (n (⟨.type "builtin_function_or_method",none,.fields #[.builtin "object.__init_subclass__",.ref 188],#[]⟩) (n o178 (y (⟨.none,none,.fields #[.int 382 0,.int 4 0,.ref 584,.int 386 0,.int 4 0,.ref 591,.int 389 0,.int 4 0,.ref 598],#[]⟩)) (y o178)) (n (⟨.type "tuple",none,.seq #[.str "self" 786,.str "mem" 787,.str "total" 788] 0,#[]⟩) (y (⟨.none,none,.func (fD (M 51 0) "__init__" "Instruction.__init__" 0 [] .none .none .none .none none .none .none 0),#[]⟩)) (y o177)))) (n o178 (n (⟨.type "tuple",none,.seq #[.str "self" 387,.str "found" 388] 0,#[]⟩) (n (⟨.none,none,.func (fD (S 34) "early_names" "early_names" 0 [] .none .none .none .none none .none .none 0),#[]⟩) (y o177) (y (⟨.none,none,.func (fD (S 72) "stack_deed" "stack_deed" 0 [] .none .none .none .none none .none .none 0),#[]⟩))) (n o177 (y (⟨.type "function",none,.func (fD (M 50 3) "registers" "Mem.registers" 3 [] .none .none .none (.str "octetmint.operands" 901) none (.ref 671) .none 0),#[]⟩)) (y o177))) (n o177 (n o505 (y o177) (y o957)) (n (⟨.type "function",none,.func (fD (M 43 9) "write" "State.write" 3 [] .none .none .none (.str "octetmint.machine" 588) none (.ref 479) .none 0),#[]⟩) (y o177) (y (⟨.none,none,.func (fD (S 102) "_law_refused" "_law_refused" 0 [] .none .none .none .none none .none .none 0),#[]⟩)))))) (n (⟨.type "super",none,.fields #[.ref 46,.ref 46,.ref 46],#[]⟩) (n (⟨.type "function",none,.func (fD (S 5) "mask" "mask" 3 [] .none .none .none (.str "octetmint.basics" 194) none (.ref 79) .none 0),#[]⟩) (n o177 (n (⟨.type "tuple",none,.seq #[.str "self" 549] 0,#[]⟩) (y o646) (y (⟨.type "tuple",none,.seq #[.str "state" 1263,.str "instruction" 1264,.str "one" 1265,.str "size" 1266] 0,#[]⟩))) (n o178 (y (⟨.type "tuple",none,.seq #[.str "self" 1066,.str "base" 1067,.str "index" 1068] 0,#[]⟩)) (y (⟨.type "function",none,.func (fD (S 89) "lane_size" "lane_size" 3 [] .none .none .none (.str "octetmint.transfers" 1208) none (.ref 911) .none 0),#[]⟩)))) (n o178 (n o177 (y (⟨.type "function",none,.func (fD (M 48 1) "told" "Reg.told" 3 [] .none .none .none (.str "octetmint.operands" 901) none (.ref 591) .none 0),#[]⟩)) (y o177)) (n (⟨.none,none,.func (fD (M 43 7) "size_of" "State.size_of" 0 [] .none .none .none .none none .none .none 0),#[]⟩) (y o178) (y (⟨.type "tuple",none,.seq #[.str "pen" 1523,.str "way" 1524,.str "size" 1525,.str "number" 1526,.str "reg" 1527,.str "mem" 1528] 0,#[]⟩))))) (n o177 (n (⟨.none,none,.func (fD (M 22 7) "put" "Flags.put" 0 [] .none .none .none .none none .none .none 0),#[]⟩) (n (⟨.type "function",none,.func (fD (S 36) "gpr" "gpr" 3 [] .none .none .none (.str "octetmint.registers" 485) none (.ref 303) .none 0),#[]⟩) (y (⟨.type "tuple",none,.seq #[.str "self" 940] 0,#[]⟩)) (y (⟨.type "function",none,.func (fD (S 74) "count_down" "count_down" 3 [] .none .none .none (.str "octetmint.transfers" 1208) none (.ref 815) .none 0),#[]⟩))) (n o579 (y (o794 P)) (y o1016))) (n o414 (n (⟨.none,none,.func (fD (M 40 8) "spans" "Memory.spans" 0 [] .none .none .none .none none .none .none 0),#[]⟩) (y (⟨.none,none,.func (fD (M 49 1) "told" "Imm.told" 0 [] .none .none .none .none none .none .none 0),#[]⟩)) (y o177)) (n o178 (y o868) z))))) (n (o204 P) (n o177 (n (⟨.type "super",none,.fields #[.ref 71,.ref 71,.ref 71],#[]⟩) (n (⟨.type "function",none,.func (fD (M 22 1) "told" "Flags.told" 3 [] .none .none .none (.str "octetmint.flags" 316) none (.ref 135) .none 0),#[]⟩) (n o178 (y (⟨.none,none,.func (fD (S 44) "done" "done" 0 [] .none .none .none .none none .none .none 0),#[]⟩)) (y o178)) (n (⟨.type "tuple",none,.seq #[.str "held" 709] 0,#[]⟩) (y o178) (y o980))) (n o177 (n (⟨.type "tuple",none,.seq #[.str "self" 624,.str "place" 625,.str "octet" 626] 0,#[]⟩) (y o700) (y (⟨.type "tuple",none,.seq #[.str "state" 1336,.str "sort" 1337,.str "size" 1338,.str "width" 1339,.str "held" 1340,.str "found" 1341] 0,#[]⟩))) (n o177 (y o177) (y o178)))) (n (⟨.type "tuple",none,.seq #[.str "worth" 302] 0,#[]⟩) (n o177 (n o452 (y o178) (y o925)) (n (⟨.none,none,.func (fD (M 43 1) "get" "State.get" 0 [] .none .none .none .none none .none .none 0),#[]⟩) (y o177) (y (⟨.none,none,.func (fD (S 93) "vector_move" "vector_move" 0 [] .none .none .none .none none .none .none 0),#[]⟩)))) (n o409 (n o178 (y o177) (y (⟨.type "function",none,.func (fD (S 82) "need_aligned" "need_aligned" 3 [] .none .none .none (.str "octetmint.transfers" 1208) none (.ref 871) .none 0),#[]⟩))) (n o177 (y (⟨.type "getset_descriptor",none,.fields #[.str "__weakref__" 1178,.ref 742,.builtin "ExceptionGroup.__weakref__",.none],#[]⟩)) z)))) (n (⟨.type "frame",none,.plain,#[(some (.ref 55)),(some (.ref 3)),(some (.ref 52)),none,(some (.str "octetmint.basics" 194)),none,(some (.ref 0))]⟩) (n o177 (n o178 (n o442 (y (⟨.type "frame",none,.plain,#[(some (.ref 535)),(some (.ref 3)),(some (.ref 532)),none,(some (.str "octetmint.operands" 901)),none,(some (.ref 0))]⟩)) (y o177)) (n (o565 P) (y o177) (y o177))) (n o381 (n (⟨.none,none,.func (fD (M 40 4) "write" "Memory.write" 0 [] .none .none .none .none none .none .none 0),#[]⟩) (y (⟨.type "tuple",none,.seq #[.str "register" 987] 0,#[]⟩)) (y (⟨.none,none,.func (fD (S 80) "string_deed" "string_deed" 0 [] .none .none .none .none none .none .none 0),#[]⟩))) (n o602 (y (⟨.type "tuple",none,.seq #[.str "self" 1159] 0,#[]⟩)) (y o177)))) (n o320 (n o357 (n o177 (y (⟨.type "getset_descriptor",none,.fields #[.str "__dict__" 946,.ref 567,.builtin "function.__dict__",.builtin "function.__dict__#set"],#[]⟩)) (y o177)) (n o584 (y (⟨.none,none,.fields #[.int 433 0,.int 4 0,.ref 705,.int 438 0,.int 4 0,.ref 710,.int 441 0,.int 4 0,.ref 717,.int 447 0,.int 4 0,.ref 724,.int 451 0,.int 4 0,.ref 731,.int 454 0,.int 4 0,.ref 738],#[]⟩)) (y (⟨.type "function",none,.func (fD (S 95) "transfer_deed" "transfer_deed" 3 [] .none .none .none (.str "octetmint.transfers" 1208) none (.ref 951) .none 0),#[]⟩)))) (n (⟨.type "function",none,.func (fD (M 33 1) "code" "Register.code" 3 [] .none .none .none (.str "octetmint.registers" 485) none (.ref 247) .none 0),#[]⟩) (n o519 (y o742) (y o178)) (n (⟨.type "tuple",none,.seq #[.str "self" 859,.str "other" 860] 0,#[]⟩) (y (⟨.type "function",none,.func (fD (S 54) "string_stem" "string_stem" 3 [] .none .none .none (.str "octetmint.flow" 1183) none (.ref 759) .none 0),#[]⟩)) z)))))) (n o1009 (n o194 (n o212 (n (⟨.type "frame",none,.plain,#[(some (.ref 67)),(some (.ref 3)),(some (.ref 64)),none,(some (.str "octetmint.basics" 194)),none,(some (.ref 0))]⟩) (n (⟨.type "tuple",none,.seq #[.str "self" 356] 0,#[]⟩) (n (⟨.none,none,.func (fD (M 33 3) "is_high" "Register.is_high" 0 [] .none .none .none .none none .none .none 0),#[]⟩) (y o177) (y (⟨.none,none,.func (fD (S 68) "exchange" "exchange" 0 [] .none .none .none .none none .none .none 0),#[]⟩))) (n o177 (y (⟨.type "code",none,.fields #[.str "Mem" 1036,.str "Mem" 1037,.str "/claim/cut.py" 1038,.int 403 0,.int 0 0,.int 0 0,.int 0 0,.int 0 0,.ref 642,.bool false,.int 181 0,.ref 643,.none,.none,.none,.none,.int 1039 0,.int 403 0,.str "/claim/cut.py" 1040],#[]⟩)) (y o178))) (n o177 (n o489 (y o178) (y o941)) (n (⟨.type "function",none,.func (fD (M 43 5) "offset" "State.offset" 3 [] .none .none .none (.str "octetmint.machine" 588) none (.ref 451) .none 0),#[]⟩) (y o178) (y (⟨.none,none,.func (fD (S 98) "_law_pen" "_law_pen" 0 [] .none .none .none .none none .none .none 0),#[]⟩))))) (n o284 (n (⟨.type "function",none,.func (fD (M 22 5) "copy" "Flags.copy" 3 [] .none .none .none (.str "octetmint.flags" 316) none (.ref 163) .none 0),#[]⟩) (n o178 (y (⟨.none,none,.func (fD (M 47 1) "told" "Operand.told" 0 [] .none .none .none .none none .none .none 0),#[]⟩)) (y o178)) (n o177 (y o177) (y o177))) (n o177 (n (⟨.none,none,.func (fD (M 40 6) "octets" "Memory.octets" 0 [] .none .none .none .none none .none .none 0),#[]⟩) (y (⟨.type "tuple",none,.seq #[.str "" 1004] 0,#[]⟩)) (y (⟨.type "tuple",none,.seq #[.str "state" 1375,.str "operand" 1376] 0,#[]⟩))) (n o177 (y (⟨.type "tuple",none,.seq #[.str "name" 1172,.str "operands" 1173,.str "prefix" 1174] 0,#[]⟩)) (y o178))))) (n (o230 P) (n o177 (n (⟨.none,none,.func (fD (M 22 3) "unpack" "Flags.unpack" 0 [] .none .none .none .none none .none .none 0),#[]⟩) (n o435 (y (o656 P)) (y (⟨.type "function",none,.func (fD (S 70) "push_operand" "push_operand" 3 [] .none .none .none (.str "octetmint.transfers" 1208) none (.ref 787) .none 0),#[]⟩))) (n o541 (y (⟨.type "function",none,.func (fD (M 50 1) "told" "Mem.told" 3 [] .none .none .none (.str "octetmint.operands" 901) none (.ref 659) .none 0),#[]⟩)) (y o177))) (n o379 (n o177 (y o177) (y o177)) (n o178 (y o846) (y (⟨.type "function",none,.func (fD (S 100) "_law_row" "_law_row" 3 [] .none .none .none (.str "law_qd0115_01" 1494) none (.ref 979) .none 0),#[]⟩))))) (n o177 (n o178 (n o177 (y (⟨.type "function",none,.func (fD (M 47 3) "registers" "Operand.registers" 3 [] .none .none .none (.str "octetmint.operands" 901) none (.ref 563) .none 0),#[]⟩)) (y o177)) (n o581 (y o177) (y (⟨.type "tuple",none,.seq #[.str "state" 1489,.str "instruction" 1490] 0,#[]⟩)))) (n (⟨.type "tuple",none,.seq #[.str "self" 521] 0,#[]⟩) (n o178 (y o178) (y (⟨.none,none,.func (fD (S 84) "part_size" "part_size" 0 [] .none .none .none .none none .none .none 0),#[]⟩))) (n o618 (y (⟨.type "tuple",none,.seq #[.str "name" 1196,.str "place" 1197] 0,#[]⟩)) z))))) (n (⟨.type "frame",none,.plain,#[(some (.ref 27)),(some (.ref 3)),(some (.ref 24)),none,(some (.str "octetmint.basics" 194)),none,(some (.ref 0))]⟩) (n (⟨.type "tuple",none,.seq #[.str "at" 224,.str "what" 225] 0,#[]⟩) (n (⟨.type "tuple",none,.seq #[.str "size" 269] 0,#[]⟩) (n o177 (n o430 (y o178) (y o884)) (n o536 (y o771) (y (⟨.type "tuple",none,.seq #[.str "name" 1429,.str "stem" 1430,.str "letters" 1431,.str "place" 1432] 0,#[]⟩)))) (n (⟨.none,none,.func (fD (S 24) "holds_number" "holds_number" 0 [] .none .none .none .none none .none .none 0),#[]⟩) (n o494 (y (⟨.type "tuple",none,.seq #[.str "self" 976] 0,#[]⟩)) (y (⟨.type "function",none,.func (fD (S 78) "string_round" "string_round" 3 [] .none .none .none (.str "octetmint.transfers" 1208) none (.ref 843) .none 0),#[]⟩))) (n o177 (y (⟨.none,none,.func (fD (M 51 2) "memory_at" "Instruction.memory_at" 0 [] .none .none .none .none none .none .none 0),#[]⟩)) (y o1031)))) (n (⟨.type "function",none,.func (fD (S 9) "parity" "parity" 3 [] .none .none .none (.str "octetmint.basics" 194) none (.ref 107) .none 0),#[]⟩) (n o177 (n (⟨.type "tuple",none,.seq #[.str "number" 582,.str "size" 583,.str "names" 584] 0,#[]⟩) (y o670) (y (⟨.type "tuple",none,.seq #[.str "state" 1301] 0,#[]⟩))) (n o178 (y (⟨.none,none,.func (fD (M 50 5) "is_absolute" "Mem.is_absolute" 0 [] .none .none .none .none none .none .none 0),#[]⟩)) (y o178))) (n o178 (n o177 (y o177) (y o177)) (n (⟨.none,none,.func (fD (M 43 11) "pop" "State.pop" 0 [] .none .none .none .none none .none .none 0),#[]⟩) (y o178) z)))) (n (⟨.type "super",none,.fields #[.ref 59,.ref 59,.ref 59],#[]⟩) (n (⟨.none,none,.func (fD (S 7) "bit" "bit" 0 [] .none .none .none .none none .none .none 0),#[]⟩) (n o341 (n o177 (y o177) (y o177)) (n o568 (y o177) (y (⟨.type "function",none,.func (fD (S 91) "lane_result" "lane_result" 3 [] .none .none .none (.str "octetmint.transfers" 1208) none (.ref 923) .none 0),#[]⟩)))) (n (⟨.type "function",none,.func (fD (S 26) "szp" "szp" 3 [] .none .none .none (.str "octetmint.flags" 316) none (.ref 219) .none 0),#[]⟩) (n o178 (y (⟨.type "builtin_function_or_method",none,.fields #[.builtin "object.__init_subclass__",.ref 602],#[]⟩)) (y o178)) (n o604 (y (⟨.type "function",none,.func (fD (M 51 4) "symbols" "Instruction.symbols" 3 [] .none .none .none (.str "octetmint.operands" 901) none (.ref 731) .none 0),#[]⟩)) (y o177)))) (n o178 (n o364 (n (⟨.none,none,.func (fD (M 40 0) "__init__" "Memory.__init__" 0 [] .none .none .none .none none .none .none 0),#[]⟩) (y o686) (y (⟨.none,none,.func (fD (S 76) "jump_deed" "jump_deed" 0 [] .none .none .none .none none .none .none 0),#[]⟩))) (n o586 (y o177) (y o177))) (n o177 (n (⟨.type "tuple",none,.seq #[.str "self" 696,.str "other" 697,.str "place" 698] 0,#[]⟩) (y o747) (y o973)) (n (⟨.type "function",none,.func (fD (M 43 13) "copy" "State.copy" 3 [] .none .none .none (.str "octetmint.machine" 588) none (.ref 507) .none 0),#[]⟩) (y o177) z))))))) (n (⟨.type "dict",none,.dict #[] 0,#[]⟩) (n o180 (n o177 (n (⟨.none,none,.func (fD (M 2 0) "__init__" "MintError.__init__" 0 [] .none .none .none .none none .none .none 0),#[]⟩) (n o178 (n o177 (n (⟨.type "tuple",none,.seq #[.str "self" 535] 0,#[]⟩) (y (⟨.type "super",none,.fields #[.ref 511,.ref 511,.ref 511],#[]⟩)) (y (⟨.type "tuple",none,.seq #[.str "state" 1239,.str "one" 1240,.str "other" 1241,.str "size" 1242,.str "first" 1243,.str "second" 1244] 0,#[]⟩))) (n o178 (y o177) (y (⟨.type "function",none,.func (fD (S 86) "lanes" "lanes" 3 [] .none .none .none (.str "octetmint.transfers" 1208) none (.ref 897) .none 0),#[]⟩)))) (n o178 (n o177 (y (⟨.type "frame",none,.plain,#[(some (.ref 577)),(some (.ref 3)),(some (.ref 574)),none,(some (.str "octetmint.operands" 901)),none,(some (.ref 0))]⟩)) (y o177)) (n (⟨.none,none,.func (fD (M 43 5) "offset" "State.offset" 0 [] .none .none .none .none none .none .none 0),#[]⟩) (y (⟨.type "function",none,.func (fD (M 51 0) "__init__" "Instruction.__init__" 3 [] (.ref 699) .none .none (.str "octetmint.operands" 901) none (.ref 705) .none 0),#[]⟩)) (y (⟨.type "tuple",none,.seq #[.str "script" 1505,.str "store" 1506,.str "cell" 1507] 0,#[]⟩))))) (n o177 (n (⟨.none,none,.func (fD (M 22 5) "copy" "Flags.copy" 0 [] .none .none .none .none none .none .none 0),#[]⟩) (n o449 (y (⟨.type "tuple",none,.seq #[.str "self" 926] 0,#[]⟩)) (y (⟨.type "function",none,.func (fD (S 72) "stack_deed" "stack_deed" 3 [] .none .none .none (.str "octetmint.transfers" 1208) none (.ref 801) .none 0),#[]⟩))) (n o571 (y o178) (y o995))) (n o387 (n o177 (y (⟨.type "code",none,.fields #[.str "Imm" 994,.str "Imm" 995,.str "/claim/cut.py" 996,.int 391 0,.int 0 0,.int 0 0,.int 0 0,.int 0 0,.ref 608,.bool false,.int 181 0,.ref 609,.none,.none,.none,.none,.int 997 0,.int 391 0,.str "/claim/cut.py" 998],#[]⟩)) (y o177)) (n o178 (y o854) (y (⟨.type "function",none,.func (fD (S 102) "_law_refused" "_law_refused" 3 [] .none .none .none (.str "law_qd0115_01" 1494) none (.ref 993) .none 0),#[]⟩)))))) (n o225 (n o178 (n (⟨.type "tuple",none,.seq #[.str "self" 371,.str "number" 372] 0,#[]⟩) (n (⟨.none,none,.func (fD (M 33 5) "told" "Register.told" 0 [] .none .none .none .none none .none .none 0),#[]⟩) (y o177) (y (⟨.none,none,.func (fD (S 70) "push_operand" "push_operand" 0 [] .none .none .none .none none .none .none 0),#[]⟩))) (n o177 (y (⟨.none,none,.func (fD (M 50 1) "told" "Mem.told" 0 [] .none .none .none .none none .none .none 0),#[]⟩)) (y o178))) (n o177 (n o497 (y o178) (y o949)) (n o599 (y o177) (y (⟨.none,none,.func (fD (S 100) "_law_row" "_law_row" 0 [] .none .none .none .none none .none .none 0),#[]⟩))))) (n o291 (n (⟨.type "function",none,.func (fD (M 22 7) "put" "Flags.put" 3 [] .none .none .none (.str "octetmint.flags" 316) none (.ref 177) .none 0),#[]⟩) (n o197 (y (⟨.none,none,.func (fD (M 47 3) "registers" "Operand.registers" 0 [] .none .none .none .none none .none .none 0),#[]⟩)) (y o178)) (n o177 (y (⟨.type "super",none,.fields #[.ref 689,.ref 689,.ref 689],#[]⟩)) (y o177))) (n o177 (n (⟨.type "function",none,.func (fD (M 40 8) "spans" "Memory.spans" 3 [] .none .none .none (.str "octetmint.machine" 588) none (.ref 369) .none 0),#[]⟩) (y (⟨.type "function",none,.func (fD (M 49 1) "told" "Imm.told" 3 [] .none .none .none (.str "octetmint.operands" 901) none (.ref 625) .none 0),#[]⟩)) (y (⟨.type "tuple",none,.seq #[.str "name" 1393] 0,#[]⟩))) (n o177 (y o177) z))))) (n (⟨.none,none,.fields #[.int 7 0,.int 4 0,.ref 35,.int 12 0,.int 4 0,.ref 42],#[]⟩) (n o215 (n o177 (n o178 (n o177 (y (⟨.type "function",none,.func (fD (S 44) "done" "done" 3 [] .none .none .none (.str "octetmint.machine" 588) none (.ref 521) .none 0),#[]⟩)) (y o177)) (n o534 (y o177) (y o177))) (n o373 (n (⟨.none,none,.func (fD (M 40 2) "set_octet" "Memory.set_octet" 0 [] .none .none .none .none none .none .none 0),#[]⟩) (y o177) (y (⟨.none,none,.func (fD (S 78) "string_round" "string_round" 0 [] .none .none .none .none none .none .none 0),#[]⟩))) (n o594 (y (⟨.type "tuple",none,.seq #[.str "self" 1142,.str "at" 1143,.str "operand" 1144] 0,#[]⟩)) (y o177)))) (n (⟨.none,none,.func (fD (S 9) "parity" "parity" 0 [] .none .none .none .none none .none .none 0),#[]⟩) (n o349 (n o177 (y o177) (y o177)) (n (⟨.type "function",none,.func (fD (M 43 1) "get" "State.get" 3 [] .none .none .none (.str "octetmint.machine" 588) none (.ref 425) .none 0),#[]⟩) (y (⟨.type "tuple",none,.seq #[.str "self" 1095] 0,#[]⟩)) (y (⟨.type "function",none,.func (fD (S 93) "vector_move" "vector_move" 3 [] .none .none .none (.str "octetmint.transfers" 1208) none (.ref 937) .none 0),#[]⟩)))) (n o411 (n o511 (y o734) (y o178)) (n (⟨.type "tuple",none,.seq #[.str "self" 842,.str "width" 843,.str "worth" 844] 0,#[]⟩) (y (⟨.type "builtin_function_or_method",none,.fields #[.builtin "object.__init_subclass__",.ref 742],#[]⟩)) z)))) (n (o234 P) (n (⟨.type "tuple",none,.seq #[.str "worth" 284,.str "n" 285] 0,#[]⟩) (n o177 (n (⟨.type "super",none,.fields #[.ref 279,.ref 279,.ref 279],#[]⟩) (y o178) (y o917)) (n o566 (y o779) (y (⟨.none,none,.func (fD (S 91) "lane_result" "lane_result" 0 [] .none .none .none .none none .none .none 0),#[]⟩)))) (n (⟨.none,none,.func (fD (S 26) "szp" "szp" 0 [] .none .none .none .none none .none .none 0),#[]⟩) (n (⟨.type "function",none,.func (fD (M 40 4) "write" "Memory.write" 3 [] .none .none .none (.str "octetmint.machine" 588) none (.ref 345) .none 0),#[]⟩) (y o713) (y (⟨.type "function",none,.func (fD (S 80) "string_deed" "string_deed" 3 [] .none .none .none (.str "octetmint.transfers" 1208) none (.ref 857) .none 0),#[]⟩))) (n o177 (y (⟨.none,none,.func (fD (M 51 4) "symbols" "Instruction.symbols" 0 [] .none .none .none .none none .none .none 0),#[]⟩)) (y o1039)))) (n (⟨.type "frame",none,.plain,#[(some (.ref 121)),(some (.ref 3)),(some (.ref 118)),none,(some (.str "octetmint.flags" 316)),none,(some (.ref 0))]⟩) (n o359 (n (⟨.type "tuple",none,.seq #[.str "self" 609] 0,#[]⟩) (y (⟨.type "super",none,.fields #[.ref 567,.ref 567,.ref 567],#[]⟩)) (y (⟨.type "tuple",none,.seq #[.str "state" 1316,.str "instruction" 1317,.str "name" 1318,.str "target" 1319] 0,#[]⟩))) (n o178 (y (⟨.type "frame",none,.plain,#[(some (.ref 697)),(some (.ref 3)),(some (.ref 694)),none,(some (.str "octetmint.operands" 901)),none,(some (.ref 0))]⟩)) (y o178))) (n o178 (n o177 (y (⟨.type "tuple",none,.seq #[.str "name" 1028,.str "worth" 1029] 0,#[]⟩)) (y o177)) (n (⟨.none,none,.func (fD (M 43 13) "copy" "State.copy" 0 [] .none .none .none .none none .none .none 0),#[]⟩) (y o178) z)))))) (n o182 (n (⟨.type "tuple",none,.seq #[.type "Exception"] 0,#[]⟩) (n o178 (n (o266 P) (n (⟨.none,none,.func (fD (M 22 1) "told" "Flags.told" 0 [] .none .none .none .none none .none .none 0),#[]⟩) (n o427 (y o634) (y (⟨.type "function",none,.func (fD (S 68) "exchange" "exchange" 3 [] .none .none .none (.str "octetmint.transfers" 1208) none (.ref 773) .none 0),#[]⟩))) (n o527 (y (⟨.type "tuple",none,.seq #[.int 0 1046,.str "" 1047,.str "" 1048] 0,#[]⟩)) (y o177))) (n o371 (n o177 (y o177) (y o177)) (n o178 (y o838) (y (⟨.type "function",none,.func (fD (S 98) "_law_pen" "_law_pen" 3 [] .none .none .none (.str "law_qd0115_01" 1494) none (.ref 965) .none 0),#[]⟩))))) (n o177 (n o178 (n o177 (y (⟨.type "function",none,.func (fD (M 47 1) "told" "Operand.told" 3 [] .none .none .none (.str "octetmint.operands" 901) none (.ref 549) .none 0),#[]⟩)) (y o177)) (n (⟨.type "tuple",none,.seq #[.str "self" 751,.str "register" 752] 0,#[]⟩) (y o786) (y (⟨.type "tuple",none,.seq #[.str "state" 1464,.str "name" 1465,.str "one" 1466,.str "other" 1467,.str "size" 1468] 0,#[]⟩)))) (n (o408 P) (n o509 (y o178) (y (⟨.none,none,.func (fD (S 82) "need_aligned" "need_aligned" 0 [] .none .none .none .none none .none .none 0),#[]⟩))) (n o610 (y o861) (y o1046))))) (n o178 (n o276 (n (⟨.type "function",none,.func (fD (M 22 3) "unpack" "Flags.unpack" 3 [] .none .none .none (.str "octetmint.flags" 316) none (.ref 149) .none 0),#[]⟩) (n (o440 P) (y (⟨.none,none,.fields #[.int 369 0,.int 4 0,.ref 542,.int 372 0,.int 4 0,.ref 549,.int 375 0,.int 4 0,.ref 556,.int 378 0,.int 4 0,.ref 563],#[]⟩)) (y o178)) (n o177 (y o178) (y o988))) (n o177 (n o499 (y o708) (y (⟨.type "tuple",none,.seq #[.str "state" 1357,.str "instruction" 1358,.str "sort" 1359,.str "size" 1360,.str "prefix" 1361] 0,#[]⟩))) (n o177 (y o177) (y o178)))) (n (o319 P) (n o177 (n o481 (y (o680 P)) (y o933)) (n (⟨.none,none,.func (fD (M 43 3) "put_low" "State.put_low" 0 [] .none .none .none .none none .none .none 0),#[]⟩) (y (o828 P)) (y (⟨.none,none,.func (fD (S 95) "transfer_deed" "transfer_deed" 0 [] .none .none .none .none none .none .none 0),#[]⟩)))) (n (⟨.none,none,.func (fD (M 33 1) "code" "Register.code" 0 [] .none .none .none .none none .none .none 0),#[]⟩) (n o177 (y o177) (y (⟨.type "function",none,.func (fD (S 84) "part_size" "part_size" 3 [] .none .none .none (.str "octetmint.transfers" 1208) none (.ref 885) .none 0),#[]⟩))) (n o177 (y (⟨.none,none,.func (fD (S 54) "string_stem" "string_stem" 0 [] .none .none .none .none none .none .none 0),#[]⟩)) z))))) (n o177 (n o257 (n (⟨.none,none,.func (fD (S 5) "mask" "mask" 0 [] .none .none .none .none none .none .none 0),#[]⟩) (n o333 (n o177 (y o177) (y o177)) (n (⟨.type "builtin_function_or_method",none,.fields #[.builtin "object.__init_subclass__",.ref 394],#[]⟩) (y o177) (y (⟨.none,none,.func (fD (S 89) "lane_size" "lane_size" 0 [] .none .none .none .none none .none .none 0),#[]⟩)))) (n o376 (n o178 (y (⟨.none,none,.func (fD (M 48 1) "told" "Reg.told" 0 [] .none .none .none .none none .none .none 0),#[]⟩)) (y o178)) (n o596 (y (⟨.type "function",none,.func (fD (M 51 2) "memory_at" "Instruction.memory_at" 3 [] .none .none .none (.str "octetmint.operands" 901) none (.ref 717) .none 0),#[]⟩)) (y o177)))) (n o178 (n o351 (n (⟨.none,none,.func (fD (S 36) "gpr" "gpr" 0 [] .none .none .none .none none .none .none 0),#[]⟩) (y o177) (y (⟨.none,none,.func (fD (S 74) "count_down" "count_down" 0 [] .none .none .none .none none .none .none 0),#[]⟩))) (n o177 (y (⟨.type "function",none,.func (fD (M 50 5) "is_absolute" "Mem.is_absolute" 3 [] .none .none .none (.str "octetmint.operands" 901) none (.ref 685) .none 0),#[]⟩)) (y o177))) (n o177 (n (⟨.type "tuple",none,.seq #[.str "self" 678] 0,#[]⟩) (y (⟨.type "tuple",none,.seq #[.str "self" 1017] 0,#[]⟩)) (y o965)) (n (⟨.type "function",none,.func (fD (M 43 11) "pop" "State.pop" 3 [] .none .none .none (.str "octetmint.machine" 588) none (.ref 493) .none 0),#[]⟩) (y o177) z)))) (n o225 (n (⟨.type "function",none,.func (fD (S 7) "bit" "bit" 3 [] .none .none .none (.str "octetmint.basics" 194) none (.ref 93) .none 0),#[]⟩) (n o177 (n (⟨.type "tuple",none,.seq #[.str "size" 568] 0,#[]⟩) (y o662) (y (⟨.type "tuple",none,.seq #[.str "state" 1284,.str "instruction" 1285,.str "name" 1286] 0,#[]⟩))) (n o178 (y (⟨.none,none,.func (fD (M 50 3) "registers" "Mem.registers" 0 [] .none .none .none .none none .none .none 0),#[]⟩)) (y o178))) (n o178 (n o177 (y o197) (y o177)) (n (⟨.none,none,.func (fD (M 43 9) "write" "State.write" 0 [] .none .none .none .none none .none .none 0),#[]⟩) (y o178) (y (⟨.type "tuple",none,.seq #[.str "state" 1545,.str "rows" 1546] 0,#[]⟩))))) (n o177 (n o366 (n o486 (y (⟨.type "dict",none,.dict #[dE P "__module__" 960 (.str "octetmint.operands" 901),dE P "__qualname__" 962 (.str "Reg" 961),dE P "__firstlineno__" 964 (.int 380 963),dE P "__init__" 972 (.ref 585),dE P "told" 979 (.ref 592),dE P "registers" 986 (.ref 599),dE P "__static_attributes__" 988 (.ref 600)] 7,#[]⟩)) (y (⟨.type "function",none,.func (fD (S 76) "jump_deed" "jump_deed" 3 [] .none .none .none (.str "octetmint.transfers" 1208) none (.ref 829) .none 0),#[]⟩))) (n o177 (y (⟨.type "tuple",none,.seq #[.str "self" 1126,.str "name" 1127,.str "operands" 1128,.str "prefix" 1129] 0,#[]⟩)) (y o1023))) (n o422 (n (⟨.none,none,.func (fD (M 40 10) "copy" "Memory.copy" 0 [] .none .none .none .none none .none .none 0),#[]⟩) (y (⟨.type "builtin_function_or_method",none,.fields #[.builtin "object.__init_subclass__",.ref 636],#[]⟩)) (y o177)) (n (o628 P) (y o876) z)))))))))
noncomputable def heapF (P : Params) : Heap:=⟨#[(o159 P),(o162 P),(o185 P),(o1008 P),(⟨.type "module",(some 0),.plain,#[]⟩),(⟨.type "module",(some 3),.plain,#[]⟩),(⟨.type "dict",none,.dict #[] 0,#[]⟩),o177,o178,o179,o180,o177,o1009,o181,o182,o177,o178,(⟨.type "tuple",none,.seq #[.str "k" 190] 0,#[]⟩),o177,(⟨.none,none,.func (fD (S 0) "_wall" "_wall" 0 [] .none .none .none .none none .none .none 0),#[]⟩),o194,(⟨.type "function",none,.func (fD (S 0) "_wall" "_wall" 3 [] .none .none .none (.str "__main__" 164) none (.ref 20) .none 0),#[]⟩),(⟨.type "tuple",none,.seq #[.type "Exception"] 0,#[]⟩),o197,(o204 P),o177,(⟨.none,none,.fields #[.int 7 0,.int 4 0,.ref 35,.int 12 0,.int 4 0,.ref 42],#[]⟩),o206,(⟨.type "frame",none,.plain,#[(some (.ref 27)),(some (.ref 3)),(some (.ref 24)),none,(some (.str "octetmint.basics" 194)),none,(some (.ref 0))]⟩),(⟨.type "tuple",none,.seq #[.none] 0,#[]⟩),o177,o178,(⟨.type "tuple",none,.seq #[.str "self" 211,.str "what" 212,.str "at" 213] 0,#[]⟩),o177,(⟨.none,none,.func (fD (M 2 0) "__init__" "MintError.__init__" 0 [] .none .none .none .none none .none .none 0),#[]⟩),o211,o212,o177,o178,(⟨.type "tuple",none,.seq #[.str "self" 220] 0,#[]⟩),o177,(⟨.none,none,.func (fD (M 2 1) "told" "MintError.told" 0 [] .none .none .none .none none .none .none 0),#[]⟩),o215,(⟨.type "function",none,.func (fD (M 2 1) "told" "MintError.told" 3 [] .none .none .none (.str "octetmint.basics" 194) none (.ref 42) .none 0),#[]⟩),(⟨.type "tuple",none,.seq #[.str "at" 224,.str "what" 225] 0,#[]⟩),(o220 P),o257,o222,(⟨.type "super",none,.fields #[.ref 46,.ref 46,.ref 46],#[]⟩),(⟨.type "builtin_function_or_method",none,.fields #[.builtin "object.__init_subclass__",.ref 46],#[]⟩),o225,o197,(o230 P),o177,o178,o231,(⟨.type "frame",none,.plain,#[(some (.ref 55)),(some (.ref 3)),(some (.ref 52)),none,(some (.str "octetmint.basics" 194)),none,(some (.ref 0))]⟩),o177,(o234 P),o235,(⟨.type "super",none,.fields #[.ref 59,.ref 59,.ref 59],#[]⟩),(⟨.type "builtin_function_or_method",none,.fields #[.builtin "object.__init_subclass__",.ref 59],#[]⟩),o225,o197,(o262 P),o177,o178,o263,(⟨.type "frame",none,.plain,#[(some (.ref 67)),(some (.ref 3)),(some (.ref 64)),none,(some (.str "octetmint.basics" 194)),none,(some (.ref 0))]⟩),o177,(o266 P),o267,(⟨.type "super",none,.fields #[.ref 71,.ref 71,.ref 71],#[]⟩),(⟨.type "builtin_function_or_method",none,.fields #[.builtin "object.__init_subclass__",.ref 71],#[]⟩),o177,o178,(⟨.type "tuple",none,.seq #[.str "size" 269] 0,#[]⟩),o177,(⟨.none,none,.func (fD (S 5) "mask" "mask" 0 [] .none .none .none .none none .none .none 0),#[]⟩),o272,(⟨.type "function",none,.func (fD (S 5) "mask" "mask" 3 [] .none .none .none (.str "octetmint.basics" 194) none (.ref 79) .none 0),#[]⟩),o177,o178,(⟨.type "tuple",none,.seq #[.str "worth" 276,.str "size" 277] 0,#[]⟩),o177,(⟨.none,none,.func (fD (S 6) "wrap" "wrap" 0 [] .none .none .none .none none .none .none 0),#[]⟩),o276,(⟨.type "function",none,.func (fD (S 6) "wrap" "wrap" 3 [] .none .none .none (.str "octetmint.basics" 194) none (.ref 86) .none 0),#[]⟩),o177,o178,(⟨.type "tuple",none,.seq #[.str "worth" 284,.str "n" 285] 0,#[]⟩),o177,(⟨.none,none,.func (fD (S 7) "bit" "bit" 0 [] .none .none .none .none none .none .none 0),#[]⟩),o280,(⟨.type "function",none,.func (fD (S 7) "bit" "bit" 3 [] .none .none .none (.str "octetmint.basics" 194) none (.ref 93) .none 0),#[]⟩),o177,o178,o282,o177,(⟨.none,none,.func (fD (S 8) "ones" "ones" 0 [] .none .none .none .none none .none .none 0),#[]⟩),o284,(⟨.type "function",none,.func (fD (S 8) "ones" "ones" 3 [] .none .none .none (.str "octetmint.basics" 194) none (.ref 100) .none 0),#[]⟩),o177,o178,(⟨.type "tuple",none,.seq #[.str "worth" 302] 0,#[]⟩),o177,(⟨.none,none,.func (fD (S 9) "parity" "parity" 0 [] .none .none .none .none none .none .none 0),#[]⟩),o288,(⟨.type "function",none,.func (fD (S 9) "parity" "parity" 3 [] .none .none .none (.str "octetmint.basics" 194) none (.ref 107) .none 0),#[]⟩),o177,o178,o177,o177,(⟨.none,none,.func (fD (S 12) "condition_names" "condition_names" 0 [] .none .none .none .none none .none .none 0),#[]⟩),o291,o292,o177,o197,(o319 P),o177,o320,o321,(⟨.type "frame",none,.plain,#[(some (.ref 121)),(some (.ref 3)),(some (.ref 118)),none,(some (.str "octetmint.flags" 316)),none,(some (.ref 0))]⟩),o177,o178,(⟨.type "tuple",none,.seq #[.str "self" 349] 0,#[]⟩),o177,(⟨.none,none,.func (fD (M 22 0) "__init__" "Flags.__init__" 0 [] .none .none .none .none none .none .none 0),#[]⟩),o325,o326,o177,o178,(⟨.type "tuple",none,.seq #[.str "self" 356] 0,#[]⟩),o177,(⟨.none,none,.func (fD (M 22 1) "told" "Flags.told" 0 [] .none .none .none .none none .none .none 0),#[]⟩),o329,(⟨.type "function",none,.func (fD (M 22 1) "told" "Flags.told" 3 [] .none .none .none (.str "octetmint.flags" 316) none (.ref 135) .none 0),#[]⟩),o177,o178,(⟨.type "tuple",none,.seq #[.str "self" 363,.str "low" 364] 0,#[]⟩),o177,(⟨.none,none,.func (fD (M 22 2) "pack" "Flags.pack" 0 [] .none .none .none .none none .none .none 0),#[]⟩),o333,(⟨.type "function",none,.func (fD (M 22 2) "pack" "Flags.pack" 3 [] .none .none .none (.str "octetmint.flags" 316) none (.ref 142) .none 0),#[]⟩),o177,o178,(⟨.type "tuple",none,.seq #[.str "self" 371,.str "number" 372] 0,#[]⟩),o177,(⟨.none,none,.func (fD (M 22 3) "unpack" "Flags.unpack" 0 [] .none .none .none .none none .none .none 0),#[]⟩),o337,(⟨.type "function",none,.func (fD (M 22 3) "unpack" "Flags.unpack" 3 [] .none .none .none (.str "octetmint.flags" 316) none (.ref 149) .none 0),#[]⟩),o177,o178,(⟨.type "tuple",none,.seq #[.str "self" 379,.str "octet" 380] 0,#[]⟩),o177,(⟨.none,none,.func (fD (M 22 4) "unpack_low" "Flags.unpack_low" 0 [] .none .none .none .none none .none .none 0),#[]⟩),o341,o342,o177,o178,(⟨.type "tuple",none,.seq #[.str "self" 387,.str "found" 388] 0,#[]⟩),o177,(⟨.none,none,.func (fD (M 22 5) "copy" "Flags.copy" 0 [] .none .none .none .none none .none .none 0),#[]⟩),o345,(⟨.type "function",none,.func (fD (M 22 5) "copy" "Flags.copy" 3 [] .none .none .none (.str "octetmint.flags" 316) none (.ref 163) .none 0),#[]⟩),o177,o178,(⟨.type "tuple",none,.seq #[.str "self" 395,.str "name" 396,.str "names" 397] 0,#[]⟩),o177,(⟨.none,none,.func (fD (M 22 6) "get" "Flags.get" 0 [] .none .none .none .none none .none .none 0),#[]⟩),o349,(⟨.type "function",none,.func (fD (M 22 6) "get" "Flags.get" 3 [] .none .none .none (.str "octetmint.flags" 316) none (.ref 170) .none 0),#[]⟩),o177,o178,o351,o177,(⟨.none,none,.func (fD (M 22 7) "put" "Flags.put" 0 [] .none .none .none .none none .none .none 0),#[]⟩),o353,(⟨.type "function",none,.func (fD (M 22 7) "put" "Flags.put" 3 [] .none .none .none (.str "octetmint.flags" 316) none (.ref 177) .none 0),#[]⟩),o177,o178,(⟨.type "tuple",none,.seq #[.str "self" 416] 0,#[]⟩),o177,(⟨.none,none,.func (fD (M 22 8) "show" "Flags.show" 0 [] .none .none .none .none none .none .none 0),#[]⟩),o357,(⟨.type "function",none,.func (fD (M 22 8) "show" "Flags.show" 3 [] .none .none .none (.str "octetmint.flags" 316) none (.ref 184) .none 0),#[]⟩),o359,(o363 P),o364,o365,o366,(⟨.type "super",none,.fields #[.ref 188,.ref 188,.ref 188],#[]⟩),(⟨.type "builtin_function_or_method",none,.fields #[.builtin "object.__init_subclass__",.ref 188],#[]⟩),o177,o178,(⟨.type "tuple",none,.seq #[.str "condition" 438] 0,#[]⟩),o177,(⟨.none,none,.func (fD (S 23) "condition_number" "condition_number" 0 [] .none .none .none .none none .none .none 0),#[]⟩),o371,o372,o177,o178,o373,o177,(⟨.none,none,.func (fD (S 24) "holds_number" "holds_number" 0 [] .none .none .none .none none .none .none 0),#[]⟩),o375,o376,o177,o178,(⟨.type "tuple",none,.seq #[.str "flags" 455,.str "condition" 456] 0,#[]⟩),o177,(⟨.none,none,.func (fD (S 25) "holds" "holds" 0 [] .none .none .none .none none .none .none 0),#[]⟩),o379,(⟨.type "function",none,.func (fD (S 25) "holds" "holds" 3 [] .none .none .none (.str "octetmint.flags" 316) none (.ref 212) .none 0),#[]⟩),o177,o178,o381,o177,(⟨.none,none,.func (fD (S 26) "szp" "szp" 0 [] .none .none .none .none none .none .none 0),#[]⟩),o383,(⟨.type "function",none,.func (fD (S 26) "szp" "szp" 3 [] .none .none .none (.str "octetmint.flags" 316) none (.ref 219) .none 0),#[]⟩),o177,o178,o385,o177,(⟨.none,none,.func (fD (S 27) "sub_flags" "sub_flags" 0 [] .none .none .none .none none .none .none 0),#[]⟩),o387,(⟨.type "function",none,.func (fD (S 27) "sub_flags" "sub_flags" 3 [] .none .none .none (.str "octetmint.flags" 316) none (.ref 226) .none 0),#[]⟩),o177,o197,(o408 P),o177,o409,o410,o411,o177,o178,o412,o177,(⟨.none,none,.func (fD (M 33 0) "__init__" "Register.__init__" 0 [] .none .none .none .none none .none .none 0),#[]⟩),o414,o415,o177,o178,(⟨.type "tuple",none,.seq #[.str "self" 521] 0,#[]⟩),o177,(⟨.none,none,.func (fD (M 33 1) "code" "Register.code" 0 [] .none .none .none .none none .none .none 0),#[]⟩),o418,(⟨.type "function",none,.func (fD (M 33 1) "code" "Register.code" 3 [] .none .none .none (.str "octetmint.registers" 485) none (.ref 247) .none 0),#[]⟩),o177,o178,(⟨.type "tuple",none,.seq #[.str "self" 528] 0,#[]⟩),o177,(⟨.none,none,.func (fD (M 33 2) "is_extended" "Register.is_extended" 0 [] .none .none .none .none none .none .none 0),#[]⟩),o422,o423,o177,o178,(⟨.type "tuple",none,.seq #[.str "self" 535] 0,#[]⟩),o177,(⟨.none,none,.func (fD (M 33 3) "is_high" "Register.is_high" 0 [] .none .none .none .none none .none .none 0),#[]⟩),o426,o427,o177,o178,(⟨.type "tuple",none,.seq #[.str "self" 542] 0,#[]⟩),o177,(⟨.none,none,.func (fD (M 33 4) "needs_rex" "Register.needs_rex" 0 [] .none .none .none .none none .none .none 0),#[]⟩),o430,o431,o177,o178,(⟨.type "tuple",none,.seq #[.str "self" 549] 0,#[]⟩),o177,(⟨.none,none,.func (fD (M 33 5) "told" "Register.told" 0 [] .none .none .none .none none .none .none 0),#[]⟩),o434,o435,o436,(o440 P),o441,o442,o443,(⟨.type "super",none,.fields #[.ref 279,.ref 279,.ref 279],#[]⟩),(⟨.type "builtin_function_or_method",none,.fields #[.builtin "object.__init_subclass__",.ref 279],#[]⟩),o177,o178,(⟨.type "tuple",none,.seq #[.str "size" 568] 0,#[]⟩),o177,(⟨.none,none,.func (fD (S 34) "early_names" "early_names" 0 [] .none .none .none .none none .none .none 0),#[]⟩),o448,o449,o177,o178,(⟨.type "tuple",none,.seq #[.str "size" 575] 0,#[]⟩),o177,(⟨.none,none,.func (fD (S 35) "late_ending" "late_ending" 0 [] .none .none .none .none none .none .none 0),#[]⟩),o452,o453,o177,o178,(⟨.type "tuple",none,.seq #[.str "number" 582,.str "size" 583,.str "names" 584] 0,#[]⟩),o177,(⟨.none,none,.func (fD (S 36) "gpr" "gpr" 0 [] .none .none .none .none none .none .none 0),#[]⟩),o456,(⟨.type "function",none,.func (fD (S 36) "gpr" "gpr" 3 [] .none .none .none (.str "octetmint.registers" 485) none (.ref 303) .none 0),#[]⟩),o177,o197,(o479 P),o177,o480,o481,o482,o177,o178,(⟨.type "tuple",none,.seq #[.str "self" 609] 0,#[]⟩),o177,(⟨.none,none,.func (fD (M 40 0) "__init__" "Memory.__init__" 0 [] .none .none .none .none none .none .none 0),#[]⟩),o485,o486,o177,o178,(⟨.type "tuple",none,.seq #[.str "self" 616,.str "place" 617] 0,#[]⟩),o177,(⟨.none,none,.func (fD (M 40 1) "octet" "Memory.octet" 0 [] .none .none .none .none none .none .none 0),#[]⟩),o489,(⟨.type "function",none,.func (fD (M 40 1) "octet" "Memory.octet" 3 [] .none .none .none (.str "octetmint.machine" 588) none (.ref 324) .none 0),#[]⟩),o177,o178,(⟨.type "tuple",none,.seq #[.str "self" 624,.str "place" 625,.str "octet" 626] 0,#[]⟩),o177,(⟨.none,none,.func (fD (M 40 2) "set_octet" "Memory.set_octet" 0 [] .none .none .none .none none .none .none 0),#[]⟩),o493,o494,o177,o178,o495,o177,(⟨.none,none,.func (fD (M 40 3) "read" "Memory.read" 0 [] .none .none .none .none none .none .none 0),#[]⟩),o497,(⟨.type "function",none,.func (fD (M 40 3) "read" "Memory.read" 3 [] .none .none .none (.str "octetmint.machine" 588) none (.ref 338) .none 0),#[]⟩),o177,o178,o499,o177,(⟨.none,none,.func (fD (M 40 4) "write" "Memory.write" 0 [] .none .none .none .none none .none .none 0),#[]⟩),o501,(⟨.type "function",none,.func (fD (M 40 4) "write" "Memory.write" 3 [] .none .none .none (.str "octetmint.machine" 588) none (.ref 345) .none 0),#[]⟩),o177,o178,o503,o177,(⟨.none,none,.func (fD (M 40 5) "load" "Memory.load" 0 [] .none .none .none .none none .none .none 0),#[]⟩),o505,(⟨.type "function",none,.func (fD (M 40 5) "load" "Memory.load" 3 [] .none .none .none (.str "octetmint.machine" 588) none (.ref 352) .none 0),#[]⟩),o177,o178,(⟨.none,none,.func (fD (M 40 6) "octets" "Memory.octets" 0 [] .none .none .none .none none .none .none 0),#[]⟩),o508,o509,o177,o178,(⟨.none,none,.func (fD (M 40 7) "written" "Memory.written" 0 [] .none .none .none .none none .none .none 0),#[]⟩),o511,o512,o177,o178,(⟨.type "tuple",none,.seq #[.str "self" 678] 0,#[]⟩),o177,(⟨.none,none,.func (fD (M 40 8) "spans" "Memory.spans" 0 [] .none .none .none .none none .none .none 0),#[]⟩),o515,(⟨.type "function",none,.func (fD (M 40 8) "spans" "Memory.spans" 3 [] .none .none .none (.str "octetmint.machine" 588) none (.ref 369) .none 0),#[]⟩),o177,o178,o517,o177,(⟨.none,none,.func (fD (M 40 9) "find" "Memory.find" 0 [] .none .none .none .none none .none .none 0),#[]⟩),o519,(⟨.type "function",none,.func (fD (M 40 9) "find" "Memory.find" 3 [] .none .none .none (.str "octetmint.machine" 588) none (.ref 376) .none 0),#[]⟩),o177,o178,(⟨.type "tuple",none,.seq #[.str "self" 696,.str "other" 697,.str "place" 698] 0,#[]⟩),o177,(⟨.none,none,.func (fD (M 40 10) "copy" "Memory.copy" 0 [] .none .none .none .none none .none .none 0),#[]⟩),o523,(⟨.type "function",none,.func (fD (M 40 10) "copy" "Memory.copy" 3 [] .none .none .none (.str "octetmint.machine" 588) none (.ref 383) .none 0),#[]⟩),o177,o178,(⟨.type "tuple",none,.seq #[.str "self" 705] 0,#[]⟩),o177,(⟨.none,none,.func (fD (M 40 11) "told" "Memory.told" 0 [] .none .none .none .none none .none .none 0),#[]⟩),o527,(⟨.type "function",none,.func (fD (M 40 11) "told" "Memory.told" 3 [] .none .none .none (.str "octetmint.machine" 588) none (.ref 390) .none 0),#[]⟩),(⟨.type "tuple",none,.seq #[.str "held" 709] 0,#[]⟩),(o533 P),o534,o535,o536,(⟨.type "super",none,.fields #[.ref 394,.ref 394,.ref 394],#[]⟩),(⟨.type "builtin_function_or_method",none,.fields #[.builtin "object.__init_subclass__",.ref 394],#[]⟩),o177,o178,(⟨.type "tuple",none,.seq #[.str "old" 721,.str "worth" 722,.str "size" 723] 0,#[]⟩),o177,(⟨.none,none,.func (fD (S 41) "joined" "joined" 0 [] .none .none .none .none none .none .none 0),#[]⟩),o541,(⟨.type "function",none,.func (fD (S 41) "joined" "joined" 3 [] .none .none .none (.str "octetmint.machine" 588) none (.ref 404) .none 0),#[]⟩),o177,o197,(o565 P),o177,o566,o567,o568,o177,o178,(⟨.type "tuple",none,.seq #[.str "self" 743,.str "iset" 744] 0,#[]⟩),o177,(⟨.none,none,.func (fD (M 43 0) "__init__" "State.__init__" 0 [] .none .none .none .none none .none .none 0),#[]⟩),o571,o572,o177,o178,(⟨.type "tuple",none,.seq #[.str "self" 751,.str "register" 752] 0,#[]⟩),o177,(⟨.none,none,.func (fD (M 43 1) "get" "State.get" 0 [] .none .none .none .none none .none .none 0),#[]⟩),o575,(⟨.type "function",none,.func (fD (M 43 1) "get" "State.get" 3 [] .none .none .none (.str "octetmint.machine" 588) none (.ref 425) .none 0),#[]⟩),o177,o178,o577,o177,(⟨.none,none,.func (fD (M 43 2) "put" "State.put" 0 [] .none .none .none .none none .none .none 0),#[]⟩),o579,(⟨.type "function",none,.func (fD (M 43 2) "put" "State.put" 3 [] .none .none .none (.str "octetmint.machine" 588) none (.ref 432) .none 0),#[]⟩),o177,o178,o581,o177,(⟨.none,none,.func (fD (M 43 3) "put_low" "State.put_low" 0 [] .none .none .none .none none .none .none 0),#[]⟩),o583,o584,o177,o178,(⟨.none,none,.func (fD (M 43 4) "registers" "State.registers" 0 [] .none .none .none .none none .none .none 0),#[]⟩),o586,o587,o177,o178,(⟨.type "tuple",none,.seq #[.str "self" 786,.str "mem" 787,.str "total" 788] 0,#[]⟩),o177,(⟨.none,none,.func (fD (M 43 5) "offset" "State.offset" 0 [] .none .none .none .none none .none .none 0),#[]⟩),o590,(⟨.type "function",none,.func (fD (M 43 5) "offset" "State.offset" 3 [] .none .none .none (.str "octetmint.machine" 588) none (.ref 451) .none 0),#[]⟩),o177,o178,(⟨.type "tuple",none,.seq #[.str "self" 795,.str "mem" 796,.str "base" 797] 0,#[]⟩),o177,(⟨.none,none,.func (fD (M 43 6) "place" "State.place" 0 [] .none .none .none .none none .none .none 0),#[]⟩),o594,(⟨.type "function",none,.func (fD (M 43 6) "place" "State.place" 3 [] .none .none .none (.str "octetmint.machine" 588) none (.ref 458) .none 0),#[]⟩),o177,o178,o596,o177,(⟨.none,none,.func (fD (M 43 7) "size_of" "State.size_of" 0 [] .none .none .none .none none .none .none 0),#[]⟩),o598,o599,o177,o178,(⟨.type "tuple",none,.seq #[.str "self" 814,.str "operand" 815,.str "size" 816] 0,#[]⟩),o177,(⟨.none,none,.func (fD (M 43 8) "read" "State.read" 0 [] .none .none .none .none none .none .none 0),#[]⟩),o602,(⟨.type "function",none,.func (fD (M 43 8) "read" "State.read" 3 [] .none .none .none (.str "octetmint.machine" 588) none (.ref 472) .none 0),#[]⟩),o177,o178,o604,o177,(⟨.none,none,.func (fD (M 43 9) "write" "State.write" 0 [] .none .none .none .none none .none .none 0),#[]⟩),o606,(⟨.type "function",none,.func (fD (M 43 9) "write" "State.write" 3 [] .none .none .none (.str "octetmint.machine" 588) none (.ref 479) .none 0),#[]⟩),o177,o178,(⟨.type "tuple",none,.seq #[.str "self" 833,.str "worth" 834,.str "width" 835] 0,#[]⟩),o177,(⟨.none,none,.func (fD (M 43 10) "push" "State.push" 0 [] .none .none .none .none none .none .none 0),#[]⟩),o610,(⟨.type "function",none,.func (fD (M 43 10) "push" "State.push" 3 [] .none .none .none (.str "octetmint.machine" 588) none (.ref 486) .none 0),#[]⟩),o177,o178,(⟨.type "tuple",none,.seq #[.str "self" 842,.str "width" 843,.str "worth" 844] 0,#[]⟩),o177,(⟨.none,none,.func (fD (M 43 11) "pop" "State.pop" 0 [] .none .none .none .none none .none .none 0),#[]⟩),o614,(⟨.type "function",none,.func (fD (M 43 11) "pop" "State.pop" 3 [] .none .none .none (.str "octetmint.machine" 588) none (.ref 493) .none 0),#[]⟩),o177,o178,(⟨.type "tuple",none,.seq #[.str "self" 851,.str "bases" 852] 0,#[]⟩),o177,(⟨.none,none,.func (fD (M 43 12) "told" "State.told" 0 [] .none .none .none .none none .none .none 0),#[]⟩),o618,(⟨.type "function",none,.func (fD (M 43 12) "told" "State.told" 3 [] .none .none .none (.str "octetmint.machine" 588) none (.ref 500) .none 0),#[]⟩),o177,o178,(⟨.type "tuple",none,.seq #[.str "self" 859,.str "other" 860] 0,#[]⟩),o177,(⟨.none,none,.func (fD (M 43 13) "copy" "State.copy" 0 [] .none .none .none .none none .none .none 0),#[]⟩),o622,(⟨.type "function",none,.func (fD (M 43 13) "copy" "State.copy" 3 [] .none .none .none (.str "octetmint.machine" 588) none (.ref 507) .none 0),#[]⟩),o624,(o628 P),o629,o630,o631,(⟨.type "super",none,.fields #[.ref 511,.ref 511,.ref 511],#[]⟩),(⟨.type "builtin_function_or_method",none,.fields #[.builtin "object.__init_subclass__",.ref 511],#[]⟩),o177,o178,o634,o177,(⟨.none,none,.func (fD (S 44) "done" "done" 0 [] .none .none .none .none none .none .none 0),#[]⟩),o636,(⟨.type "function",none,.func (fD (S 44) "done" "done" 3 [] .none .none .none (.str "octetmint.machine" 588) none (.ref 521) .none 0),#[]⟩),o177,o178,(⟨.type "tuple",none,.seq #[.str "state" 894,.str "rows" 895,.str "deeds" 896,.str "instruction" 897] 0,#[]⟩),o177,(⟨.none,none,.func (fD (S 45) "perform" "perform" 0 [] .none .none .none .none none .none .none 0),#[]⟩),o646,(⟨.type "function",none,.func (fD (S 45) "perform" "perform" 3 [] .none .none .none (.str "octetmint.machine" 588) none (.ref 528) .none 0),#[]⟩),o177,o197,(o656 P),o177,(⟨.none,none,.fields #[.int 369 0,.int 4 0,.ref 542,.int 372 0,.int 4 0,.ref 549,.int 375 0,.int 4 0,.ref 556,.int 378 0,.int 4 0,.ref 563],#[]⟩),(⟨.type "code",none,.fields #[.str "Operand" 905,.str "Operand" 906,.str "/claim/cut.py" 907,.int 367 0,.int 0 0,.int 0 0,.int 0 0,.int 0 0,.ref 533,.bool false,.int 181 0,.ref 534,.none,.none,.none,.none,.int 908 0,.int 367 0,.str "/claim/cut.py" 909],#[]⟩),(⟨.type "frame",none,.plain,#[(some (.ref 535)),(some (.ref 3)),(some (.ref 532)),none,(some (.str "octetmint.operands" 901)),none,(some (.ref 0))]⟩),o177,o178,(⟨.type "tuple",none,.seq #[.str "self" 918,.str "kind" 919] 0,#[]⟩),o177,(⟨.none,none,.func (fD (M 47 0) "__init__" "Operand.__init__" 0 [] .none .none .none .none none .none .none 0),#[]⟩),o662,(⟨.type "function",none,.func (fD (M 47 0) "__init__" "Operand.__init__" 3 [] .none .none .none (.str "octetmint.operands" 901) none (.ref 542) .none 0),#[]⟩),o177,o178,(⟨.type "tuple",none,.seq #[.str "self" 926] 0,#[]⟩),o177,(⟨.none,none,.func (fD (M 47 1) "told" "Operand.told" 0 [] .none .none .none .none none .none .none 0),#[]⟩),o666,(⟨.type "function",none,.func (fD (M 47 1) "told" "Operand.told" 3 [] .none .none .none (.str "octetmint.operands" 901) none (.ref 549) .none 0),#[]⟩),o177,o178,(⟨.type "tuple",none,.seq #[.str "self" 933] 0,#[]⟩),o177,(⟨.none,none,.func (fD (M 47 2) "symbol" "Operand.symbol" 0 [] .none .none .none .none none .none .none 0),#[]⟩),o670,(⟨.type "function",none,.func (fD (M 47 2) "symbol" "Operand.symbol" 3 [] .none .none .none (.str "octetmint.operands" 901) none (.ref 556) .none 0),#[]⟩),o177,o178,(⟨.type "tuple",none,.seq #[.str "self" 940] 0,#[]⟩),o177,(⟨.none,none,.func (fD (M 47 3) "registers" "Operand.registers" 0 [] .none .none .none .none none .none .none 0),#[]⟩),o674,(⟨.type "function",none,.func (fD (M 47 3) "registers" "Operand.registers" 3 [] .none .none .none (.str "octetmint.operands" 901) none (.ref 563) .none 0),#[]⟩),(⟨.type "tuple",none,.seq #[.str "kind" 944] 0,#[]⟩),(o680 P),o753,(⟨.type "getset_descriptor",none,.fields #[.str "__dict__" 946,.ref 567,.builtin "function.__dict__",.builtin "function.__dict__#set"],#[]⟩),(⟨.type "getset_descriptor",none,.fields #[.str "__weakref__" 948,.ref 567,.builtin "ExceptionGroup.__weakref__",.none],#[]⟩),(⟨.type "super",none,.fields #[.ref 567,.ref 567,.ref 567],#[]⟩),(⟨.type "builtin_function_or_method",none,.fields #[.builtin "object.__init_subclass__",.ref 567],#[]⟩),o686,o197,(⟨.type "dict",none,.dict #[dE P "__module__" 960 (.str "octetmint.operands" 901),dE P "__qualname__" 962 (.str "Reg" 961),dE P "__firstlineno__" 964 (.int 380 963),dE P "__init__" 972 (.ref 585),dE P "told" 979 (.ref 592),dE P "registers" 986 (.ref 599),dE P "__static_attributes__" 988 (.ref 600)] 7,#[]⟩),o177,(⟨.none,none,.fields #[.int 382 0,.int 4 0,.ref 584,.int 386 0,.int 4 0,.ref 591,.int 389 0,.int 4 0,.ref 598],#[]⟩),(⟨.type "code",none,.fields #[.str "Reg" 955,.str "Reg" 956,.str "/claim/cut.py" 957,.int 380 0,.int 0 0,.int 0 0,.int 0 0,.int 0 0,.ref 575,.bool false,.int 181 0,.ref 576,.none,.none,.none,.none,.int 958 0,.int 380 0,.str "/claim/cut.py" 959],#[]⟩),(⟨.type "frame",none,.plain,#[(some (.ref 577)),(some (.ref 3)),(some (.ref 574)),none,(some (.str "octetmint.operands" 901)),none,(some (.ref 0))]⟩),o177,o178,(⟨.type "tuple",none,.seq #[.str "self" 968,.str "register" 969] 0,#[]⟩),o177,(⟨.none,none,.func (fD (M 48 0) "__init__" "Reg.__init__" 0 [] .none .none .none .none none .none .none 0),#[]⟩),o700,(⟨.type "function",none,.func (fD (M 48 0) "__init__" "Reg.__init__" 3 [] .none .none .none (.str "octetmint.operands" 901) none (.ref 584) .none 0),#[]⟩),o177,o178,(⟨.type "tuple",none,.seq #[.str "self" 976] 0,#[]⟩),o177,(⟨.none,none,.func (fD (M 48 1) "told" "Reg.told" 0 [] .none .none .none .none none .none .none 0),#[]⟩),o704,(⟨.type "function",none,.func (fD (M 48 1) "told" "Reg.told" 3 [] .none .none .none (.str "octetmint.operands" 901) none (.ref 591) .none 0),#[]⟩),o177,o178,(⟨.type "tuple",none,.seq #[.str "self" 983] 0,#[]⟩),o177,(⟨.none,none,.func (fD (M 48 2) "registers" "Reg.registers" 0 [] .none .none .none .none none .none .none 0),#[]⟩),o708,(⟨.type "function",none,.func (fD (M 48 2) "registers" "Reg.registers" 3 [] .none .none .none (.str "octetmint.operands" 901) none (.ref 598) .none 0),#[]⟩),(⟨.type "tuple",none,.seq #[.str "register" 987] 0,#[]⟩),(o712 P),o713,(⟨.type "super",none,.fields #[.ref 602,.ref 602,.ref 602],#[]⟩),(⟨.type "builtin_function_or_method",none,.fields #[.builtin "object.__init_subclass__",.ref 602],#[]⟩),o686,o197,(⟨.type "dict",none,.dict #[dE P "__module__" 999 (.str "octetmint.operands" 901),dE P "__qualname__" 1001 (.str "Imm" 1000),dE P "__firstlineno__" 1003 (.int 391 1002),dE P "__init__" 1013 (.ref 619),dE P "told" 1020 (.ref 626),dE P "symbol" 1027 (.ref 633),dE P "__static_attributes__" 1030 (.ref 634)] 7,#[]⟩),o177,(⟨.none,none,.fields #[.int 393 0,.int 4 0,.ref 618,.int 398 0,.int 4 0,.ref 625,.int 401 0,.int 4 0,.ref 632],#[]⟩),(⟨.type "code",none,.fields #[.str "Imm" 994,.str "Imm" 995,.str "/claim/cut.py" 996,.int 391 0,.int 0 0,.int 0 0,.int 0 0,.int 0 0,.ref 608,.bool false,.int 181 0,.ref 609,.none,.none,.none,.none,.int 997 0,.int 391 0,.str "/claim/cut.py" 998],#[]⟩),(⟨.type "frame",none,.plain,#[(some (.ref 610)),(some (.ref 3)),(some (.ref 607)),none,(some (.str "octetmint.operands" 901)),none,(some (.ref 0))]⟩),(⟨.type "tuple",none,.seq #[.str "" 1004] 0,#[]⟩),o177,o178,(⟨.type "tuple",none,.seq #[.str "self" 1008,.str "worth" 1009,.str "name" 1010] 0,#[]⟩),o177,(⟨.none,none,.func (fD (M 49 0) "__init__" "Imm.__init__" 0 [] .none .none .none .none none .none .none 0),#[]⟩),o734,(⟨.type "function",none,.func (fD (M 49 0) "__init__" "Imm.__init__" 3 [] (.ref 612) .none .none (.str "octetmint.operands" 901) none (.ref 618) .none 0),#[]⟩),o177,o178,(⟨.type "tuple",none,.seq #[.str "self" 1017] 0,#[]⟩),o177,(⟨.none,none,.func (fD (M 49 1) "told" "Imm.told" 0 [] .none .none .none .none none .none .none 0),#[]⟩),o738,(⟨.type "function",none,.func (fD (M 49 1) "told" "Imm.told" 3 [] .none .none .none (.str "octetmint.operands" 901) none (.ref 625) .none 0),#[]⟩),o177,o178,(⟨.type "tuple",none,.seq #[.str "self" 1024] 0,#[]⟩),o177,(⟨.none,none,.func (fD (M 49 2) "symbol" "Imm.symbol" 0 [] .none .none .none .none none .none .none 0),#[]⟩),o742,(⟨.type "function",none,.func (fD (M 49 2) "symbol" "Imm.symbol" 3 [] .none .none .none (.str "octetmint.operands" 901) none (.ref 632) .none 0),#[]⟩),(⟨.type "tuple",none,.seq #[.str "name" 1028,.str "worth" 1029] 0,#[]⟩),(o746 P),o747,(⟨.type "super",none,.fields #[.ref 636,.ref 636,.ref 636],#[]⟩),(⟨.type "builtin_function_or_method",none,.fields #[.builtin "object.__init_subclass__",.ref 636],#[]⟩),o686,o197,(o764 P),o177,(⟨.none,none,.fields #[.int 405 0,.int 4 0,.ref 652,.int 415 0,.int 4 0,.ref 659,.int 420 0,.int 4 0,.ref 666,.int 423 0,.int 4 0,.ref 671,.int 426 0,.int 4 0,.ref 678,.int 429 0,.int 4 0,.ref 685],#[]⟩),(⟨.type "code",none,.fields #[.str "Mem" 1036,.str "Mem" 1037,.str "/claim/cut.py" 1038,.int 403 0,.int 0 0,.int 0 0,.int 0 0,.int 0 0,.ref 642,.bool false,.int 181 0,.ref 643,.none,.none,.none,.none,.int 1039 0,.int 403 0,.str "/claim/cut.py" 1040],#[]⟩),(⟨.type "frame",none,.plain,#[(some (.ref 644)),(some (.ref 3)),(some (.ref 641)),none,(some (.str "octetmint.operands" 901)),none,(some (.ref 0))]⟩),(⟨.type "tuple",none,.seq #[.int 0 1046,.str "" 1047,.str "" 1048] 0,#[]⟩),o177,o178,o769,o177,(⟨.none,none,.func (fD (M 50 0) "__init__" "Mem.__init__" 0 [] .none .none .none .none none .none .none 0),#[]⟩),o771,(⟨.type "function",none,.func (fD (M 50 0) "__init__" "Mem.__init__" 3 [] (.ref 646) .none .none (.str "octetmint.operands" 901) none (.ref 652) .none 0),#[]⟩),o177,o178,(⟨.type "tuple",none,.seq #[.str "self" 1066,.str "base" 1067,.str "index" 1068] 0,#[]⟩),o177,(⟨.none,none,.func (fD (M 50 1) "told" "Mem.told" 0 [] .none .none .none .none none .none .none 0),#[]⟩),o775,(⟨.type "function",none,.func (fD (M 50 1) "told" "Mem.told" 3 [] .none .none .none (.str "octetmint.operands" 901) none (.ref 659) .none 0),#[]⟩),o177,o178,(⟨.type "tuple",none,.seq #[.str "self" 1075] 0,#[]⟩),o177,(⟨.none,none,.func (fD (M 50 2) "symbol" "Mem.symbol" 0 [] .none .none .none .none none .none .none 0),#[]⟩),o779,(⟨.type "function",none,.func (fD (M 50 2) "symbol" "Mem.symbol" 3 [] .none .none .none (.str "octetmint.operands" 901) none (.ref 666) .none 0),#[]⟩),o177,o178,(⟨.none,none,.func (fD (M 50 3) "registers" "Mem.registers" 0 [] .none .none .none .none none .none .none 0),#[]⟩),o782,(⟨.type "function",none,.func (fD (M 50 3) "registers" "Mem.registers" 3 [] .none .none .none (.str "octetmint.operands" 901) none (.ref 671) .none 0),#[]⟩),o177,o178,(⟨.type "tuple",none,.seq #[.str "self" 1088] 0,#[]⟩),o177,(⟨.none,none,.func (fD (M 50 4) "is_rip" "Mem.is_rip" 0 [] .none .none .none .none none .none .none 0),#[]⟩),o786,(⟨.type "function",none,.func (fD (M 50 4) "is_rip" "Mem.is_rip" 3 [] .none .none .none (.str "octetmint.operands" 901) none (.ref 678) .none 0),#[]⟩),o177,o178,(⟨.type "tuple",none,.seq #[.str "self" 1095] 0,#[]⟩),o177,(⟨.none,none,.func (fD (M 50 5) "is_absolute" "Mem.is_absolute" 0 [] .none .none .none .none none .none .none 0),#[]⟩),o790,(⟨.type "function",none,.func (fD (M 50 5) "is_absolute" "Mem.is_absolute" 3 [] .none .none .none (.str "octetmint.operands" 901) none (.ref 685) .none 0),#[]⟩),o792,(o794 P),o795,(⟨.type "super",none,.fields #[.ref 689,.ref 689,.ref 689],#[]⟩),(⟨.type "builtin_function_or_method",none,.fields #[.builtin "object.__init_subclass__",.ref 689],#[]⟩),o177,o197,(o828 P),o177,(⟨.none,none,.fields #[.int 433 0,.int 4 0,.ref 705,.int 438 0,.int 4 0,.ref 710,.int 441 0,.int 4 0,.ref 717,.int 447 0,.int 4 0,.ref 724,.int 451 0,.int 4 0,.ref 731,.int 454 0,.int 4 0,.ref 738],#[]⟩),(⟨.type "code",none,.fields #[.str "Instruction" 1112,.str "Instruction" 1113,.str "/claim/cut.py" 1114,.int 431 0,.int 0 0,.int 0 0,.int 0 0,.int 0 0,.ref 695,.bool false,.int 181 0,.ref 696,.none,.none,.none,.none,.int 1115 0,.int 431 0,.str "/claim/cut.py" 1116],#[]⟩),(⟨.type "frame",none,.plain,#[(some (.ref 697)),(some (.ref 3)),(some (.ref 694)),none,(some (.str "octetmint.operands" 901)),none,(some (.ref 0))]⟩),(⟨.type "tuple",none,.seq #[.str "" 1122] 0,#[]⟩),o177,o178,(⟨.type "tuple",none,.seq #[.str "self" 1126,.str "name" 1127,.str "operands" 1128,.str "prefix" 1129] 0,#[]⟩),o177,(⟨.none,none,.func (fD (M 51 0) "__init__" "Instruction.__init__" 0 [] .none .none .none .none none .none .none 0),#[]⟩),o835,(⟨.type "function",none,.func (fD (M 51 0) "__init__" "Instruction.__init__" 3 [] (.ref 699) .none .none (.str "octetmint.operands" 901) none (.ref 705) .none 0),#[]⟩),o177,o178,(⟨.none,none,.func (fD (M 51 1) "told" "Instruction.told" 0 [] .none .none .none .none none .none .none 0),#[]⟩),o838,(⟨.type "function",none,.func (fD (M 51 1) "told" "Instruction.told" 3 [] .none .none .none (.str "octetmint.operands" 901) none (.ref 710) .none 0),#[]⟩),o177,o178,(⟨.type "tuple",none,.seq #[.str "self" 1142,.str "at" 1143,.str "operand" 1144] 0,#[]⟩),o177,(⟨.none,none,.func (fD (M 51 2) "memory_at" "Instruction.memory_at" 0 [] .none .none .none .none none .none .none 0),#[]⟩),o842,(⟨.type "function",none,.func (fD (M 51 2) "memory_at" "Instruction.memory_at" 3 [] .none .none .none (.str "octetmint.operands" 901) none (.ref 717) .none 0),#[]⟩),o177,o178,(⟨.type "tuple",none,.seq #[.str "self" 1151,.str "at" 1152] 0,#[]⟩),o177,(⟨.none,none,.func (fD (M 51 3) "memory" "Instruction.memory" 0 [] .none .none .none .none none .none .none 0),#[]⟩),o846,(⟨.type "function",none,.func (fD (M 51 3) "memory" "Instruction.memory" 3 [] .none .none .none (.str "octetmint.operands" 901) none (.ref 724) .none 0),#[]⟩),o177,o178,(⟨.type "tuple",none,.seq #[.str "self" 1159] 0,#[]⟩),o177,(⟨.none,none,.func (fD (M 51 4) "symbols" "Instruction.symbols" 0 [] .none .none .none .none none .none .none 0),#[]⟩),o850,(⟨.type "function",none,.func (fD (M 51 4) "symbols" "Instruction.symbols" 3 [] .none .none .none (.str "octetmint.operands" 901) none (.ref 731) .none 0),#[]⟩),o177,o178,(⟨.type "tuple",none,.seq #[.str "self" 1166,.str "at" 1167,.str "operand" 1168] 0,#[]⟩),o177,(⟨.none,none,.func (fD (M 51 5) "replaced" "Instruction.replaced" 0 [] .none .none .none .none none .none .none 0),#[]⟩),o854,(⟨.type "function",none,.func (fD (M 51 5) "replaced" "Instruction.replaced" 3 [] .none .none .none (.str "octetmint.operands" 901) none (.ref 738) .none 0),#[]⟩),(⟨.type "tuple",none,.seq #[.str "name" 1172,.str "operands" 1173,.str "prefix" 1174] 0,#[]⟩),(o860 P),o861,(⟨.type "getset_descriptor",none,.fields #[.str "__dict__" 1176,.ref 742,.builtin "function.__dict__",.builtin "function.__dict__#set"],#[]⟩),(⟨.type "getset_descriptor",none,.fields #[.str "__weakref__" 1178,.ref 742,.builtin "ExceptionGroup.__weakref__",.none],#[]⟩),(⟨.type "super",none,.fields #[.ref 742,.ref 742,.ref 742],#[]⟩),(⟨.type "builtin_function_or_method",none,.fields #[.builtin "object.__init_subclass__",.ref 742],#[]⟩),o177,o178,(⟨.type "tuple",none,.seq #[.str "name" 1188,.str "stem" 1189] 0,#[]⟩),o177,(⟨.none,none,.func (fD (S 53) "condition_of" "condition_of" 0 [] .none .none .none .none none .none .none 0),#[]⟩),o868,(⟨.type "function",none,.func (fD (S 53) "condition_of" "condition_of" 3 [] .none .none .none (.str "octetmint.flow" 1183) none (.ref 752) .none 0),#[]⟩),o177,o178,(⟨.type "tuple",none,.seq #[.str "name" 1196,.str "place" 1197] 0,#[]⟩),o177,(⟨.none,none,.func (fD (S 54) "string_stem" "string_stem" 0 [] .none .none .none .none none .none .none 0),#[]⟩),o872,(⟨.type "function",none,.func (fD (S 54) "string_stem" "string_stem" 3 [] .none .none .none (.str "octetmint.flow" 1183) none (.ref 759) .none 0),#[]⟩),o177,o178,(⟨.type "tuple",none,.seq #[.str "name" 1204] 0,#[]⟩),o177,(⟨.none,none,.func (fD (S 55) "where_next" "where_next" 0 [] .none .none .none .none none .none .none 0),#[]⟩),o876,(⟨.type "function",none,.func (fD (S 55) "where_next" "where_next" 3 [] .none .none .none (.str "octetmint.flow" 1183) none (.ref 766) .none 0),#[]⟩),o177,o178,(⟨.type "tuple",none,.seq #[.str "state" 1239,.str "one" 1240,.str "other" 1241,.str "size" 1242,.str "first" 1243,.str "second" 1244] 0,#[]⟩),o177,(⟨.none,none,.func (fD (S 68) "exchange" "exchange" 0 [] .none .none .none .none none .none .none 0),#[]⟩),o880,(⟨.type "function",none,.func (fD (S 68) "exchange" "exchange" 3 [] .none .none .none (.str "octetmint.transfers" 1208) none (.ref 773) .none 0),#[]⟩),o177,o178,(⟨.type "tuple",none,.seq #[.str "state" 1251,.str "instruction" 1252,.str "name" 1253,.str "one" 1254,.str "other" 1255,.str "size" 1256] 0,#[]⟩),o177,(⟨.none,none,.func (fD (S 69) "move_deed" "move_deed" 0 [] .none .none .none .none none .none .none 0),#[]⟩),o884,(⟨.type "function",none,.func (fD (S 69) "move_deed" "move_deed" 3 [] .none .none .none (.str "octetmint.transfers" 1208) none (.ref 780) .none 0),#[]⟩),o177,o178,(⟨.type "tuple",none,.seq #[.str "state" 1263,.str "instruction" 1264,.str "one" 1265,.str "size" 1266] 0,#[]⟩),o177,(⟨.none,none,.func (fD (S 70) "push_operand" "push_operand" 0 [] .none .none .none .none none .none .none 0),#[]⟩),o913,(⟨.type "function",none,.func (fD (S 70) "push_operand" "push_operand" 3 [] .none .none .none (.str "octetmint.transfers" 1208) none (.ref 787) .none 0),#[]⟩),o177,o178,(⟨.type "tuple",none,.seq #[.str "state" 1273,.str "instruction" 1274,.str "one" 1275,.str "size" 1276,.str "worth" 1277] 0,#[]⟩),o177,(⟨.none,none,.func (fD (S 71) "pop_operand" "pop_operand" 0 [] .none .none .none .none none .none .none 0),#[]⟩),o917,(⟨.type "function",none,.func (fD (S 71) "pop_operand" "pop_operand" 3 [] .none .none .none (.str "octetmint.transfers" 1208) none (.ref 794) .none 0),#[]⟩),o177,o178,(⟨.type "tuple",none,.seq #[.str "state" 1284,.str "instruction" 1285,.str "name" 1286] 0,#[]⟩),o177,(⟨.none,none,.func (fD (S 72) "stack_deed" "stack_deed" 0 [] .none .none .none .none none .none .none 0),#[]⟩),o921,(⟨.type "function",none,.func (fD (S 72) "stack_deed" "stack_deed" 3 [] .none .none .none (.str "octetmint.transfers" 1208) none (.ref 801) .none 0),#[]⟩),o177,o178,(⟨.type "tuple",none,.seq #[.str "state" 1293,.str "operand" 1294] 0,#[]⟩),o177,(⟨.none,none,.func (fD (S 73) "target_of" "target_of" 0 [] .none .none .none .none none .none .none 0),#[]⟩),o925,(⟨.type "function",none,.func (fD (S 73) "target_of" "target_of" 3 [] .none .none .none (.str "octetmint.transfers" 1208) none (.ref 808) .none 0),#[]⟩),o177,o178,(⟨.type "tuple",none,.seq #[.str "state" 1301] 0,#[]⟩),o177,(⟨.none,none,.func (fD (S 74) "count_down" "count_down" 0 [] .none .none .none .none none .none .none 0),#[]⟩),o929,(⟨.type "function",none,.func (fD (S 74) "count_down" "count_down" 3 [] .none .none .none (.str "octetmint.transfers" 1208) none (.ref 815) .none 0),#[]⟩),o177,o178,(⟨.type "tuple",none,.seq #[.str "state" 1308,.str "name" 1309] 0,#[]⟩),o177,(⟨.none,none,.func (fD (S 75) "is_taken" "is_taken" 0 [] .none .none .none .none none .none .none 0),#[]⟩),o933,(⟨.type "function",none,.func (fD (S 75) "is_taken" "is_taken" 3 [] .none .none .none (.str "octetmint.transfers" 1208) none (.ref 822) .none 0),#[]⟩),o177,o178,(⟨.type "tuple",none,.seq #[.str "state" 1316,.str "instruction" 1317,.str "name" 1318,.str "target" 1319] 0,#[]⟩),o177,(⟨.none,none,.func (fD (S 76) "jump_deed" "jump_deed" 0 [] .none .none .none .none none .none .none 0),#[]⟩),o937,(⟨.type "function",none,.func (fD (S 76) "jump_deed" "jump_deed" 3 [] .none .none .none (.str "octetmint.transfers" 1208) none (.ref 829) .none 0),#[]⟩),o177,o178,(⟨.type "tuple",none,.seq #[.str "state" 1326,.str "number" 1327,.str "width" 1328,.str "step" 1329] 0,#[]⟩),o177,(⟨.none,none,.func (fD (S 77) "go_on" "go_on" 0 [] .none .none .none .none none .none .none 0),#[]⟩),o941,(⟨.type "function",none,.func (fD (S 77) "go_on" "go_on" 3 [] .none .none .none (.str "octetmint.transfers" 1208) none (.ref 836) .none 0),#[]⟩),o177,o178,(⟨.type "tuple",none,.seq #[.str "state" 1336,.str "sort" 1337,.str "size" 1338,.str "width" 1339,.str "held" 1340,.str "found" 1341] 0,#[]⟩),o177,(⟨.none,none,.func (fD (S 78) "string_round" "string_round" 0 [] .none .none .none .none none .none .none 0),#[]⟩),o945,(⟨.type "function",none,.func (fD (S 78) "string_round" "string_round" 3 [] .none .none .none (.str "octetmint.transfers" 1208) none (.ref 843) .none 0),#[]⟩),o177,o178,(⟨.type "tuple",none,.seq #[.str "state" 1348,.str "sort" 1349,.str "prefix" 1350] 0,#[]⟩),o177,(⟨.none,none,.func (fD (S 79) "is_last" "is_last" 0 [] .none .none .none .none none .none .none 0),#[]⟩),o949,(⟨.type "function",none,.func (fD (S 79) "is_last" "is_last" 3 [] .none .none .none (.str "octetmint.transfers" 1208) none (.ref 850) .none 0),#[]⟩),o177,o178,(⟨.type "tuple",none,.seq #[.str "state" 1357,.str "instruction" 1358,.str "sort" 1359,.str "size" 1360,.str "prefix" 1361] 0,#[]⟩),o177,(⟨.none,none,.func (fD (S 80) "string_deed" "string_deed" 0 [] .none .none .none .none none .none .none 0),#[]⟩),o953,(⟨.type "function",none,.func (fD (S 80) "string_deed" "string_deed" 3 [] .none .none .none (.str "octetmint.transfers" 1208) none (.ref 857) .none 0),#[]⟩),o177,o178,(⟨.type "tuple",none,.seq #[.str "operand" 1368] 0,#[]⟩),o177,(⟨.none,none,.func (fD (S 81) "is_xmm" "is_xmm" 0 [] .none .none .none .none none .none .none 0),#[]⟩),o957,(⟨.type "function",none,.func (fD (S 81) "is_xmm" "is_xmm" 3 [] .none .none .none (.str "octetmint.transfers" 1208) none (.ref 864) .none 0),#[]⟩),o177,o178,(⟨.type "tuple",none,.seq #[.str "state" 1375,.str "operand" 1376] 0,#[]⟩),o177,(⟨.none,none,.func (fD (S 82) "need_aligned" "need_aligned" 0 [] .none .none .none .none none .none .none 0),#[]⟩),o961,(⟨.type "function",none,.func (fD (S 82) "need_aligned" "need_aligned" 3 [] .none .none .none (.str "octetmint.transfers" 1208) none (.ref 871) .none 0),#[]⟩),o177,o178,(⟨.type "tuple",none,.seq #[.str "state" 1383,.str "name" 1384,.str "one" 1385,.str "other" 1386] 0,#[]⟩),o177,(⟨.none,none,.func (fD (S 83) "whole_move" "whole_move" 0 [] .none .none .none .none none .none .none 0),#[]⟩),o965,(⟨.type "function",none,.func (fD (S 83) "whole_move" "whole_move" 3 [] .none .none .none (.str "octetmint.transfers" 1208) none (.ref 878) .none 0),#[]⟩),o177,o178,(⟨.type "tuple",none,.seq #[.str "name" 1393] 0,#[]⟩),o177,(⟨.none,none,.func (fD (S 84) "part_size" "part_size" 0 [] .none .none .none .none none .none .none 0),#[]⟩),o969,(⟨.type "function",none,.func (fD (S 84) "part_size" "part_size" 3 [] .none .none .none (.str "octetmint.transfers" 1208) none (.ref 885) .none 0),#[]⟩),o177,o178,(⟨.type "tuple",none,.seq #[.str "state" 1400,.str "name" 1401,.str "one" 1402,.str "other" 1403,.str "size" 1404,.str "worth" 1405] 0,#[]⟩),o177,(⟨.none,none,.func (fD (S 85) "part_move" "part_move" 0 [] .none .none .none .none none .none .none 0),#[]⟩),o973,(⟨.type "function",none,.func (fD (S 85) "part_move" "part_move" 3 [] .none .none .none (.str "octetmint.transfers" 1208) none (.ref 892) .none 0),#[]⟩),o177,o178,(⟨.none,none,.func (fD (S 86) "lanes" "lanes" 0 [] .none .none .none .none none .none .none 0),#[]⟩),o976,(⟨.type "function",none,.func (fD (S 86) "lanes" "lanes" 3 [] .none .none .none (.str "octetmint.transfers" 1208) none (.ref 897) .none 0),#[]⟩),o177,o178,(⟨.type "tuple",none,.seq #[.str "parts" 1418,.str "size" 1419,.str "worth" 1420,.str "at" 1421] 0,#[]⟩),o177,(⟨.none,none,.func (fD (S 87) "joined" "joined" 0 [] .none .none .none .none none .none .none 0),#[]⟩),o980,(⟨.type "function",none,.func (fD (S 87) "joined" "joined" 3 [] .none .none .none (.str "octetmint.transfers" 1208) none (.ref 904) .none 0),#[]⟩),o177,o178,(⟨.type "tuple",none,.seq #[.str "name" 1429,.str "stem" 1430,.str "letters" 1431,.str "place" 1432] 0,#[]⟩),o177,(⟨.none,none,.func (fD (S 89) "lane_size" "lane_size" 0 [] .none .none .none .none none .none .none 0),#[]⟩),o984,(⟨.type "function",none,.func (fD (S 89) "lane_size" "lane_size" 3 [] .none .none .none (.str "octetmint.transfers" 1208) none (.ref 911) .none 0),#[]⟩),o177,o178,(⟨.type "tuple",none,.seq #[.str "stem" 1439,.str "one" 1440,.str "other" 1441,.str "size" 1442] 0,#[]⟩),o177,(⟨.none,none,.func (fD (S 90) "lane_worth" "lane_worth" 0 [] .none .none .none .none none .none .none 0),#[]⟩),o988,(⟨.type "function",none,.func (fD (S 90) "lane_worth" "lane_worth" 3 [] .none .none .none (.str "octetmint.transfers" 1208) none (.ref 918) .none 0),#[]⟩),o177,o178,(⟨.none,none,.func (fD (S 91) "lane_result" "lane_result" 0 [] .none .none .none .none none .none .none 0),#[]⟩),o991,(⟨.type "function",none,.func (fD (S 91) "lane_result" "lane_result" 3 [] .none .none .none (.str "octetmint.transfers" 1208) none (.ref 923) .none 0),#[]⟩),o177,o178,(⟨.type "tuple",none,.seq #[.str "name" 1455,.str "one" 1456,.str "other" 1457] 0,#[]⟩),o177,(⟨.none,none,.func (fD (S 92) "bit_result" "bit_result" 0 [] .none .none .none .none none .none .none 0),#[]⟩),o995,(⟨.type "function",none,.func (fD (S 92) "bit_result" "bit_result" 3 [] .none .none .none (.str "octetmint.transfers" 1208) none (.ref 930) .none 0),#[]⟩),o177,o178,(⟨.type "tuple",none,.seq #[.str "state" 1464,.str "name" 1465,.str "one" 1466,.str "other" 1467,.str "size" 1468] 0,#[]⟩),o177,(⟨.none,none,.func (fD (S 93) "vector_move" "vector_move" 0 [] .none .none .none .none none .none .none 0),#[]⟩),o1012,(⟨.type "function",none,.func (fD (S 93) "vector_move" "vector_move" 3 [] .none .none .none (.str "octetmint.transfers" 1208) none (.ref 937) .none 0),#[]⟩),o177,o178,o1014,o177,(⟨.none,none,.func (fD (S 94) "vector_deed" "vector_deed" 0 [] .none .none .none .none none .none .none 0),#[]⟩),o1016,(⟨.type "function",none,.func (fD (S 94) "vector_deed" "vector_deed" 3 [] .none .none .none (.str "octetmint.transfers" 1208) none (.ref 944) .none 0),#[]⟩),o177,o178,(⟨.type "tuple",none,.seq #[.str "state" 1489,.str "instruction" 1490] 0,#[]⟩),o177,(⟨.none,none,.func (fD (S 95) "transfer_deed" "transfer_deed" 0 [] .none .none .none .none none .none .none 0),#[]⟩),o1020,(⟨.type "function",none,.func (fD (S 95) "transfer_deed" "transfer_deed" 3 [] .none .none .none (.str "octetmint.transfers" 1208) none (.ref 951) .none 0),#[]⟩),o177,o178,o177,o177,(⟨.none,none,.func (fD (S 97) "_law_base" "_law_base" 0 [] .none .none .none .none none .none .none 0),#[]⟩),o1023,(⟨.type "function",none,.func (fD (S 97) "_law_base" "_law_base" 3 [] .none .none .none (.str "law_qd0115_01" 1494) none (.ref 958) .none 0),#[]⟩),o177,o178,(⟨.type "tuple",none,.seq #[.str "script" 1505,.str "store" 1506,.str "cell" 1507] 0,#[]⟩),o177,(⟨.none,none,.func (fD (S 98) "_law_pen" "_law_pen" 0 [] .none .none .none .none none .none .none 0),#[]⟩),o1027,(⟨.type "function",none,.func (fD (S 98) "_law_pen" "_law_pen" 3 [] .none .none .none (.str "law_qd0115_01" 1494) none (.ref 965) .none 0),#[]⟩),o177,o178,(⟨.type "tuple",none,.seq #[.str "pen" 1514,.str "many" 1515,.str "found" 1516] 0,#[]⟩),o177,(⟨.none,none,.func (fD (S 99) "_law_take" "_law_take" 0 [] .none .none .none .none none .none .none 0),#[]⟩),o1031,(⟨.type "function",none,.func (fD (S 99) "_law_take" "_law_take" 3 [] .none .none .none (.str "law_qd0115_01" 1494) none (.ref 972) .none 0),#[]⟩),o177,o178,(⟨.type "tuple",none,.seq #[.str "pen" 1523,.str "way" 1524,.str "size" 1525,.str "number" 1526,.str "reg" 1527,.str "mem" 1528] 0,#[]⟩),o177,(⟨.none,none,.func (fD (S 100) "_law_row" "_law_row" 0 [] .none .none .none .none none .none .none 0),#[]⟩),o1035,(⟨.type "function",none,.func (fD (S 100) "_law_row" "_law_row" 3 [] .none .none .none (.str "law_qd0115_01" 1494) none (.ref 979) .none 0),#[]⟩),o177,o178,(⟨.type "tuple",none,.seq #[.str "pen" 1535,.str "state" 1536,.str "number" 1537,.str "at" 1538] 0,#[]⟩),o177,(⟨.none,none,.func (fD (S 101) "_law_state" "_law_state" 0 [] .none .none .none .none none .none .none 0),#[]⟩),o1039,(⟨.type "function",none,.func (fD (S 101) "_law_state" "_law_state" 3 [] .none .none .none (.str "law_qd0115_01" 1494) none (.ref 986) .none 0),#[]⟩),o177,o178,(⟨.type "tuple",none,.seq #[.str "state" 1545,.str "rows" 1546] 0,#[]⟩),o177,(⟨.none,none,.func (fD (S 102) "_law_refused" "_law_refused" 0 [] .none .none .none .none none .none .none 0),#[]⟩),o1043,(⟨.type "function",none,.func (fD (S 102) "_law_refused" "_law_refused" 3 [] .none .none .none (.str "law_qd0115_01" 1494) none (.ref 993) .none 0),#[]⟩),o177,o178,(⟨.none,none,.func (fD (S 103) "law" "law" 0 [] .none .none .none .none none .none .none 0),#[]⟩),o1046,(⟨.type "function",none,.func (fD (S 103) "law" "law" 3 [] .none .none .none (.str "law_qd0115_01" 1494) none (.ref 998) .none 0),#[]⟩)],{}⟩

noncomputable abbrev fK (ar : Arguments) (b : List Stmt) (sc : Scope) (name qual : Str) (gl : Addr) (cl : List (Str × Addr)) (dV kV doc pm : Value) (an : Option Addr) (cd ct : Value) (bi : Addr) : FuncData :=
  ⟨name,qual,ar,.stmts b,sc,gl,cl,dV,kV,doc,pm,an,cd,ct,bi⟩
noncomputable abbrev PA (s : Stmt) : Type:=PSigma fun x : Arguments=>x = argsOf s
noncomputable abbrev PB (s : Stmt) : Type:=PSigma fun x : List Stmt=>x = bodyOf s
noncomputable abbrev PS (s : Stmt) : Type:=PSigma fun x : Scope=>x = scopeOf s
noncomputable def afM_2_0 : PA (M 2 0):=⟨_,by conv=>rhs;whnf⟩
noncomputable def bfM_2_0 : PB (M 2 0):=⟨_,by conv=>rhs;whnf⟩
noncomputable def sfM_2_0 : PS (M 2 0):=⟨_,by conv=>rhs;whnf⟩
noncomputable def afM_22_0 : PA (M 22 0):=⟨_,by conv=>rhs;whnf⟩
noncomputable def bfM_22_0 : PB (M 22 0):=⟨_,by conv=>rhs;whnf⟩
noncomputable def sfM_22_0 : PS (M 22 0):=⟨_,by conv=>rhs;whnf⟩
noncomputable def afM_22_1 : PA (M 22 1):=⟨_,by conv=>rhs;whnf⟩
noncomputable def bfM_22_1 : PB (M 22 1):=⟨_,by conv=>rhs;whnf⟩
noncomputable def sfM_22_1 : PS (M 22 1):=⟨_,by conv=>rhs;whnf⟩
noncomputable def afM_22_2 : PA (M 22 2):=⟨_,by conv=>rhs;whnf⟩
noncomputable def bfM_22_2 : PB (M 22 2):=⟨_,by conv=>rhs;whnf⟩
noncomputable def sfM_22_2 : PS (M 22 2):=⟨_,by conv=>rhs;whnf⟩
noncomputable def afM_22_3 : PA (M 22 3):=⟨_,by conv=>rhs;whnf⟩
noncomputable def bfM_22_3 : PB (M 22 3):=⟨_,by conv=>rhs;whnf⟩
noncomputable def sfM_22_3 : PS (M 22 3):=⟨_,by conv=>rhs;whnf⟩
noncomputable def afM_22_5 : PA (M 22 5):=⟨_,by conv=>rhs;whnf⟩
noncomputable def bfM_22_5 : PB (M 22 5):=⟨_,by conv=>rhs;whnf⟩
noncomputable def sfM_22_5 : PS (M 22 5):=⟨_,by conv=>rhs;whnf⟩
noncomputable def afM_33_0 : PA (M 33 0):=⟨_,by conv=>rhs;whnf⟩
noncomputable def bfM_33_0 : PB (M 33 0):=⟨_,by conv=>rhs;whnf⟩
noncomputable def sfM_33_0 : PS (M 33 0):=⟨_,by conv=>rhs;whnf⟩
noncomputable def afM_40_0 : PA (M 40 0):=⟨_,by conv=>rhs;whnf⟩
noncomputable def bfM_40_0 : PB (M 40 0):=⟨_,by conv=>rhs;whnf⟩
noncomputable def sfM_40_0 : PS (M 40 0):=⟨_,by conv=>rhs;whnf⟩
noncomputable def afM_40_1 : PA (M 40 1):=⟨_,by conv=>rhs;whnf⟩
noncomputable def bfM_40_1 : PB (M 40 1):=⟨_,by conv=>rhs;whnf⟩
noncomputable def sfM_40_1 : PS (M 40 1):=⟨_,by conv=>rhs;whnf⟩
noncomputable def afM_40_10 : PA (M 40 10):=⟨_,by conv=>rhs;whnf⟩
noncomputable def bfM_40_10 : PB (M 40 10):=⟨_,by conv=>rhs;whnf⟩
noncomputable def sfM_40_10 : PS (M 40 10):=⟨_,by conv=>rhs;whnf⟩
noncomputable def afM_40_11 : PA (M 40 11):=⟨_,by conv=>rhs;whnf⟩
noncomputable def bfM_40_11 : PB (M 40 11):=⟨_,by conv=>rhs;whnf⟩
noncomputable def sfM_40_11 : PS (M 40 11):=⟨_,by conv=>rhs;whnf⟩
noncomputable def afM_40_2 : PA (M 40 2):=⟨_,by conv=>rhs;whnf⟩
noncomputable def bfM_40_2 : PB (M 40 2):=⟨_,by conv=>rhs;whnf⟩
noncomputable def sfM_40_2 : PS (M 40 2):=⟨_,by conv=>rhs;whnf⟩
noncomputable def afM_40_3 : PA (M 40 3):=⟨_,by conv=>rhs;whnf⟩
noncomputable def bfM_40_3 : PB (M 40 3):=⟨_,by conv=>rhs;whnf⟩
noncomputable def sfM_40_3 : PS (M 40 3):=⟨_,by conv=>rhs;whnf⟩
noncomputable def afM_40_4 : PA (M 40 4):=⟨_,by conv=>rhs;whnf⟩
noncomputable def bfM_40_4 : PB (M 40 4):=⟨_,by conv=>rhs;whnf⟩
noncomputable def sfM_40_4 : PS (M 40 4):=⟨_,by conv=>rhs;whnf⟩
noncomputable def afM_40_7 : PA (M 40 7):=⟨_,by conv=>rhs;whnf⟩
noncomputable def bfM_40_7 : PB (M 40 7):=⟨_,by conv=>rhs;whnf⟩
noncomputable def sfM_40_7 : PS (M 40 7):=⟨_,by conv=>rhs;whnf⟩
noncomputable def afM_43_0 : PA (M 43 0):=⟨_,by conv=>rhs;whnf⟩
noncomputable def bfM_43_0 : PB (M 43 0):=⟨_,by conv=>rhs;whnf⟩
noncomputable def sfM_43_0 : PS (M 43 0):=⟨_,by conv=>rhs;whnf⟩
noncomputable def afM_43_1 : PA (M 43 1):=⟨_,by conv=>rhs;whnf⟩
noncomputable def bfM_43_1 : PB (M 43 1):=⟨_,by conv=>rhs;whnf⟩
noncomputable def sfM_43_1 : PS (M 43 1):=⟨_,by conv=>rhs;whnf⟩
noncomputable def afM_43_10 : PA (M 43 10):=⟨_,by conv=>rhs;whnf⟩
noncomputable def bfM_43_10 : PB (M 43 10):=⟨_,by conv=>rhs;whnf⟩
noncomputable def sfM_43_10 : PS (M 43 10):=⟨_,by conv=>rhs;whnf⟩
noncomputable def afM_43_11 : PA (M 43 11):=⟨_,by conv=>rhs;whnf⟩
noncomputable def bfM_43_11 : PB (M 43 11):=⟨_,by conv=>rhs;whnf⟩
noncomputable def sfM_43_11 : PS (M 43 11):=⟨_,by conv=>rhs;whnf⟩
noncomputable def afM_43_12 : PA (M 43 12):=⟨_,by conv=>rhs;whnf⟩
noncomputable def bfM_43_12 : PB (M 43 12):=⟨_,by conv=>rhs;whnf⟩
noncomputable def sfM_43_12 : PS (M 43 12):=⟨_,by conv=>rhs;whnf⟩
noncomputable def afM_43_13 : PA (M 43 13):=⟨_,by conv=>rhs;whnf⟩
noncomputable def bfM_43_13 : PB (M 43 13):=⟨_,by conv=>rhs;whnf⟩
noncomputable def sfM_43_13 : PS (M 43 13):=⟨_,by conv=>rhs;whnf⟩
noncomputable def afM_43_2 : PA (M 43 2):=⟨_,by conv=>rhs;whnf⟩
noncomputable def bfM_43_2 : PB (M 43 2):=⟨_,by conv=>rhs;whnf⟩
noncomputable def sfM_43_2 : PS (M 43 2):=⟨_,by conv=>rhs;whnf⟩
noncomputable def afM_43_3 : PA (M 43 3):=⟨_,by conv=>rhs;whnf⟩
noncomputable def bfM_43_3 : PB (M 43 3):=⟨_,by conv=>rhs;whnf⟩
noncomputable def sfM_43_3 : PS (M 43 3):=⟨_,by conv=>rhs;whnf⟩
noncomputable def afM_43_5 : PA (M 43 5):=⟨_,by conv=>rhs;whnf⟩
noncomputable def bfM_43_5 : PB (M 43 5):=⟨_,by conv=>rhs;whnf⟩
noncomputable def sfM_43_5 : PS (M 43 5):=⟨_,by conv=>rhs;whnf⟩
noncomputable def afM_43_6 : PA (M 43 6):=⟨_,by conv=>rhs;whnf⟩
noncomputable def bfM_43_6 : PB (M 43 6):=⟨_,by conv=>rhs;whnf⟩
noncomputable def sfM_43_6 : PS (M 43 6):=⟨_,by conv=>rhs;whnf⟩
noncomputable def afM_43_7 : PA (M 43 7):=⟨_,by conv=>rhs;whnf⟩
noncomputable def bfM_43_7 : PB (M 43 7):=⟨_,by conv=>rhs;whnf⟩
noncomputable def sfM_43_7 : PS (M 43 7):=⟨_,by conv=>rhs;whnf⟩
noncomputable def afM_43_8 : PA (M 43 8):=⟨_,by conv=>rhs;whnf⟩
noncomputable def bfM_43_8 : PB (M 43 8):=⟨_,by conv=>rhs;whnf⟩
noncomputable def sfM_43_8 : PS (M 43 8):=⟨_,by conv=>rhs;whnf⟩
noncomputable def afM_43_9 : PA (M 43 9):=⟨_,by conv=>rhs;whnf⟩
noncomputable def bfM_43_9 : PB (M 43 9):=⟨_,by conv=>rhs;whnf⟩
noncomputable def sfM_43_9 : PS (M 43 9):=⟨_,by conv=>rhs;whnf⟩
noncomputable def afM_47_0 : PA (M 47 0):=⟨_,by conv=>rhs;whnf⟩
noncomputable def bfM_47_0 : PB (M 47 0):=⟨_,by conv=>rhs;whnf⟩
noncomputable def sfM_47_0 : PS (M 47 0):=⟨_,by conv=>rhs;whnf⟩
noncomputable def afM_48_0 : PA (M 48 0):=⟨_,by conv=>rhs;whnf⟩
noncomputable def bfM_48_0 : PB (M 48 0):=⟨_,by conv=>rhs;whnf⟩
noncomputable def sfM_48_0 : PS (M 48 0):=⟨_,by conv=>rhs;whnf⟩
noncomputable def afM_49_0 : PA (M 49 0):=⟨_,by conv=>rhs;whnf⟩
noncomputable def bfM_49_0 : PB (M 49 0):=⟨_,by conv=>rhs;whnf⟩
noncomputable def sfM_49_0 : PS (M 49 0):=⟨_,by conv=>rhs;whnf⟩
noncomputable def afM_50_0 : PA (M 50 0):=⟨_,by conv=>rhs;whnf⟩
noncomputable def bfM_50_0 : PB (M 50 0):=⟨_,by conv=>rhs;whnf⟩
noncomputable def sfM_50_0 : PS (M 50 0):=⟨_,by conv=>rhs;whnf⟩
noncomputable def afM_51_0 : PA (M 51 0):=⟨_,by conv=>rhs;whnf⟩
noncomputable def bfM_51_0 : PB (M 51 0):=⟨_,by conv=>rhs;whnf⟩
noncomputable def sfM_51_0 : PS (M 51 0):=⟨_,by conv=>rhs;whnf⟩
noncomputable def afS_100 : PA (S 100):=⟨_,by conv=>rhs;whnf⟩
noncomputable def bfS_100 : PB (S 100):=⟨_,by conv=>rhs;whnf⟩
noncomputable def sfS_100 : PS (S 100):=⟨_,by conv=>rhs;whnf⟩
noncomputable def afS_101 : PA (S 101):=⟨_,by conv=>rhs;whnf⟩
noncomputable def bfS_101 : PB (S 101):=⟨_,by conv=>rhs;whnf⟩
noncomputable def sfS_101 : PS (S 101):=⟨_,by conv=>rhs;whnf⟩
noncomputable def afS_102 : PA (S 102):=⟨_,by conv=>rhs;whnf⟩
noncomputable def bfS_102 : PB (S 102):=⟨_,by conv=>rhs;whnf⟩
noncomputable def sfS_102 : PS (S 102):=⟨_,by conv=>rhs;whnf⟩
noncomputable def bfS_103 : PB (S 103):=⟨_,by conv=>rhs;whnf⟩
noncomputable def sfS_103 : PS (S 103):=⟨_,by conv=>rhs;whnf⟩
noncomputable def afS_26 : PA (S 26):=⟨_,by conv=>rhs;whnf⟩
noncomputable def bfS_26 : PB (S 26):=⟨_,by conv=>rhs;whnf⟩
noncomputable def sfS_26 : PS (S 26):=⟨_,by conv=>rhs;whnf⟩
noncomputable def afS_27 : PA (S 27):=⟨_,by conv=>rhs;whnf⟩
noncomputable def bfS_27 : PB (S 27):=⟨_,by conv=>rhs;whnf⟩
noncomputable def sfS_27 : PS (S 27):=⟨_,by conv=>rhs;whnf⟩
noncomputable def afS_34 : PA (S 34):=⟨_,by conv=>rhs;whnf⟩
noncomputable def bfS_34 : PB (S 34):=⟨_,by conv=>rhs;whnf⟩
noncomputable def sfS_34 : PS (S 34):=⟨_,by conv=>rhs;whnf⟩
noncomputable def afS_36 : PA (S 36):=⟨_,by conv=>rhs;whnf⟩
noncomputable def bfS_36 : PB (S 36):=⟨_,by conv=>rhs;whnf⟩
noncomputable def sfS_36 : PS (S 36):=⟨_,by conv=>rhs;whnf⟩
noncomputable def afS_41 : PA (S 41):=⟨_,by conv=>rhs;whnf⟩
noncomputable def bfS_41 : PB (S 41):=⟨_,by conv=>rhs;whnf⟩
noncomputable def sfS_41 : PS (S 41):=⟨_,by conv=>rhs;whnf⟩
noncomputable def afS_44 : PA (S 44):=⟨_,by conv=>rhs;whnf⟩
noncomputable def bfS_44 : PB (S 44):=⟨_,by conv=>rhs;whnf⟩
noncomputable def sfS_44 : PS (S 44):=⟨_,by conv=>rhs;whnf⟩
noncomputable def afS_45 : PA (S 45):=⟨_,by conv=>rhs;whnf⟩
noncomputable def bfS_45 : PB (S 45):=⟨_,by conv=>rhs;whnf⟩
noncomputable def sfS_45 : PS (S 45):=⟨_,by conv=>rhs;whnf⟩
noncomputable def afS_5 : PA (S 5):=⟨_,by conv=>rhs;whnf⟩
noncomputable def bfS_5 : PB (S 5):=⟨_,by conv=>rhs;whnf⟩
noncomputable def sfS_5 : PS (S 5):=⟨_,by conv=>rhs;whnf⟩
noncomputable def afS_54 : PA (S 54):=⟨_,by conv=>rhs;whnf⟩
noncomputable def bfS_54 : PB (S 54):=⟨_,by conv=>rhs;whnf⟩
noncomputable def sfS_54 : PS (S 54):=⟨_,by conv=>rhs;whnf⟩
noncomputable def afS_6 : PA (S 6):=⟨_,by conv=>rhs;whnf⟩
noncomputable def bfS_6 : PB (S 6):=⟨_,by conv=>rhs;whnf⟩
noncomputable def sfS_6 : PS (S 6):=⟨_,by conv=>rhs;whnf⟩
noncomputable def afS_68 : PA (S 68):=⟨_,by conv=>rhs;whnf⟩
noncomputable def bfS_68 : PB (S 68):=⟨_,by conv=>rhs;whnf⟩
noncomputable def sfS_68 : PS (S 68):=⟨_,by conv=>rhs;whnf⟩
noncomputable def afS_69 : PA (S 69):=⟨_,by conv=>rhs;whnf⟩
noncomputable def bfS_69 : PB (S 69):=⟨_,by conv=>rhs;whnf⟩
noncomputable def sfS_69 : PS (S 69):=⟨_,by conv=>rhs;whnf⟩
noncomputable def afS_7 : PA (S 7):=⟨_,by conv=>rhs;whnf⟩
noncomputable def bfS_7 : PB (S 7):=⟨_,by conv=>rhs;whnf⟩
noncomputable def sfS_7 : PS (S 7):=⟨_,by conv=>rhs;whnf⟩
noncomputable def afS_70 : PA (S 70):=⟨_,by conv=>rhs;whnf⟩
noncomputable def bfS_70 : PB (S 70):=⟨_,by conv=>rhs;whnf⟩
noncomputable def sfS_70 : PS (S 70):=⟨_,by conv=>rhs;whnf⟩
noncomputable def afS_71 : PA (S 71):=⟨_,by conv=>rhs;whnf⟩
noncomputable def bfS_71 : PB (S 71):=⟨_,by conv=>rhs;whnf⟩
noncomputable def sfS_71 : PS (S 71):=⟨_,by conv=>rhs;whnf⟩
noncomputable def afS_72 : PA (S 72):=⟨_,by conv=>rhs;whnf⟩
noncomputable def bfS_72 : PB (S 72):=⟨_,by conv=>rhs;whnf⟩
noncomputable def sfS_72 : PS (S 72):=⟨_,by conv=>rhs;whnf⟩
noncomputable def afS_76 : PA (S 76):=⟨_,by conv=>rhs;whnf⟩
noncomputable def bfS_76 : PB (S 76):=⟨_,by conv=>rhs;whnf⟩
noncomputable def sfS_76 : PS (S 76):=⟨_,by conv=>rhs;whnf⟩
noncomputable def afS_77 : PA (S 77):=⟨_,by conv=>rhs;whnf⟩
noncomputable def bfS_77 : PB (S 77):=⟨_,by conv=>rhs;whnf⟩
noncomputable def sfS_77 : PS (S 77):=⟨_,by conv=>rhs;whnf⟩
noncomputable def afS_78 : PA (S 78):=⟨_,by conv=>rhs;whnf⟩
noncomputable def bfS_78 : PB (S 78):=⟨_,by conv=>rhs;whnf⟩
noncomputable def sfS_78 : PS (S 78):=⟨_,by conv=>rhs;whnf⟩
noncomputable def afS_8 : PA (S 8):=⟨_,by conv=>rhs;whnf⟩
noncomputable def bfS_8 : PB (S 8):=⟨_,by conv=>rhs;whnf⟩
noncomputable def sfS_8 : PS (S 8):=⟨_,by conv=>rhs;whnf⟩
noncomputable def afS_80 : PA (S 80):=⟨_,by conv=>rhs;whnf⟩
noncomputable def bfS_80 : PB (S 80):=⟨_,by conv=>rhs;whnf⟩
noncomputable def sfS_80 : PS (S 80):=⟨_,by conv=>rhs;whnf⟩
noncomputable def afS_81 : PA (S 81):=⟨_,by conv=>rhs;whnf⟩
noncomputable def bfS_81 : PB (S 81):=⟨_,by conv=>rhs;whnf⟩
noncomputable def sfS_81 : PS (S 81):=⟨_,by conv=>rhs;whnf⟩
noncomputable def afS_9 : PA (S 9):=⟨_,by conv=>rhs;whnf⟩
noncomputable def bfS_9 : PB (S 9):=⟨_,by conv=>rhs;whnf⟩
noncomputable def sfS_9 : PS (S 9):=⟨_,by conv=>rhs;whnf⟩
noncomputable def afS_94 : PA (S 94):=⟨_,by conv=>rhs;whnf⟩
noncomputable def bfS_94 : PB (S 94):=⟨_,by conv=>rhs;whnf⟩
noncomputable def sfS_94 : PS (S 94):=⟨_,by conv=>rhs;whnf⟩
noncomputable def afS_95 : PA (S 95):=⟨_,by conv=>rhs;whnf⟩
noncomputable def bfS_95 : PB (S 95):=⟨_,by conv=>rhs;whnf⟩
noncomputable def sfS_95 : PS (S 95):=⟨_,by conv=>rhs;whnf⟩
noncomputable def afS_97 : PA (S 97):=⟨_,by conv=>rhs;whnf⟩
noncomputable def bfS_97 : PB (S 97):=⟨_,by conv=>rhs;whnf⟩
noncomputable def sfS_97 : PS (S 97):=⟨_,by conv=>rhs;whnf⟩
noncomputable def afS_98 : PA (S 98):=⟨_,by conv=>rhs;whnf⟩
noncomputable def bfS_98 : PB (S 98):=⟨_,by conv=>rhs;whnf⟩
noncomputable def sfS_98 : PS (S 98):=⟨_,by conv=>rhs;whnf⟩
noncomputable def afS_99 : PA (S 99):=⟨_,by conv=>rhs;whnf⟩
noncomputable def bfS_99 : PB (S 99):=⟨_,by conv=>rhs;whnf⟩
noncomputable def sfS_99 : PS (S 99):=⟨_,by conv=>rhs;whnf⟩
noncomputable def k1048 : Obj:=⟨.type "function",none,.func (fK (argsOf (S 0)) (bodyOf (S 0)) (scopeOf (S 0)) "_wall" "_wall" 3 [] .none .none .none (.str "__main__" 164) none (.ref 20) .none 0),#[]⟩
noncomputable def k1049 : Obj:=⟨.type "function",none,.func (fK afM_2_0.1 bfM_2_0.1 sfM_2_0.1 "__init__" "MintError.__init__" 3 [] (.ref 29) .none .none (.str "octetmint.basics" 194) none (.ref 35) .none 0),#[]⟩
noncomputable def k1050 : Obj:=⟨.type "function",none,.func (fK (argsOf (M 2 1)) (bodyOf (M 2 1)) (scopeOf (M 2 1)) "told" "MintError.told" 3 [] .none .none .none (.str "octetmint.basics" 194) none (.ref 42) .none 0),#[]⟩
noncomputable def k1051 : Obj:=⟨.type "function",none,.func (fK afS_5.1 bfS_5.1 sfS_5.1 "mask" "mask" 3 [] .none .none .none (.str "octetmint.basics" 194) none (.ref 79) .none 0),#[]⟩
noncomputable def k1052 : Obj:=⟨.type "function",none,.func (fK afS_6.1 bfS_6.1 sfS_6.1 "wrap" "wrap" 3 [] .none .none .none (.str "octetmint.basics" 194) none (.ref 86) .none 0),#[]⟩
noncomputable def k1053 : Obj:=⟨.type "function",none,.func (fK afS_7.1 bfS_7.1 sfS_7.1 "bit" "bit" 3 [] .none .none .none (.str "octetmint.basics" 194) none (.ref 93) .none 0),#[]⟩
noncomputable def k1054 : Obj:=⟨.type "function",none,.func (fK afS_8.1 bfS_8.1 sfS_8.1 "ones" "ones" 3 [] .none .none .none (.str "octetmint.basics" 194) none (.ref 100) .none 0),#[]⟩
noncomputable def k1055 : Obj:=⟨.type "function",none,.func (fK afS_9.1 bfS_9.1 sfS_9.1 "parity" "parity" 3 [] .none .none .none (.str "octetmint.basics" 194) none (.ref 107) .none 0),#[]⟩
noncomputable def k1056 : Obj:=⟨.type "function",none,.func (fK (argsOf (S 12)) (bodyOf (S 12)) (scopeOf (S 12)) "condition_names" "condition_names" 3 [] .none .none .none (.str "octetmint.forms" 306) none (.ref 114) .none 0),#[]⟩
noncomputable def k1057 : Obj:=⟨.type "function",none,.func (fK afM_22_0.1 bfM_22_0.1 sfM_22_0.1 "__init__" "Flags.__init__" 3 [] .none .none .none (.str "octetmint.flags" 316) none (.ref 128) .none 0),#[]⟩
noncomputable def k1058 : Obj:=⟨.type "function",none,.func (fK afM_22_1.1 bfM_22_1.1 sfM_22_1.1 "told" "Flags.told" 3 [] .none .none .none (.str "octetmint.flags" 316) none (.ref 135) .none 0),#[]⟩
noncomputable def k1059 : Obj:=⟨.type "function",none,.func (fK afM_22_2.1 bfM_22_2.1 sfM_22_2.1 "pack" "Flags.pack" 3 [] .none .none .none (.str "octetmint.flags" 316) none (.ref 142) .none 0),#[]⟩
noncomputable def k1060 : Obj:=⟨.type "function",none,.func (fK afM_22_3.1 bfM_22_3.1 sfM_22_3.1 "unpack" "Flags.unpack" 3 [] .none .none .none (.str "octetmint.flags" 316) none (.ref 149) .none 0),#[]⟩
noncomputable def k1061 : Obj:=⟨.type "function",none,.func (fK (argsOf (M 22 4)) (bodyOf (M 22 4)) (scopeOf (M 22 4)) "unpack_low" "Flags.unpack_low" 3 [] .none .none .none (.str "octetmint.flags" 316) none (.ref 156) .none 0),#[]⟩
noncomputable def k1062 : Obj:=⟨.type "function",none,.func (fK afM_22_5.1 bfM_22_5.1 sfM_22_5.1 "copy" "Flags.copy" 3 [] .none .none .none (.str "octetmint.flags" 316) none (.ref 163) .none 0),#[]⟩
noncomputable def k1063 : Obj:=⟨.type "function",none,.func (fK (argsOf (M 22 6)) (bodyOf (M 22 6)) (scopeOf (M 22 6)) "get" "Flags.get" 3 [] .none .none .none (.str "octetmint.flags" 316) none (.ref 170) .none 0),#[]⟩
noncomputable def k1064 : Obj:=⟨.type "function",none,.func (fK (argsOf (M 22 7)) (bodyOf (M 22 7)) (scopeOf (M 22 7)) "put" "Flags.put" 3 [] .none .none .none (.str "octetmint.flags" 316) none (.ref 177) .none 0),#[]⟩
noncomputable def k1065 : Obj:=⟨.type "function",none,.func (fK (argsOf (M 22 8)) (bodyOf (M 22 8)) (scopeOf (M 22 8)) "show" "Flags.show" 3 [] .none .none .none (.str "octetmint.flags" 316) none (.ref 184) .none 0),#[]⟩
noncomputable def k1066 : Obj:=⟨.type "function",none,.func (fK (argsOf (S 23)) (bodyOf (S 23)) (scopeOf (S 23)) "condition_number" "condition_number" 3 [] .none .none .none (.str "octetmint.flags" 316) none (.ref 198) .none 0),#[]⟩
noncomputable def k1067 : Obj:=⟨.type "function",none,.func (fK (argsOf (S 24)) (bodyOf (S 24)) (scopeOf (S 24)) "holds_number" "holds_number" 3 [] .none .none .none (.str "octetmint.flags" 316) none (.ref 205) .none 0),#[]⟩
noncomputable def k1068 : Obj:=⟨.type "function",none,.func (fK (argsOf (S 25)) (bodyOf (S 25)) (scopeOf (S 25)) "holds" "holds" 3 [] .none .none .none (.str "octetmint.flags" 316) none (.ref 212) .none 0),#[]⟩
noncomputable def k1069 : Obj:=⟨.type "function",none,.func (fK afS_26.1 bfS_26.1 sfS_26.1 "szp" "szp" 3 [] .none .none .none (.str "octetmint.flags" 316) none (.ref 219) .none 0),#[]⟩
noncomputable def k1070 : Obj:=⟨.type "function",none,.func (fK afS_27.1 bfS_27.1 sfS_27.1 "sub_flags" "sub_flags" 3 [] .none .none .none (.str "octetmint.flags" 316) none (.ref 226) .none 0),#[]⟩
noncomputable def k1071 : Obj:=⟨.type "function",none,.func (fK afM_33_0.1 bfM_33_0.1 sfM_33_0.1 "__init__" "Register.__init__" 3 [] .none .none .none (.str "octetmint.registers" 485) none (.ref 240) .none 0),#[]⟩
noncomputable def k1072 : Obj:=⟨.type "function",none,.func (fK (argsOf (M 33 1)) (bodyOf (M 33 1)) (scopeOf (M 33 1)) "code" "Register.code" 3 [] .none .none .none (.str "octetmint.registers" 485) none (.ref 247) .none 0),#[]⟩
noncomputable def k1073 : Obj:=⟨.type "function",none,.func (fK (argsOf (M 33 2)) (bodyOf (M 33 2)) (scopeOf (M 33 2)) "is_extended" "Register.is_extended" 3 [] .none .none .none (.str "octetmint.registers" 485) none (.ref 254) .none 0),#[]⟩
noncomputable def k1074 : Obj:=⟨.type "function",none,.func (fK (argsOf (M 33 3)) (bodyOf (M 33 3)) (scopeOf (M 33 3)) "is_high" "Register.is_high" 3 [] .none .none .none (.str "octetmint.registers" 485) none (.ref 261) .none 0),#[]⟩
noncomputable def k1075 : Obj:=⟨.type "function",none,.func (fK (argsOf (M 33 4)) (bodyOf (M 33 4)) (scopeOf (M 33 4)) "needs_rex" "Register.needs_rex" 3 [] .none .none .none (.str "octetmint.registers" 485) none (.ref 268) .none 0),#[]⟩
noncomputable def k1076 : Obj:=⟨.type "function",none,.func (fK (argsOf (M 33 5)) (bodyOf (M 33 5)) (scopeOf (M 33 5)) "told" "Register.told" 3 [] .none .none .none (.str "octetmint.registers" 485) none (.ref 275) .none 0),#[]⟩
noncomputable def k1077 : Obj:=⟨.type "function",none,.func (fK afS_34.1 bfS_34.1 sfS_34.1 "early_names" "early_names" 3 [] .none .none .none (.str "octetmint.registers" 485) none (.ref 289) .none 0),#[]⟩
noncomputable def k1078 : Obj:=⟨.type "function",none,.func (fK (argsOf (S 35)) (bodyOf (S 35)) (scopeOf (S 35)) "late_ending" "late_ending" 3 [] .none .none .none (.str "octetmint.registers" 485) none (.ref 296) .none 0),#[]⟩
noncomputable def k1079 : Obj:=⟨.type "function",none,.func (fK afS_36.1 bfS_36.1 sfS_36.1 "gpr" "gpr" 3 [] .none .none .none (.str "octetmint.registers" 485) none (.ref 303) .none 0),#[]⟩
noncomputable def k1080 : Obj:=⟨.type "function",none,.func (fK afM_40_0.1 bfM_40_0.1 sfM_40_0.1 "__init__" "Memory.__init__" 3 [] .none .none .none (.str "octetmint.machine" 588) none (.ref 317) .none 0),#[]⟩
noncomputable def k1081 : Obj:=⟨.type "function",none,.func (fK afM_40_1.1 bfM_40_1.1 sfM_40_1.1 "octet" "Memory.octet" 3 [] .none .none .none (.str "octetmint.machine" 588) none (.ref 324) .none 0),#[]⟩
noncomputable def k1082 : Obj:=⟨.type "function",none,.func (fK afM_40_2.1 bfM_40_2.1 sfM_40_2.1 "set_octet" "Memory.set_octet" 3 [] .none .none .none (.str "octetmint.machine" 588) none (.ref 331) .none 0),#[]⟩
noncomputable def k1083 : Obj:=⟨.type "function",none,.func (fK afM_40_3.1 bfM_40_3.1 sfM_40_3.1 "read" "Memory.read" 3 [] .none .none .none (.str "octetmint.machine" 588) none (.ref 338) .none 0),#[]⟩
noncomputable def k1084 : Obj:=⟨.type "function",none,.func (fK afM_40_4.1 bfM_40_4.1 sfM_40_4.1 "write" "Memory.write" 3 [] .none .none .none (.str "octetmint.machine" 588) none (.ref 345) .none 0),#[]⟩
noncomputable def k1085 : Obj:=⟨.type "function",none,.func (fK (argsOf (M 40 5)) (bodyOf (M 40 5)) (scopeOf (M 40 5)) "load" "Memory.load" 3 [] .none .none .none (.str "octetmint.machine" 588) none (.ref 352) .none 0),#[]⟩
noncomputable def k1086 : Obj:=⟨.type "function",none,.func (fK (argsOf (M 40 6)) (bodyOf (M 40 6)) (scopeOf (M 40 6)) "octets" "Memory.octets" 3 [] .none .none .none (.str "octetmint.machine" 588) none (.ref 357) .none 0),#[]⟩
noncomputable def k1087 : Obj:=⟨.type "function",none,.func (fK afM_40_7.1 bfM_40_7.1 sfM_40_7.1 "written" "Memory.written" 3 [] .none .none .none (.str "octetmint.machine" 588) none (.ref 362) .none 0),#[]⟩
noncomputable def k1088 : Obj:=⟨.type "function",none,.func (fK (argsOf (M 40 8)) (bodyOf (M 40 8)) (scopeOf (M 40 8)) "spans" "Memory.spans" 3 [] .none .none .none (.str "octetmint.machine" 588) none (.ref 369) .none 0),#[]⟩
noncomputable def k1089 : Obj:=⟨.type "function",none,.func (fK (argsOf (M 40 9)) (bodyOf (M 40 9)) (scopeOf (M 40 9)) "find" "Memory.find" 3 [] .none .none .none (.str "octetmint.machine" 588) none (.ref 376) .none 0),#[]⟩
noncomputable def k1090 : Obj:=⟨.type "function",none,.func (fK afM_40_10.1 bfM_40_10.1 sfM_40_10.1 "copy" "Memory.copy" 3 [] .none .none .none (.str "octetmint.machine" 588) none (.ref 383) .none 0),#[]⟩
noncomputable def k1091 : Obj:=⟨.type "function",none,.func (fK afM_40_11.1 bfM_40_11.1 sfM_40_11.1 "told" "Memory.told" 3 [] .none .none .none (.str "octetmint.machine" 588) none (.ref 390) .none 0),#[]⟩
noncomputable def k1092 : Obj:=⟨.type "function",none,.func (fK afS_41.1 bfS_41.1 sfS_41.1 "joined" "joined" 3 [] .none .none .none (.str "octetmint.machine" 588) none (.ref 404) .none 0),#[]⟩
noncomputable def k1093 : Obj:=⟨.type "function",none,.func (fK afM_43_0.1 bfM_43_0.1 sfM_43_0.1 "__init__" "State.__init__" 3 [] .none .none .none (.str "octetmint.machine" 588) none (.ref 418) .none 0),#[]⟩
noncomputable def k1094 : Obj:=⟨.type "function",none,.func (fK afM_43_1.1 bfM_43_1.1 sfM_43_1.1 "get" "State.get" 3 [] .none .none .none (.str "octetmint.machine" 588) none (.ref 425) .none 0),#[]⟩
noncomputable def k1095 : Obj:=⟨.type "function",none,.func (fK afM_43_2.1 bfM_43_2.1 sfM_43_2.1 "put" "State.put" 3 [] .none .none .none (.str "octetmint.machine" 588) none (.ref 432) .none 0),#[]⟩
noncomputable def k1096 : Obj:=⟨.type "function",none,.func (fK afM_43_3.1 bfM_43_3.1 sfM_43_3.1 "put_low" "State.put_low" 3 [] .none .none .none (.str "octetmint.machine" 588) none (.ref 439) .none 0),#[]⟩
noncomputable def k1097 : Obj:=⟨.type "function",none,.func (fK (argsOf (M 43 4)) (bodyOf (M 43 4)) (scopeOf (M 43 4)) "registers" "State.registers" 3 [] .none .none .none (.str "octetmint.machine" 588) none (.ref 444) .none 0),#[]⟩
noncomputable def k1098 : Obj:=⟨.type "function",none,.func (fK afM_43_5.1 bfM_43_5.1 sfM_43_5.1 "offset" "State.offset" 3 [] .none .none .none (.str "octetmint.machine" 588) none (.ref 451) .none 0),#[]⟩
noncomputable def k1099 : Obj:=⟨.type "function",none,.func (fK afM_43_6.1 bfM_43_6.1 sfM_43_6.1 "place" "State.place" 3 [] .none .none .none (.str "octetmint.machine" 588) none (.ref 458) .none 0),#[]⟩
noncomputable def k1100 : Obj:=⟨.type "function",none,.func (fK afM_43_7.1 bfM_43_7.1 sfM_43_7.1 "size_of" "State.size_of" 3 [] .none .none .none (.str "octetmint.machine" 588) none (.ref 465) .none 0),#[]⟩
noncomputable def k1101 : Obj:=⟨.type "function",none,.func (fK afM_43_8.1 bfM_43_8.1 sfM_43_8.1 "read" "State.read" 3 [] .none .none .none (.str "octetmint.machine" 588) none (.ref 472) .none 0),#[]⟩
noncomputable def k1102 : Obj:=⟨.type "function",none,.func (fK afM_43_9.1 bfM_43_9.1 sfM_43_9.1 "write" "State.write" 3 [] .none .none .none (.str "octetmint.machine" 588) none (.ref 479) .none 0),#[]⟩
noncomputable def k1103 : Obj:=⟨.type "function",none,.func (fK afM_43_10.1 bfM_43_10.1 sfM_43_10.1 "push" "State.push" 3 [] .none .none .none (.str "octetmint.machine" 588) none (.ref 486) .none 0),#[]⟩
noncomputable def k1104 : Obj:=⟨.type "function",none,.func (fK afM_43_11.1 bfM_43_11.1 sfM_43_11.1 "pop" "State.pop" 3 [] .none .none .none (.str "octetmint.machine" 588) none (.ref 493) .none 0),#[]⟩
noncomputable def k1105 : Obj:=⟨.type "function",none,.func (fK afM_43_12.1 bfM_43_12.1 sfM_43_12.1 "told" "State.told" 3 [] .none .none .none (.str "octetmint.machine" 588) none (.ref 500) .none 0),#[]⟩
noncomputable def k1106 : Obj:=⟨.type "function",none,.func (fK afM_43_13.1 bfM_43_13.1 sfM_43_13.1 "copy" "State.copy" 3 [] .none .none .none (.str "octetmint.machine" 588) none (.ref 507) .none 0),#[]⟩
noncomputable def k1107 : Obj:=⟨.type "function",none,.func (fK afS_44.1 bfS_44.1 sfS_44.1 "done" "done" 3 [] .none .none .none (.str "octetmint.machine" 588) none (.ref 521) .none 0),#[]⟩
noncomputable def k1108 : Obj:=⟨.type "function",none,.func (fK afS_45.1 bfS_45.1 sfS_45.1 "perform" "perform" 3 [] .none .none .none (.str "octetmint.machine" 588) none (.ref 528) .none 0),#[]⟩
noncomputable def k1109 : Obj:=⟨.type "function",none,.func (fK afM_47_0.1 bfM_47_0.1 sfM_47_0.1 "__init__" "Operand.__init__" 3 [] .none .none .none (.str "octetmint.operands" 901) none (.ref 542) .none 0),#[]⟩
noncomputable def k1110 : Obj:=⟨.type "function",none,.func (fK (argsOf (M 47 1)) (bodyOf (M 47 1)) (scopeOf (M 47 1)) "told" "Operand.told" 3 [] .none .none .none (.str "octetmint.operands" 901) none (.ref 549) .none 0),#[]⟩
noncomputable def k1111 : Obj:=⟨.type "function",none,.func (fK (argsOf (M 47 2)) (bodyOf (M 47 2)) (scopeOf (M 47 2)) "symbol" "Operand.symbol" 3 [] .none .none .none (.str "octetmint.operands" 901) none (.ref 556) .none 0),#[]⟩
noncomputable def k1112 : Obj:=⟨.type "function",none,.func (fK (argsOf (M 47 3)) (bodyOf (M 47 3)) (scopeOf (M 47 3)) "registers" "Operand.registers" 3 [] .none .none .none (.str "octetmint.operands" 901) none (.ref 563) .none 0),#[]⟩
noncomputable def k1113 : Obj:=⟨.type "function",none,.func (fK afM_48_0.1 bfM_48_0.1 sfM_48_0.1 "__init__" "Reg.__init__" 3 [] .none .none .none (.str "octetmint.operands" 901) none (.ref 584) .none 0),#[]⟩
noncomputable def k1114 : Obj:=⟨.type "function",none,.func (fK (argsOf (M 48 1)) (bodyOf (M 48 1)) (scopeOf (M 48 1)) "told" "Reg.told" 3 [] .none .none .none (.str "octetmint.operands" 901) none (.ref 591) .none 0),#[]⟩
noncomputable def k1115 : Obj:=⟨.type "function",none,.func (fK (argsOf (M 48 2)) (bodyOf (M 48 2)) (scopeOf (M 48 2)) "registers" "Reg.registers" 3 [] .none .none .none (.str "octetmint.operands" 901) none (.ref 598) .none 0),#[]⟩
noncomputable def k1116 : Obj:=⟨.type "function",none,.func (fK afM_49_0.1 bfM_49_0.1 sfM_49_0.1 "__init__" "Imm.__init__" 3 [] (.ref 612) .none .none (.str "octetmint.operands" 901) none (.ref 618) .none 0),#[]⟩
noncomputable def k1117 : Obj:=⟨.type "function",none,.func (fK (argsOf (M 49 1)) (bodyOf (M 49 1)) (scopeOf (M 49 1)) "told" "Imm.told" 3 [] .none .none .none (.str "octetmint.operands" 901) none (.ref 625) .none 0),#[]⟩
noncomputable def k1118 : Obj:=⟨.type "function",none,.func (fK (argsOf (M 49 2)) (bodyOf (M 49 2)) (scopeOf (M 49 2)) "symbol" "Imm.symbol" 3 [] .none .none .none (.str "octetmint.operands" 901) none (.ref 632) .none 0),#[]⟩
noncomputable def k1119 : Obj:=⟨.type "function",none,.func (fK afM_50_0.1 bfM_50_0.1 sfM_50_0.1 "__init__" "Mem.__init__" 3 [] (.ref 646) .none .none (.str "octetmint.operands" 901) none (.ref 652) .none 0),#[]⟩
noncomputable def k1120 : Obj:=⟨.type "function",none,.func (fK (argsOf (M 50 1)) (bodyOf (M 50 1)) (scopeOf (M 50 1)) "told" "Mem.told" 3 [] .none .none .none (.str "octetmint.operands" 901) none (.ref 659) .none 0),#[]⟩
noncomputable def k1121 : Obj:=⟨.type "function",none,.func (fK (argsOf (M 50 2)) (bodyOf (M 50 2)) (scopeOf (M 50 2)) "symbol" "Mem.symbol" 3 [] .none .none .none (.str "octetmint.operands" 901) none (.ref 666) .none 0),#[]⟩
noncomputable def k1122 : Obj:=⟨.type "function",none,.func (fK (argsOf (M 50 3)) (bodyOf (M 50 3)) (scopeOf (M 50 3)) "registers" "Mem.registers" 3 [] .none .none .none (.str "octetmint.operands" 901) none (.ref 671) .none 0),#[]⟩
noncomputable def k1123 : Obj:=⟨.type "function",none,.func (fK (argsOf (M 50 4)) (bodyOf (M 50 4)) (scopeOf (M 50 4)) "is_rip" "Mem.is_rip" 3 [] .none .none .none (.str "octetmint.operands" 901) none (.ref 678) .none 0),#[]⟩
noncomputable def k1124 : Obj:=⟨.type "function",none,.func (fK (argsOf (M 50 5)) (bodyOf (M 50 5)) (scopeOf (M 50 5)) "is_absolute" "Mem.is_absolute" 3 [] .none .none .none (.str "octetmint.operands" 901) none (.ref 685) .none 0),#[]⟩
noncomputable def k1125 : Obj:=⟨.type "function",none,.func (fK afM_51_0.1 bfM_51_0.1 sfM_51_0.1 "__init__" "Instruction.__init__" 3 [] (.ref 699) .none .none (.str "octetmint.operands" 901) none (.ref 705) .none 0),#[]⟩
noncomputable def k1126 : Obj:=⟨.type "function",none,.func (fK (argsOf (M 51 1)) (bodyOf (M 51 1)) (scopeOf (M 51 1)) "told" "Instruction.told" 3 [] .none .none .none (.str "octetmint.operands" 901) none (.ref 710) .none 0),#[]⟩
noncomputable def k1127 : Obj:=⟨.type "function",none,.func (fK (argsOf (M 51 2)) (bodyOf (M 51 2)) (scopeOf (M 51 2)) "memory_at" "Instruction.memory_at" 3 [] .none .none .none (.str "octetmint.operands" 901) none (.ref 717) .none 0),#[]⟩
noncomputable def k1128 : Obj:=⟨.type "function",none,.func (fK (argsOf (M 51 3)) (bodyOf (M 51 3)) (scopeOf (M 51 3)) "memory" "Instruction.memory" 3 [] .none .none .none (.str "octetmint.operands" 901) none (.ref 724) .none 0),#[]⟩
noncomputable def k1129 : Obj:=⟨.type "function",none,.func (fK (argsOf (M 51 4)) (bodyOf (M 51 4)) (scopeOf (M 51 4)) "symbols" "Instruction.symbols" 3 [] .none .none .none (.str "octetmint.operands" 901) none (.ref 731) .none 0),#[]⟩
noncomputable def k1130 : Obj:=⟨.type "function",none,.func (fK (argsOf (M 51 5)) (bodyOf (M 51 5)) (scopeOf (M 51 5)) "replaced" "Instruction.replaced" 3 [] .none .none .none (.str "octetmint.operands" 901) none (.ref 738) .none 0),#[]⟩
noncomputable def k1131 : Obj:=⟨.type "function",none,.func (fK (argsOf (S 53)) (bodyOf (S 53)) (scopeOf (S 53)) "condition_of" "condition_of" 3 [] .none .none .none (.str "octetmint.flow" 1183) none (.ref 752) .none 0),#[]⟩
noncomputable def k1132 : Obj:=⟨.type "function",none,.func (fK afS_54.1 bfS_54.1 sfS_54.1 "string_stem" "string_stem" 3 [] .none .none .none (.str "octetmint.flow" 1183) none (.ref 759) .none 0),#[]⟩
noncomputable def k1133 : Obj:=⟨.type "function",none,.func (fK (argsOf (S 55)) (bodyOf (S 55)) (scopeOf (S 55)) "where_next" "where_next" 3 [] .none .none .none (.str "octetmint.flow" 1183) none (.ref 766) .none 0),#[]⟩
noncomputable def k1134 : Obj:=⟨.type "function",none,.func (fK afS_68.1 bfS_68.1 sfS_68.1 "exchange" "exchange" 3 [] .none .none .none (.str "octetmint.transfers" 1208) none (.ref 773) .none 0),#[]⟩
noncomputable def k1135 : Obj:=⟨.type "function",none,.func (fK afS_69.1 bfS_69.1 sfS_69.1 "move_deed" "move_deed" 3 [] .none .none .none (.str "octetmint.transfers" 1208) none (.ref 780) .none 0),#[]⟩
noncomputable def k1136 : Obj:=⟨.type "function",none,.func (fK afS_70.1 bfS_70.1 sfS_70.1 "push_operand" "push_operand" 3 [] .none .none .none (.str "octetmint.transfers" 1208) none (.ref 787) .none 0),#[]⟩
noncomputable def k1137 : Obj:=⟨.type "function",none,.func (fK afS_71.1 bfS_71.1 sfS_71.1 "pop_operand" "pop_operand" 3 [] .none .none .none (.str "octetmint.transfers" 1208) none (.ref 794) .none 0),#[]⟩
noncomputable def k1138 : Obj:=⟨.type "function",none,.func (fK afS_72.1 bfS_72.1 sfS_72.1 "stack_deed" "stack_deed" 3 [] .none .none .none (.str "octetmint.transfers" 1208) none (.ref 801) .none 0),#[]⟩
noncomputable def k1139 : Obj:=⟨.type "function",none,.func (fK (argsOf (S 73)) (bodyOf (S 73)) (scopeOf (S 73)) "target_of" "target_of" 3 [] .none .none .none (.str "octetmint.transfers" 1208) none (.ref 808) .none 0),#[]⟩
noncomputable def k1140 : Obj:=⟨.type "function",none,.func (fK (argsOf (S 74)) (bodyOf (S 74)) (scopeOf (S 74)) "count_down" "count_down" 3 [] .none .none .none (.str "octetmint.transfers" 1208) none (.ref 815) .none 0),#[]⟩
noncomputable def k1141 : Obj:=⟨.type "function",none,.func (fK (argsOf (S 75)) (bodyOf (S 75)) (scopeOf (S 75)) "is_taken" "is_taken" 3 [] .none .none .none (.str "octetmint.transfers" 1208) none (.ref 822) .none 0),#[]⟩
noncomputable def k1142 : Obj:=⟨.type "function",none,.func (fK afS_76.1 bfS_76.1 sfS_76.1 "jump_deed" "jump_deed" 3 [] .none .none .none (.str "octetmint.transfers" 1208) none (.ref 829) .none 0),#[]⟩
noncomputable def k1143 : Obj:=⟨.type "function",none,.func (fK afS_77.1 bfS_77.1 sfS_77.1 "go_on" "go_on" 3 [] .none .none .none (.str "octetmint.transfers" 1208) none (.ref 836) .none 0),#[]⟩
noncomputable def k1144 : Obj:=⟨.type "function",none,.func (fK afS_78.1 bfS_78.1 sfS_78.1 "string_round" "string_round" 3 [] .none .none .none (.str "octetmint.transfers" 1208) none (.ref 843) .none 0),#[]⟩
noncomputable def k1145 : Obj:=⟨.type "function",none,.func (fK (argsOf (S 79)) (bodyOf (S 79)) (scopeOf (S 79)) "is_last" "is_last" 3 [] .none .none .none (.str "octetmint.transfers" 1208) none (.ref 850) .none 0),#[]⟩
noncomputable def k1146 : Obj:=⟨.type "function",none,.func (fK afS_80.1 bfS_80.1 sfS_80.1 "string_deed" "string_deed" 3 [] .none .none .none (.str "octetmint.transfers" 1208) none (.ref 857) .none 0),#[]⟩
noncomputable def k1147 : Obj:=⟨.type "function",none,.func (fK afS_81.1 bfS_81.1 sfS_81.1 "is_xmm" "is_xmm" 3 [] .none .none .none (.str "octetmint.transfers" 1208) none (.ref 864) .none 0),#[]⟩
noncomputable def k1148 : Obj:=⟨.type "function",none,.func (fK (argsOf (S 82)) (bodyOf (S 82)) (scopeOf (S 82)) "need_aligned" "need_aligned" 3 [] .none .none .none (.str "octetmint.transfers" 1208) none (.ref 871) .none 0),#[]⟩
noncomputable def k1149 : Obj:=⟨.type "function",none,.func (fK (argsOf (S 83)) (bodyOf (S 83)) (scopeOf (S 83)) "whole_move" "whole_move" 3 [] .none .none .none (.str "octetmint.transfers" 1208) none (.ref 878) .none 0),#[]⟩
noncomputable def k1150 : Obj:=⟨.type "function",none,.func (fK (argsOf (S 84)) (bodyOf (S 84)) (scopeOf (S 84)) "part_size" "part_size" 3 [] .none .none .none (.str "octetmint.transfers" 1208) none (.ref 885) .none 0),#[]⟩
noncomputable def k1151 : Obj:=⟨.type "function",none,.func (fK (argsOf (S 85)) (bodyOf (S 85)) (scopeOf (S 85)) "part_move" "part_move" 3 [] .none .none .none (.str "octetmint.transfers" 1208) none (.ref 892) .none 0),#[]⟩
noncomputable def k1152 : Obj:=⟨.type "function",none,.func (fK (argsOf (S 86)) (bodyOf (S 86)) (scopeOf (S 86)) "lanes" "lanes" 3 [] .none .none .none (.str "octetmint.transfers" 1208) none (.ref 897) .none 0),#[]⟩
noncomputable def k1153 : Obj:=⟨.type "function",none,.func (fK (argsOf (S 87)) (bodyOf (S 87)) (scopeOf (S 87)) "joined" "joined" 3 [] .none .none .none (.str "octetmint.transfers" 1208) none (.ref 904) .none 0),#[]⟩
noncomputable def k1154 : Obj:=⟨.type "function",none,.func (fK (argsOf (S 89)) (bodyOf (S 89)) (scopeOf (S 89)) "lane_size" "lane_size" 3 [] .none .none .none (.str "octetmint.transfers" 1208) none (.ref 911) .none 0),#[]⟩
noncomputable def k1155 : Obj:=⟨.type "function",none,.func (fK (argsOf (S 90)) (bodyOf (S 90)) (scopeOf (S 90)) "lane_worth" "lane_worth" 3 [] .none .none .none (.str "octetmint.transfers" 1208) none (.ref 918) .none 0),#[]⟩
noncomputable def k1156 : Obj:=⟨.type "function",none,.func (fK (argsOf (S 91)) (bodyOf (S 91)) (scopeOf (S 91)) "lane_result" "lane_result" 3 [] .none .none .none (.str "octetmint.transfers" 1208) none (.ref 923) .none 0),#[]⟩
noncomputable def k1157 : Obj:=⟨.type "function",none,.func (fK (argsOf (S 92)) (bodyOf (S 92)) (scopeOf (S 92)) "bit_result" "bit_result" 3 [] .none .none .none (.str "octetmint.transfers" 1208) none (.ref 930) .none 0),#[]⟩
noncomputable def k1158 : Obj:=⟨.type "function",none,.func (fK (argsOf (S 93)) (bodyOf (S 93)) (scopeOf (S 93)) "vector_move" "vector_move" 3 [] .none .none .none (.str "octetmint.transfers" 1208) none (.ref 937) .none 0),#[]⟩
noncomputable def k1159 : Obj:=⟨.type "function",none,.func (fK afS_94.1 bfS_94.1 sfS_94.1 "vector_deed" "vector_deed" 3 [] .none .none .none (.str "octetmint.transfers" 1208) none (.ref 944) .none 0),#[]⟩
noncomputable def k1160 : Obj:=⟨.type "function",none,.func (fK afS_95.1 bfS_95.1 sfS_95.1 "transfer_deed" "transfer_deed" 3 [] .none .none .none (.str "octetmint.transfers" 1208) none (.ref 951) .none 0),#[]⟩
noncomputable def k1161 : Obj:=⟨.type "function",none,.func (fK afS_97.1 bfS_97.1 sfS_97.1 "_law_base" "_law_base" 3 [] .none .none .none (.str "law_qd0115_01" 1494) none (.ref 958) .none 0),#[]⟩
noncomputable def k1162 : Obj:=⟨.type "function",none,.func (fK afS_98.1 bfS_98.1 sfS_98.1 "_law_pen" "_law_pen" 3 [] .none .none .none (.str "law_qd0115_01" 1494) none (.ref 965) .none 0),#[]⟩
noncomputable def k1163 : Obj:=⟨.type "function",none,.func (fK afS_99.1 bfS_99.1 sfS_99.1 "_law_take" "_law_take" 3 [] .none .none .none (.str "law_qd0115_01" 1494) none (.ref 972) .none 0),#[]⟩
noncomputable def k1164 : Obj:=⟨.type "function",none,.func (fK afS_100.1 bfS_100.1 sfS_100.1 "_law_row" "_law_row" 3 [] .none .none .none (.str "law_qd0115_01" 1494) none (.ref 979) .none 0),#[]⟩
noncomputable def k1165 : Obj:=⟨.type "function",none,.func (fK afS_101.1 bfS_101.1 sfS_101.1 "_law_state" "_law_state" 3 [] .none .none .none (.str "law_qd0115_01" 1494) none (.ref 986) .none 0),#[]⟩
noncomputable def k1166 : Obj:=⟨.type "function",none,.func (fK afS_102.1 bfS_102.1 sfS_102.1 "_law_refused" "_law_refused" 3 [] .none .none .none (.str "law_qd0115_01" 1494) none (.ref 993) .none 0),#[]⟩
noncomputable def k1167 : Obj:=⟨.type "function",none,.func (fK (argsOf (S 103)) bfS_103.1 sfS_103.1 "law" "law" 3 [] .none .none .none (.str "law_qd0115_01" 1494) none (.ref 998) .none 0),#[]⟩
noncomputable def heapK (P : Params) : Frag:=(nat_lit 2,(o185 P)) :: (nat_lit 3,(o1008 P)) :: (nat_lit 15,o177) :: (nat_lit 17,(⟨.type "tuple",none,.seq #[.str "k" 190] 0,#[]⟩)) :: (nat_lit 18,o177) :: (nat_lit 20,o194) :: (nat_lit 21,k1048) :: (nat_lit 22,(⟨.type "tuple",none,.seq #[.type "Exception"] 0,#[]⟩)) :: (nat_lit 29,(⟨.type "tuple",none,.seq #[.none] 0,#[]⟩)) :: (nat_lit 30,o177) :: (nat_lit 32,(⟨.type "tuple",none,.seq #[.str "self" 211,.str "what" 212,.str "at" 213] 0,#[]⟩)) :: (nat_lit 33,o177) :: (nat_lit 35,o211) :: (nat_lit 36,k1049) :: (nat_lit 37,o177) :: (nat_lit 39,(⟨.type "tuple",none,.seq #[.str "self" 220] 0,#[]⟩)) :: (nat_lit 40,o177) :: (nat_lit 42,o215) :: (nat_lit 43,k1050) :: (nat_lit 44,(⟨.type "tuple",none,.seq #[.str "at" 224,.str "what" 225] 0,#[]⟩)) :: (nat_lit 45,(o220 P)) :: (nat_lit 46,o257) :: (nat_lit 47,o222) :: (nat_lit 50,o225) :: (nat_lit 57,o177) :: (nat_lit 58,(o234 P)) :: (nat_lit 59,o235) :: (nat_lit 62,o225) :: (nat_lit 69,o177) :: (nat_lit 70,(o266 P)) :: (nat_lit 71,o267) :: (nat_lit 74,o177) :: (nat_lit 76,(⟨.type "tuple",none,.seq #[.str "size" 269] 0,#[]⟩)) :: (nat_lit 77,o177) :: (nat_lit 79,o272) :: (nat_lit 80,k1051) :: (nat_lit 81,o177) :: (nat_lit 83,(⟨.type "tuple",none,.seq #[.str "worth" 276,.str "size" 277] 0,#[]⟩)) :: (nat_lit 84,o177) :: (nat_lit 86,o276) :: (nat_lit 87,k1052) :: (nat_lit 88,o177) :: (nat_lit 90,(⟨.type "tuple",none,.seq #[.str "worth" 284,.str "n" 285] 0,#[]⟩)) :: (nat_lit 91,o177) :: (nat_lit 93,o280) :: (nat_lit 94,k1053) :: (nat_lit 95,o177) :: (nat_lit 97,o282) :: (nat_lit 98,o177) :: (nat_lit 100,o284) :: (nat_lit 101,k1054) :: (nat_lit 102,o177) :: (nat_lit 104,(⟨.type "tuple",none,.seq #[.str "worth" 302] 0,#[]⟩)) :: (nat_lit 105,o177) :: (nat_lit 107,o288) :: (nat_lit 108,k1055) :: (nat_lit 109,o177) :: (nat_lit 111,o177) :: (nat_lit 112,o177) :: (nat_lit 114,o291) :: (nat_lit 115,k1056) :: (nat_lit 123,o177) :: (nat_lit 125,(⟨.type "tuple",none,.seq #[.str "self" 349] 0,#[]⟩)) :: (nat_lit 126,o177) :: (nat_lit 128,o325) :: (nat_lit 129,k1057) :: (nat_lit 130,o177) :: (nat_lit 132,(⟨.type "tuple",none,.seq #[.str "self" 356] 0,#[]⟩)) :: (nat_lit 133,o177) :: (nat_lit 135,o329) :: (nat_lit 136,k1058) :: (nat_lit 137,o177) :: (nat_lit 139,(⟨.type "tuple",none,.seq #[.str "self" 363,.str "low" 364] 0,#[]⟩)) :: (nat_lit 140,o177) :: (nat_lit 142,o333) :: (nat_lit 143,k1059) :: (nat_lit 144,o177) :: (nat_lit 146,(⟨.type "tuple",none,.seq #[.str "self" 371,.str "number" 372] 0,#[]⟩)) :: (nat_lit 147,o177) :: (nat_lit 149,o337) :: (nat_lit 150,k1060) :: (nat_lit 151,o177) :: (nat_lit 153,(⟨.type "tuple",none,.seq #[.str "self" 379,.str "octet" 380] 0,#[]⟩)) :: (nat_lit 154,o177) :: (nat_lit 156,o341) :: (nat_lit 157,k1061) :: (nat_lit 158,o177) :: (nat_lit 160,(⟨.type "tuple",none,.seq #[.str "self" 387,.str "found" 388] 0,#[]⟩)) :: (nat_lit 161,o177) :: (nat_lit 163,o345) :: (nat_lit 164,k1062) :: (nat_lit 165,o177) :: (nat_lit 167,(⟨.type "tuple",none,.seq #[.str "self" 395,.str "name" 396,.str "names" 397] 0,#[]⟩)) :: (nat_lit 168,o177) :: (nat_lit 170,o349) :: (nat_lit 171,k1063) :: (nat_lit 172,o177) :: (nat_lit 174,o351) :: (nat_lit 175,o177) :: (nat_lit 177,o353) :: (nat_lit 178,k1064) :: (nat_lit 179,o177) :: (nat_lit 181,(⟨.type "tuple",none,.seq #[.str "self" 416] 0,#[]⟩)) :: (nat_lit 182,o177) :: (nat_lit 184,o357) :: (nat_lit 185,k1065) :: (nat_lit 186,o359) :: (nat_lit 187,(o363 P)) :: (nat_lit 188,o364) :: (nat_lit 189,o365) :: (nat_lit 190,o366) :: (nat_lit 193,o177) :: (nat_lit 195,(⟨.type "tuple",none,.seq #[.str "condition" 438] 0,#[]⟩)) :: (nat_lit 196,o177) :: (nat_lit 198,o371) :: (nat_lit 199,k1066) :: (nat_lit 200,o177) :: (nat_lit 202,o373) :: (nat_lit 203,o177) :: (nat_lit 205,o375) :: (nat_lit 206,k1067) :: (nat_lit 207,o177) :: (nat_lit 209,(⟨.type "tuple",none,.seq #[.str "flags" 455,.str "condition" 456] 0,#[]⟩)) :: (nat_lit 210,o177) :: (nat_lit 212,o379) :: (nat_lit 213,k1068) :: (nat_lit 214,o177) :: (nat_lit 216,o381) :: (nat_lit 217,o177) :: (nat_lit 219,o383) :: (nat_lit 220,k1069) :: (nat_lit 221,o177) :: (nat_lit 223,o385) :: (nat_lit 224,o177) :: (nat_lit 226,o387) :: (nat_lit 227,k1070) :: (nat_lit 235,o177) :: (nat_lit 237,o412) :: (nat_lit 238,o177) :: (nat_lit 240,o414) :: (nat_lit 241,k1071) :: (nat_lit 242,o177) :: (nat_lit 244,(⟨.type "tuple",none,.seq #[.str "self" 521] 0,#[]⟩)) :: (nat_lit 245,o177) :: (nat_lit 247,o418) :: (nat_lit 248,k1072) :: (nat_lit 249,o177) :: (nat_lit 251,(⟨.type "tuple",none,.seq #[.str "self" 528] 0,#[]⟩)) :: (nat_lit 252,o177) :: (nat_lit 254,o422) :: (nat_lit 255,k1073) :: (nat_lit 256,o177) :: (nat_lit 258,(⟨.type "tuple",none,.seq #[.str "self" 535] 0,#[]⟩)) :: (nat_lit 259,o177) :: (nat_lit 261,o426) :: (nat_lit 262,k1074) :: (nat_lit 263,o177) :: (nat_lit 265,(⟨.type "tuple",none,.seq #[.str "self" 542] 0,#[]⟩)) :: (nat_lit 266,o177) :: (nat_lit 268,o430) :: (nat_lit 269,k1075) :: (nat_lit 270,o177) :: (nat_lit 272,(⟨.type "tuple",none,.seq #[.str "self" 549] 0,#[]⟩)) :: (nat_lit 273,o177) :: (nat_lit 275,o434) :: (nat_lit 276,k1076) :: (nat_lit 277,o436) :: (nat_lit 278,(o440 P)) :: (nat_lit 279,o441) :: (nat_lit 280,o442) :: (nat_lit 281,o443) :: (nat_lit 284,o177) :: (nat_lit 286,(⟨.type "tuple",none,.seq #[.str "size" 568] 0,#[]⟩)) :: (nat_lit 287,o177) :: (nat_lit 289,o448) :: (nat_lit 290,k1077) :: (nat_lit 291,o177) :: (nat_lit 293,(⟨.type "tuple",none,.seq #[.str "size" 575] 0,#[]⟩)) :: (nat_lit 294,o177) :: (nat_lit 296,o452) :: (nat_lit 297,k1078) :: (nat_lit 298,o177) :: (nat_lit 300,(⟨.type "tuple",none,.seq #[.str "number" 582,.str "size" 583,.str "names" 584] 0,#[]⟩)) :: (nat_lit 301,o177) :: (nat_lit 303,o456) :: (nat_lit 304,k1079) :: (nat_lit 312,o177) :: (nat_lit 314,(⟨.type "tuple",none,.seq #[.str "self" 609] 0,#[]⟩)) :: (nat_lit 315,o177) :: (nat_lit 317,o485) :: (nat_lit 318,k1080) :: (nat_lit 319,o177) :: (nat_lit 321,(⟨.type "tuple",none,.seq #[.str "self" 616,.str "place" 617] 0,#[]⟩)) :: (nat_lit 322,o177) :: (nat_lit 324,o489) :: (nat_lit 325,k1081) :: (nat_lit 326,o177) :: (nat_lit 328,(⟨.type "tuple",none,.seq #[.str "self" 624,.str "place" 625,.str "octet" 626] 0,#[]⟩)) :: (nat_lit 329,o177) :: (nat_lit 331,o493) :: (nat_lit 332,k1082) :: (nat_lit 333,o177) :: (nat_lit 335,o495) :: (nat_lit 336,o177) :: (nat_lit 338,o497) :: (nat_lit 339,k1083) :: (nat_lit 340,o177) :: (nat_lit 342,o499) :: (nat_lit 343,o177) :: (nat_lit 345,o501) :: (nat_lit 346,k1084) :: (nat_lit 347,o177) :: (nat_lit 349,o503) :: (nat_lit 350,o177) :: (nat_lit 352,o505) :: (nat_lit 353,k1085) :: (nat_lit 354,o177) :: (nat_lit 357,o508) :: (nat_lit 358,k1086) :: (nat_lit 359,o177) :: (nat_lit 362,o511) :: (nat_lit 363,k1087) :: (nat_lit 364,o177) :: (nat_lit 366,(⟨.type "tuple",none,.seq #[.str "self" 678] 0,#[]⟩)) :: (nat_lit 367,o177) :: (nat_lit 369,o515) :: (nat_lit 370,k1088) :: (nat_lit 371,o177) :: (nat_lit 373,o517) :: (nat_lit 374,o177) :: (nat_lit 376,o519) :: (nat_lit 377,k1089) :: (nat_lit 378,o177) :: (nat_lit 380,(⟨.type "tuple",none,.seq #[.str "self" 696,.str "other" 697,.str "place" 698] 0,#[]⟩)) :: (nat_lit 381,o177) :: (nat_lit 383,o523) :: (nat_lit 384,k1090) :: (nat_lit 385,o177) :: (nat_lit 387,(⟨.type "tuple",none,.seq #[.str "self" 705] 0,#[]⟩)) :: (nat_lit 388,o177) :: (nat_lit 390,o527) :: (nat_lit 391,k1091) :: (nat_lit 392,(⟨.type "tuple",none,.seq #[.str "held" 709] 0,#[]⟩)) :: (nat_lit 393,(o533 P)) :: (nat_lit 394,o534) :: (nat_lit 395,o535) :: (nat_lit 396,o536) :: (nat_lit 399,o177) :: (nat_lit 401,(⟨.type "tuple",none,.seq #[.str "old" 721,.str "worth" 722,.str "size" 723] 0,#[]⟩)) :: (nat_lit 402,o177) :: (nat_lit 404,o541) :: (nat_lit 405,k1092) :: (nat_lit 413,o177) :: (nat_lit 415,(⟨.type "tuple",none,.seq #[.str "self" 743,.str "iset" 744] 0,#[]⟩)) :: (nat_lit 416,o177) :: (nat_lit 418,o571) :: (nat_lit 419,k1093) :: (nat_lit 420,o177) :: (nat_lit 422,(⟨.type "tuple",none,.seq #[.str "self" 751,.str "register" 752] 0,#[]⟩)) :: (nat_lit 423,o177) :: (nat_lit 425,o575) :: (nat_lit 426,k1094) :: (nat_lit 427,o177) :: (nat_lit 429,o577) :: (nat_lit 430,o177) :: (nat_lit 432,o579) :: (nat_lit 433,k1095) :: (nat_lit 434,o177) :: (nat_lit 436,o581) :: (nat_lit 437,o177) :: (nat_lit 439,o583) :: (nat_lit 440,k1096) :: (nat_lit 441,o177) :: (nat_lit 444,o586) :: (nat_lit 445,k1097) :: (nat_lit 446,o177) :: (nat_lit 448,(⟨.type "tuple",none,.seq #[.str "self" 786,.str "mem" 787,.str "total" 788] 0,#[]⟩)) :: (nat_lit 449,o177) :: (nat_lit 451,o590) :: (nat_lit 452,k1098) :: (nat_lit 453,o177) :: (nat_lit 455,(⟨.type "tuple",none,.seq #[.str "self" 795,.str "mem" 796,.str "base" 797] 0,#[]⟩)) :: (nat_lit 456,o177) :: (nat_lit 458,o594) :: (nat_lit 459,k1099) :: (nat_lit 460,o177) :: (nat_lit 462,o596) :: (nat_lit 463,o177) :: (nat_lit 465,o598) :: (nat_lit 466,k1100) :: (nat_lit 467,o177) :: (nat_lit 469,(⟨.type "tuple",none,.seq #[.str "self" 814,.str "operand" 815,.str "size" 816] 0,#[]⟩)) :: (nat_lit 470,o177) :: (nat_lit 472,o602) :: (nat_lit 473,k1101) :: (nat_lit 474,o177) :: (nat_lit 476,o604) :: (nat_lit 477,o177) :: (nat_lit 479,o606) :: (nat_lit 480,k1102) :: (nat_lit 481,o177) :: (nat_lit 483,(⟨.type "tuple",none,.seq #[.str "self" 833,.str "worth" 834,.str "width" 835] 0,#[]⟩)) :: (nat_lit 484,o177) :: (nat_lit 486,o610) :: (nat_lit 487,k1103) :: (nat_lit 488,o177) :: (nat_lit 490,(⟨.type "tuple",none,.seq #[.str "self" 842,.str "width" 843,.str "worth" 844] 0,#[]⟩)) :: (nat_lit 491,o177) :: (nat_lit 493,o614) :: (nat_lit 494,k1104) :: (nat_lit 495,o177) :: (nat_lit 497,(⟨.type "tuple",none,.seq #[.str "self" 851,.str "bases" 852] 0,#[]⟩)) :: (nat_lit 498,o177) :: (nat_lit 500,o618) :: (nat_lit 501,k1105) :: (nat_lit 502,o177) :: (nat_lit 504,(⟨.type "tuple",none,.seq #[.str "self" 859,.str "other" 860] 0,#[]⟩)) :: (nat_lit 505,o177) :: (nat_lit 507,o622) :: (nat_lit 508,k1106) :: (nat_lit 509,o624) :: (nat_lit 510,(o628 P)) :: (nat_lit 511,o629) :: (nat_lit 512,o630) :: (nat_lit 513,o631) :: (nat_lit 516,o177) :: (nat_lit 518,o634) :: (nat_lit 519,o177) :: (nat_lit 521,o636) :: (nat_lit 522,k1107) :: (nat_lit 523,o177) :: (nat_lit 525,(⟨.type "tuple",none,.seq #[.str "state" 894,.str "rows" 895,.str "deeds" 896,.str "instruction" 897] 0,#[]⟩)) :: (nat_lit 526,o177) :: (nat_lit 528,o646) :: (nat_lit 529,k1108) :: (nat_lit 537,o177) :: (nat_lit 539,(⟨.type "tuple",none,.seq #[.str "self" 918,.str "kind" 919] 0,#[]⟩)) :: (nat_lit 540,o177) :: (nat_lit 542,o662) :: (nat_lit 543,k1109) :: (nat_lit 544,o177) :: (nat_lit 546,(⟨.type "tuple",none,.seq #[.str "self" 926] 0,#[]⟩)) :: (nat_lit 547,o177) :: (nat_lit 549,o666) :: (nat_lit 550,k1110) :: (nat_lit 551,o177) :: (nat_lit 553,(⟨.type "tuple",none,.seq #[.str "self" 933] 0,#[]⟩)) :: (nat_lit 554,o177) :: (nat_lit 556,o670) :: (nat_lit 557,k1111) :: (nat_lit 558,o177) :: (nat_lit 560,(⟨.type "tuple",none,.seq #[.str "self" 940] 0,#[]⟩)) :: (nat_lit 561,o177) :: (nat_lit 563,o674) :: (nat_lit 564,k1112) :: (nat_lit 565,(⟨.type "tuple",none,.seq #[.str "kind" 944] 0,#[]⟩)) :: (nat_lit 566,(o680 P)) :: (nat_lit 567,o753) :: (nat_lit 568,(⟨.type "getset_descriptor",none,.fields #[.str "__dict__" 946,.ref 567,.builtin "function.__dict__",.builtin "function.__dict__#set"],#[]⟩)) :: (nat_lit 569,(⟨.type "getset_descriptor",none,.fields #[.str "__weakref__" 948,.ref 567,.builtin "ExceptionGroup.__weakref__",.none],#[]⟩)) :: (nat_lit 572,o686) :: (nat_lit 579,o177) :: (nat_lit 581,(⟨.type "tuple",none,.seq #[.str "self" 968,.str "register" 969] 0,#[]⟩)) :: (nat_lit 582,o177) :: (nat_lit 584,o700) :: (nat_lit 585,k1113) :: (nat_lit 586,o177) :: (nat_lit 588,(⟨.type "tuple",none,.seq #[.str "self" 976] 0,#[]⟩)) :: (nat_lit 589,o177) :: (nat_lit 591,o704) :: (nat_lit 592,k1114) :: (nat_lit 593,o177) :: (nat_lit 595,(⟨.type "tuple",none,.seq #[.str "self" 983] 0,#[]⟩)) :: (nat_lit 596,o177) :: (nat_lit 598,o708) :: (nat_lit 599,k1115) :: (nat_lit 600,(⟨.type "tuple",none,.seq #[.str "register" 987] 0,#[]⟩)) :: (nat_lit 601,(o712 P)) :: (nat_lit 602,o713) :: (nat_lit 605,o686) :: (nat_lit 612,(⟨.type "tuple",none,.seq #[.str "" 1004] 0,#[]⟩)) :: (nat_lit 613,o177) :: (nat_lit 615,(⟨.type "tuple",none,.seq #[.str "self" 1008,.str "worth" 1009,.str "name" 1010] 0,#[]⟩)) :: (nat_lit 616,o177) :: (nat_lit 618,o734) :: (nat_lit 619,k1116) :: (nat_lit 620,o177) :: (nat_lit 622,(⟨.type "tuple",none,.seq #[.str "self" 1017] 0,#[]⟩)) :: (nat_lit 623,o177) :: (nat_lit 625,o738) :: (nat_lit 626,k1117) :: (nat_lit 627,o177) :: (nat_lit 629,(⟨.type "tuple",none,.seq #[.str "self" 1024] 0,#[]⟩)) :: (nat_lit 630,o177) :: (nat_lit 632,o742) :: (nat_lit 633,k1118) :: (nat_lit 634,(⟨.type "tuple",none,.seq #[.str "name" 1028,.str "worth" 1029] 0,#[]⟩)) :: (nat_lit 635,(o746 P)) :: (nat_lit 636,o747) :: (nat_lit 639,o686) :: (nat_lit 646,(⟨.type "tuple",none,.seq #[.int 0 1046,.str "" 1047,.str "" 1048] 0,#[]⟩)) :: (nat_lit 647,o177) :: (nat_lit 649,o769) :: (nat_lit 650,o177) :: (nat_lit 652,o771) :: (nat_lit 653,k1119) :: (nat_lit 654,o177) :: (nat_lit 656,(⟨.type "tuple",none,.seq #[.str "self" 1066,.str "base" 1067,.str "index" 1068] 0,#[]⟩)) :: (nat_lit 657,o177) :: (nat_lit 659,o775) :: (nat_lit 660,k1120) :: (nat_lit 661,o177) :: (nat_lit 663,(⟨.type "tuple",none,.seq #[.str "self" 1075] 0,#[]⟩)) :: (nat_lit 664,o177) :: (nat_lit 666,o779) :: (nat_lit 667,k1121) :: (nat_lit 668,o177) :: (nat_lit 671,o782) :: (nat_lit 672,k1122) :: (nat_lit 673,o177) :: (nat_lit 675,(⟨.type "tuple",none,.seq #[.str "self" 1088] 0,#[]⟩)) :: (nat_lit 676,o177) :: (nat_lit 678,o786) :: (nat_lit 679,k1123) :: (nat_lit 680,o177) :: (nat_lit 682,(⟨.type "tuple",none,.seq #[.str "self" 1095] 0,#[]⟩)) :: (nat_lit 683,o177) :: (nat_lit 685,o790) :: (nat_lit 686,k1124) :: (nat_lit 687,o792) :: (nat_lit 688,(o794 P)) :: (nat_lit 689,o795) :: (nat_lit 699,(⟨.type "tuple",none,.seq #[.str "" 1122] 0,#[]⟩)) :: (nat_lit 700,o177) :: (nat_lit 702,(⟨.type "tuple",none,.seq #[.str "self" 1126,.str "name" 1127,.str "operands" 1128,.str "prefix" 1129] 0,#[]⟩)) :: (nat_lit 703,o177) :: (nat_lit 705,o835) :: (nat_lit 706,k1125) :: (nat_lit 707,o177) :: (nat_lit 710,o838) :: (nat_lit 711,k1126) :: (nat_lit 712,o177) :: (nat_lit 714,(⟨.type "tuple",none,.seq #[.str "self" 1142,.str "at" 1143,.str "operand" 1144] 0,#[]⟩)) :: (nat_lit 715,o177) :: (nat_lit 717,o842) :: (nat_lit 718,k1127) :: (nat_lit 719,o177) :: (nat_lit 721,(⟨.type "tuple",none,.seq #[.str "self" 1151,.str "at" 1152] 0,#[]⟩)) :: (nat_lit 722,o177) :: (nat_lit 724,o846) :: (nat_lit 725,k1128) :: (nat_lit 726,o177) :: (nat_lit 728,(⟨.type "tuple",none,.seq #[.str "self" 1159] 0,#[]⟩)) :: (nat_lit 729,o177) :: (nat_lit 731,o850) :: (nat_lit 732,k1129) :: (nat_lit 733,o177) :: (nat_lit 735,(⟨.type "tuple",none,.seq #[.str "self" 1166,.str "at" 1167,.str "operand" 1168] 0,#[]⟩)) :: (nat_lit 736,o177) :: (nat_lit 738,o854) :: (nat_lit 739,k1130) :: (nat_lit 740,(⟨.type "tuple",none,.seq #[.str "name" 1172,.str "operands" 1173,.str "prefix" 1174] 0,#[]⟩)) :: (nat_lit 741,(o860 P)) :: (nat_lit 742,o861) :: (nat_lit 743,(⟨.type "getset_descriptor",none,.fields #[.str "__dict__" 1176,.ref 742,.builtin "function.__dict__",.builtin "function.__dict__#set"],#[]⟩)) :: (nat_lit 744,(⟨.type "getset_descriptor",none,.fields #[.str "__weakref__" 1178,.ref 742,.builtin "ExceptionGroup.__weakref__",.none],#[]⟩)) :: (nat_lit 747,o177) :: (nat_lit 749,(⟨.type "tuple",none,.seq #[.str "name" 1188,.str "stem" 1189] 0,#[]⟩)) :: (nat_lit 750,o177) :: (nat_lit 752,o868) :: (nat_lit 753,k1131) :: (nat_lit 754,o177) :: (nat_lit 756,(⟨.type "tuple",none,.seq #[.str "name" 1196,.str "place" 1197] 0,#[]⟩)) :: (nat_lit 757,o177) :: (nat_lit 759,o872) :: (nat_lit 760,k1132) :: (nat_lit 761,o177) :: (nat_lit 763,(⟨.type "tuple",none,.seq #[.str "name" 1204] 0,#[]⟩)) :: (nat_lit 764,o177) :: (nat_lit 766,o876) :: (nat_lit 767,k1133) :: (nat_lit 768,o177) :: (nat_lit 770,(⟨.type "tuple",none,.seq #[.str "state" 1239,.str "one" 1240,.str "other" 1241,.str "size" 1242,.str "first" 1243,.str "second" 1244] 0,#[]⟩)) :: (nat_lit 771,o177) :: (nat_lit 773,o880) :: (nat_lit 774,k1134) :: (nat_lit 775,o177) :: (nat_lit 777,(⟨.type "tuple",none,.seq #[.str "state" 1251,.str "instruction" 1252,.str "name" 1253,.str "one" 1254,.str "other" 1255,.str "size" 1256] 0,#[]⟩)) :: (nat_lit 778,o177) :: (nat_lit 780,o884) :: (nat_lit 781,k1135) :: (nat_lit 782,o177) :: (nat_lit 784,(⟨.type "tuple",none,.seq #[.str "state" 1263,.str "instruction" 1264,.str "one" 1265,.str "size" 1266] 0,#[]⟩)) :: (nat_lit 785,o177) :: (nat_lit 787,o913) :: (nat_lit 788,k1136) :: (nat_lit 789,o177) :: (nat_lit 791,(⟨.type "tuple",none,.seq #[.str "state" 1273,.str "instruction" 1274,.str "one" 1275,.str "size" 1276,.str "worth" 1277] 0,#[]⟩)) :: (nat_lit 792,o177) :: (nat_lit 794,o917) :: (nat_lit 795,k1137) :: (nat_lit 796,o177) :: (nat_lit 798,(⟨.type "tuple",none,.seq #[.str "state" 1284,.str "instruction" 1285,.str "name" 1286] 0,#[]⟩)) :: (nat_lit 799,o177) :: (nat_lit 801,o921) :: (nat_lit 802,k1138) :: (nat_lit 803,o177) :: (nat_lit 805,(⟨.type "tuple",none,.seq #[.str "state" 1293,.str "operand" 1294] 0,#[]⟩)) :: (nat_lit 806,o177) :: (nat_lit 808,o925) :: (nat_lit 809,k1139) :: (nat_lit 810,o177) :: (nat_lit 812,(⟨.type "tuple",none,.seq #[.str "state" 1301] 0,#[]⟩)) :: (nat_lit 813,o177) :: (nat_lit 815,o929) :: (nat_lit 816,k1140) :: (nat_lit 817,o177) :: (nat_lit 819,(⟨.type "tuple",none,.seq #[.str "state" 1308,.str "name" 1309] 0,#[]⟩)) :: (nat_lit 820,o177) :: (nat_lit 822,o933) :: (nat_lit 823,k1141) :: (nat_lit 824,o177) :: (nat_lit 826,(⟨.type "tuple",none,.seq #[.str "state" 1316,.str "instruction" 1317,.str "name" 1318,.str "target" 1319] 0,#[]⟩)) :: (nat_lit 827,o177) :: (nat_lit 829,o937) :: (nat_lit 830,k1142) :: (nat_lit 831,o177) :: (nat_lit 833,(⟨.type "tuple",none,.seq #[.str "state" 1326,.str "number" 1327,.str "width" 1328,.str "step" 1329] 0,#[]⟩)) :: (nat_lit 834,o177) :: (nat_lit 836,o941) :: (nat_lit 837,k1143) :: (nat_lit 838,o177) :: (nat_lit 840,(⟨.type "tuple",none,.seq #[.str "state" 1336,.str "sort" 1337,.str "size" 1338,.str "width" 1339,.str "held" 1340,.str "found" 1341] 0,#[]⟩)) :: (nat_lit 841,o177) :: (nat_lit 843,o945) :: (nat_lit 844,k1144) :: (nat_lit 845,o177) :: (nat_lit 847,(⟨.type "tuple",none,.seq #[.str "state" 1348,.str "sort" 1349,.str "prefix" 1350] 0,#[]⟩)) :: (nat_lit 848,o177) :: (nat_lit 850,o949) :: (nat_lit 851,k1145) :: (nat_lit 852,o177) :: (nat_lit 854,(⟨.type "tuple",none,.seq #[.str "state" 1357,.str "instruction" 1358,.str "sort" 1359,.str "size" 1360,.str "prefix" 1361] 0,#[]⟩)) :: (nat_lit 855,o177) :: (nat_lit 857,o953) :: (nat_lit 858,k1146) :: (nat_lit 859,o177) :: (nat_lit 861,(⟨.type "tuple",none,.seq #[.str "operand" 1368] 0,#[]⟩)) :: (nat_lit 862,o177) :: (nat_lit 864,o957) :: (nat_lit 865,k1147) :: (nat_lit 866,o177) :: (nat_lit 868,(⟨.type "tuple",none,.seq #[.str "state" 1375,.str "operand" 1376] 0,#[]⟩)) :: (nat_lit 869,o177) :: (nat_lit 871,o961) :: (nat_lit 872,k1148) :: (nat_lit 873,o177) :: (nat_lit 875,(⟨.type "tuple",none,.seq #[.str "state" 1383,.str "name" 1384,.str "one" 1385,.str "other" 1386] 0,#[]⟩)) :: (nat_lit 876,o177) :: (nat_lit 878,o965) :: (nat_lit 879,k1149) :: (nat_lit 880,o177) :: (nat_lit 882,(⟨.type "tuple",none,.seq #[.str "name" 1393] 0,#[]⟩)) :: (nat_lit 883,o177) :: (nat_lit 885,o969) :: (nat_lit 886,k1150) :: (nat_lit 887,o177) :: (nat_lit 889,(⟨.type "tuple",none,.seq #[.str "state" 1400,.str "name" 1401,.str "one" 1402,.str "other" 1403,.str "size" 1404,.str "worth" 1405] 0,#[]⟩)) :: (nat_lit 890,o177) :: (nat_lit 892,o973) :: (nat_lit 893,k1151) :: (nat_lit 894,o177) :: (nat_lit 897,o976) :: (nat_lit 898,k1152) :: (nat_lit 899,o177) :: (nat_lit 901,(⟨.type "tuple",none,.seq #[.str "parts" 1418,.str "size" 1419,.str "worth" 1420,.str "at" 1421] 0,#[]⟩)) :: (nat_lit 902,o177) :: (nat_lit 904,o980) :: (nat_lit 905,k1153) :: (nat_lit 906,o177) :: (nat_lit 908,(⟨.type "tuple",none,.seq #[.str "name" 1429,.str "stem" 1430,.str "letters" 1431,.str "place" 1432] 0,#[]⟩)) :: (nat_lit 909,o177) :: (nat_lit 911,o984) :: (nat_lit 912,k1154) :: (nat_lit 913,o177) :: (nat_lit 915,(⟨.type "tuple",none,.seq #[.str "stem" 1439,.str "one" 1440,.str "other" 1441,.str "size" 1442] 0,#[]⟩)) :: (nat_lit 916,o177) :: (nat_lit 918,o988) :: (nat_lit 919,k1155) :: (nat_lit 920,o177) :: (nat_lit 923,o991) :: (nat_lit 924,k1156) :: (nat_lit 925,o177) :: (nat_lit 927,(⟨.type "tuple",none,.seq #[.str "name" 1455,.str "one" 1456,.str "other" 1457] 0,#[]⟩)) :: (nat_lit 928,o177) :: (nat_lit 930,o995) :: (nat_lit 931,k1157) :: (nat_lit 932,o177) :: (nat_lit 934,(⟨.type "tuple",none,.seq #[.str "state" 1464,.str "name" 1465,.str "one" 1466,.str "other" 1467,.str "size" 1468] 0,#[]⟩)) :: (nat_lit 935,o177) :: (nat_lit 937,o1012) :: (nat_lit 938,k1158) :: (nat_lit 939,o177) :: (nat_lit 941,o1014) :: (nat_lit 942,o177) :: (nat_lit 944,o1016) :: (nat_lit 945,k1159) :: (nat_lit 946,o177) :: (nat_lit 948,(⟨.type "tuple",none,.seq #[.str "state" 1489,.str "instruction" 1490] 0,#[]⟩)) :: (nat_lit 949,o177) :: (nat_lit 951,o1020) :: (nat_lit 952,k1160) :: (nat_lit 953,o177) :: (nat_lit 955,o177) :: (nat_lit 956,o177) :: (nat_lit 958,o1023) :: (nat_lit 959,k1161) :: (nat_lit 960,o177) :: (nat_lit 962,(⟨.type "tuple",none,.seq #[.str "script" 1505,.str "store" 1506,.str "cell" 1507] 0,#[]⟩)) :: (nat_lit 963,o177) :: (nat_lit 965,o1027) :: (nat_lit 966,k1162) :: (nat_lit 967,o177) :: (nat_lit 969,(⟨.type "tuple",none,.seq #[.str "pen" 1514,.str "many" 1515,.str "found" 1516] 0,#[]⟩)) :: (nat_lit 970,o177) :: (nat_lit 972,o1031) :: (nat_lit 973,k1163) :: (nat_lit 974,o177) :: (nat_lit 976,(⟨.type "tuple",none,.seq #[.str "pen" 1523,.str "way" 1524,.str "size" 1525,.str "number" 1526,.str "reg" 1527,.str "mem" 1528] 0,#[]⟩)) :: (nat_lit 977,o177) :: (nat_lit 979,o1035) :: (nat_lit 980,k1164) :: (nat_lit 981,o177) :: (nat_lit 983,(⟨.type "tuple",none,.seq #[.str "pen" 1535,.str "state" 1536,.str "number" 1537,.str "at" 1538] 0,#[]⟩)) :: (nat_lit 984,o177) :: (nat_lit 986,o1039) :: (nat_lit 987,k1165) :: (nat_lit 988,o177) :: (nat_lit 990,(⟨.type "tuple",none,.seq #[.str "state" 1545,.str "rows" 1546] 0,#[]⟩)) :: (nat_lit 991,o177) :: (nat_lit 993,o1043) :: (nat_lit 994,k1166) :: (nat_lit 995,o177) :: (nat_lit 998,o1046) :: (nat_lit 999,k1167) :: []
noncomputable def asK : List Addr:=nat_lit 2 :: nat_lit 3 :: nat_lit 15 :: nat_lit 17 :: nat_lit 18 :: nat_lit 20 :: nat_lit 21 :: nat_lit 22 :: nat_lit 29 :: nat_lit 30 :: nat_lit 32 :: nat_lit 33 :: nat_lit 35 :: nat_lit 36 :: nat_lit 37 :: nat_lit 39 :: nat_lit 40 :: nat_lit 42 :: nat_lit 43 :: nat_lit 44 :: nat_lit 45 :: nat_lit 46 :: nat_lit 47 :: nat_lit 50 :: nat_lit 57 :: nat_lit 58 :: nat_lit 59 :: nat_lit 62 :: nat_lit 69 :: nat_lit 70 :: nat_lit 71 :: nat_lit 74 :: nat_lit 76 :: nat_lit 77 :: nat_lit 79 :: nat_lit 80 :: nat_lit 81 :: nat_lit 83 :: nat_lit 84 :: nat_lit 86 :: nat_lit 87 :: nat_lit 88 :: nat_lit 90 :: nat_lit 91 :: nat_lit 93 :: nat_lit 94 :: nat_lit 95 :: nat_lit 97 :: nat_lit 98 :: nat_lit 100 :: nat_lit 101 :: nat_lit 102 :: nat_lit 104 :: nat_lit 105 :: nat_lit 107 :: nat_lit 108 :: nat_lit 109 :: nat_lit 111 :: nat_lit 112 :: nat_lit 114 :: nat_lit 115 :: nat_lit 123 :: nat_lit 125 :: nat_lit 126 :: nat_lit 128 :: nat_lit 129 :: nat_lit 130 :: nat_lit 132 :: nat_lit 133 :: nat_lit 135 :: nat_lit 136 :: nat_lit 137 :: nat_lit 139 :: nat_lit 140 :: nat_lit 142 :: nat_lit 143 :: nat_lit 144 :: nat_lit 146 :: nat_lit 147 :: nat_lit 149 :: nat_lit 150 :: nat_lit 151 :: nat_lit 153 :: nat_lit 154 :: nat_lit 156 :: nat_lit 157 :: nat_lit 158 :: nat_lit 160 :: nat_lit 161 :: nat_lit 163 :: nat_lit 164 :: nat_lit 165 :: nat_lit 167 :: nat_lit 168 :: nat_lit 170 :: nat_lit 171 :: nat_lit 172 :: nat_lit 174 :: nat_lit 175 :: nat_lit 177 :: nat_lit 178 :: nat_lit 179 :: nat_lit 181 :: nat_lit 182 :: nat_lit 184 :: nat_lit 185 :: nat_lit 186 :: nat_lit 187 :: nat_lit 188 :: nat_lit 189 :: nat_lit 190 :: nat_lit 193 :: nat_lit 195 :: nat_lit 196 :: nat_lit 198 :: nat_lit 199 :: nat_lit 200 :: nat_lit 202 :: nat_lit 203 :: nat_lit 205 :: nat_lit 206 :: nat_lit 207 :: nat_lit 209 :: nat_lit 210 :: nat_lit 212 :: nat_lit 213 :: nat_lit 214 :: nat_lit 216 :: nat_lit 217 :: nat_lit 219 :: nat_lit 220 :: nat_lit 221 :: nat_lit 223 :: nat_lit 224 :: nat_lit 226 :: nat_lit 227 :: nat_lit 235 :: nat_lit 237 :: nat_lit 238 :: nat_lit 240 :: nat_lit 241 :: nat_lit 242 :: nat_lit 244 :: nat_lit 245 :: nat_lit 247 :: nat_lit 248 :: nat_lit 249 :: nat_lit 251 :: nat_lit 252 :: nat_lit 254 :: nat_lit 255 :: nat_lit 256 :: nat_lit 258 :: nat_lit 259 :: nat_lit 261 :: nat_lit 262 :: nat_lit 263 :: nat_lit 265 :: nat_lit 266 :: nat_lit 268 :: nat_lit 269 :: nat_lit 270 :: nat_lit 272 :: nat_lit 273 :: nat_lit 275 :: nat_lit 276 :: nat_lit 277 :: nat_lit 278 :: nat_lit 279 :: nat_lit 280 :: nat_lit 281 :: nat_lit 284 :: nat_lit 286 :: nat_lit 287 :: nat_lit 289 :: nat_lit 290 :: nat_lit 291 :: nat_lit 293 :: nat_lit 294 :: nat_lit 296 :: nat_lit 297 :: nat_lit 298 :: nat_lit 300 :: nat_lit 301 :: nat_lit 303 :: nat_lit 304 :: nat_lit 312 :: nat_lit 314 :: nat_lit 315 :: nat_lit 317 :: nat_lit 318 :: nat_lit 319 :: nat_lit 321 :: nat_lit 322 :: nat_lit 324 :: nat_lit 325 :: nat_lit 326 :: nat_lit 328 :: nat_lit 329 :: nat_lit 331 :: nat_lit 332 :: nat_lit 333 :: nat_lit 335 :: nat_lit 336 :: nat_lit 338 :: nat_lit 339 :: nat_lit 340 :: nat_lit 342 :: nat_lit 343 :: nat_lit 345 :: nat_lit 346 :: nat_lit 347 :: nat_lit 349 :: nat_lit 350 :: nat_lit 352 :: nat_lit 353 :: nat_lit 354 :: nat_lit 357 :: nat_lit 358 :: nat_lit 359 :: nat_lit 362 :: nat_lit 363 :: nat_lit 364 :: nat_lit 366 :: nat_lit 367 :: nat_lit 369 :: nat_lit 370 :: nat_lit 371 :: nat_lit 373 :: nat_lit 374 :: nat_lit 376 :: nat_lit 377 :: nat_lit 378 :: nat_lit 380 :: nat_lit 381 :: nat_lit 383 :: nat_lit 384 :: nat_lit 385 :: nat_lit 387 :: nat_lit 388 :: nat_lit 390 :: nat_lit 391 :: nat_lit 392 :: nat_lit 393 :: nat_lit 394 :: nat_lit 395 :: nat_lit 396 :: nat_lit 399 :: nat_lit 401 :: nat_lit 402 :: nat_lit 404 :: nat_lit 405 :: nat_lit 413 :: nat_lit 415 :: nat_lit 416 :: nat_lit 418 :: nat_lit 419 :: nat_lit 420 :: nat_lit 422 :: nat_lit 423 :: nat_lit 425 :: nat_lit 426 :: nat_lit 427 :: nat_lit 429 :: nat_lit 430 :: nat_lit 432 :: nat_lit 433 :: nat_lit 434 :: nat_lit 436 :: nat_lit 437 :: nat_lit 439 :: nat_lit 440 :: nat_lit 441 :: nat_lit 444 :: nat_lit 445 :: nat_lit 446 :: nat_lit 448 :: nat_lit 449 :: nat_lit 451 :: nat_lit 452 :: nat_lit 453 :: nat_lit 455 :: nat_lit 456 :: nat_lit 458 :: nat_lit 459 :: nat_lit 460 :: nat_lit 462 :: nat_lit 463 :: nat_lit 465 :: nat_lit 466 :: nat_lit 467 :: nat_lit 469 :: nat_lit 470 :: nat_lit 472 :: nat_lit 473 :: nat_lit 474 :: nat_lit 476 :: nat_lit 477 :: nat_lit 479 :: nat_lit 480 :: nat_lit 481 :: nat_lit 483 :: nat_lit 484 :: nat_lit 486 :: nat_lit 487 :: nat_lit 488 :: nat_lit 490 :: nat_lit 491 :: nat_lit 493 :: nat_lit 494 :: nat_lit 495 :: nat_lit 497 :: nat_lit 498 :: nat_lit 500 :: nat_lit 501 :: nat_lit 502 :: nat_lit 504 :: nat_lit 505 :: nat_lit 507 :: nat_lit 508 :: nat_lit 509 :: nat_lit 510 :: nat_lit 511 :: nat_lit 512 :: nat_lit 513 :: nat_lit 516 :: nat_lit 518 :: nat_lit 519 :: nat_lit 521 :: nat_lit 522 :: nat_lit 523 :: nat_lit 525 :: nat_lit 526 :: nat_lit 528 :: nat_lit 529 :: nat_lit 537 :: nat_lit 539 :: nat_lit 540 :: nat_lit 542 :: nat_lit 543 :: nat_lit 544 :: nat_lit 546 :: nat_lit 547 :: nat_lit 549 :: nat_lit 550 :: nat_lit 551 :: nat_lit 553 :: nat_lit 554 :: nat_lit 556 :: nat_lit 557 :: nat_lit 558 :: nat_lit 560 :: nat_lit 561 :: nat_lit 563 :: nat_lit 564 :: nat_lit 565 :: nat_lit 566 :: nat_lit 567 :: nat_lit 568 :: nat_lit 569 :: nat_lit 572 :: nat_lit 579 :: nat_lit 581 :: nat_lit 582 :: nat_lit 584 :: nat_lit 585 :: nat_lit 586 :: nat_lit 588 :: nat_lit 589 :: nat_lit 591 :: nat_lit 592 :: nat_lit 593 :: nat_lit 595 :: nat_lit 596 :: nat_lit 598 :: nat_lit 599 :: nat_lit 600 :: nat_lit 601 :: nat_lit 602 :: nat_lit 605 :: nat_lit 612 :: nat_lit 613 :: nat_lit 615 :: nat_lit 616 :: nat_lit 618 :: nat_lit 619 :: nat_lit 620 :: nat_lit 622 :: nat_lit 623 :: nat_lit 625 :: nat_lit 626 :: nat_lit 627 :: nat_lit 629 :: nat_lit 630 :: nat_lit 632 :: nat_lit 633 :: nat_lit 634 :: nat_lit 635 :: nat_lit 636 :: nat_lit 639 :: nat_lit 646 :: nat_lit 647 :: nat_lit 649 :: nat_lit 650 :: nat_lit 652 :: nat_lit 653 :: nat_lit 654 :: nat_lit 656 :: nat_lit 657 :: nat_lit 659 :: nat_lit 660 :: nat_lit 661 :: nat_lit 663 :: nat_lit 664 :: nat_lit 666 :: nat_lit 667 :: nat_lit 668 :: nat_lit 671 :: nat_lit 672 :: nat_lit 673 :: nat_lit 675 :: nat_lit 676 :: nat_lit 678 :: nat_lit 679 :: nat_lit 680 :: nat_lit 682 :: nat_lit 683 :: nat_lit 685 :: nat_lit 686 :: nat_lit 687 :: nat_lit 688 :: nat_lit 689 :: nat_lit 699 :: nat_lit 700 :: nat_lit 702 :: nat_lit 703 :: nat_lit 705 :: nat_lit 706 :: nat_lit 707 :: nat_lit 710 :: nat_lit 711 :: nat_lit 712 :: nat_lit 714 :: nat_lit 715 :: nat_lit 717 :: nat_lit 718 :: nat_lit 719 :: nat_lit 721 :: nat_lit 722 :: nat_lit 724 :: nat_lit 725 :: nat_lit 726 :: nat_lit 728 :: nat_lit 729 :: nat_lit 731 :: nat_lit 732 :: nat_lit 733 :: nat_lit 735 :: nat_lit 736 :: nat_lit 738 :: nat_lit 739 :: nat_lit 740 :: nat_lit 741 :: nat_lit 742 :: nat_lit 743 :: nat_lit 744 :: nat_lit 747 :: nat_lit 749 :: nat_lit 750 :: nat_lit 752 :: nat_lit 753 :: nat_lit 754 :: nat_lit 756 :: nat_lit 757 :: nat_lit 759 :: nat_lit 760 :: nat_lit 761 :: nat_lit 763 :: nat_lit 764 :: nat_lit 766 :: nat_lit 767 :: nat_lit 768 :: nat_lit 770 :: nat_lit 771 :: nat_lit 773 :: nat_lit 774 :: nat_lit 775 :: nat_lit 777 :: nat_lit 778 :: nat_lit 780 :: nat_lit 781 :: nat_lit 782 :: nat_lit 784 :: nat_lit 785 :: nat_lit 787 :: nat_lit 788 :: nat_lit 789 :: nat_lit 791 :: nat_lit 792 :: nat_lit 794 :: nat_lit 795 :: nat_lit 796 :: nat_lit 798 :: nat_lit 799 :: nat_lit 801 :: nat_lit 802 :: nat_lit 803 :: nat_lit 805 :: nat_lit 806 :: nat_lit 808 :: nat_lit 809 :: nat_lit 810 :: nat_lit 812 :: nat_lit 813 :: nat_lit 815 :: nat_lit 816 :: nat_lit 817 :: nat_lit 819 :: nat_lit 820 :: nat_lit 822 :: nat_lit 823 :: nat_lit 824 :: nat_lit 826 :: nat_lit 827 :: nat_lit 829 :: nat_lit 830 :: nat_lit 831 :: nat_lit 833 :: nat_lit 834 :: nat_lit 836 :: nat_lit 837 :: nat_lit 838 :: nat_lit 840 :: nat_lit 841 :: nat_lit 843 :: nat_lit 844 :: nat_lit 845 :: nat_lit 847 :: nat_lit 848 :: nat_lit 850 :: nat_lit 851 :: nat_lit 852 :: nat_lit 854 :: nat_lit 855 :: nat_lit 857 :: nat_lit 858 :: nat_lit 859 :: nat_lit 861 :: nat_lit 862 :: nat_lit 864 :: nat_lit 865 :: nat_lit 866 :: nat_lit 868 :: nat_lit 869 :: nat_lit 871 :: nat_lit 872 :: nat_lit 873 :: nat_lit 875 :: nat_lit 876 :: nat_lit 878 :: nat_lit 879 :: nat_lit 880 :: nat_lit 882 :: nat_lit 883 :: nat_lit 885 :: nat_lit 886 :: nat_lit 887 :: nat_lit 889 :: nat_lit 890 :: nat_lit 892 :: nat_lit 893 :: nat_lit 894 :: nat_lit 897 :: nat_lit 898 :: nat_lit 899 :: nat_lit 901 :: nat_lit 902 :: nat_lit 904 :: nat_lit 905 :: nat_lit 906 :: nat_lit 908 :: nat_lit 909 :: nat_lit 911 :: nat_lit 912 :: nat_lit 913 :: nat_lit 915 :: nat_lit 916 :: nat_lit 918 :: nat_lit 919 :: nat_lit 920 :: nat_lit 923 :: nat_lit 924 :: nat_lit 925 :: nat_lit 927 :: nat_lit 928 :: nat_lit 930 :: nat_lit 931 :: nat_lit 932 :: nat_lit 934 :: nat_lit 935 :: nat_lit 937 :: nat_lit 938 :: nat_lit 939 :: nat_lit 941 :: nat_lit 942 :: nat_lit 944 :: nat_lit 945 :: nat_lit 946 :: nat_lit 948 :: nat_lit 949 :: nat_lit 951 :: nat_lit 952 :: nat_lit 953 :: nat_lit 955 :: nat_lit 956 :: nat_lit 958 :: nat_lit 959 :: nat_lit 960 :: nat_lit 962 :: nat_lit 963 :: nat_lit 965 :: nat_lit 966 :: nat_lit 967 :: nat_lit 969 :: nat_lit 970 :: nat_lit 972 :: nat_lit 973 :: nat_lit 974 :: nat_lit 976 :: nat_lit 977 :: nat_lit 979 :: nat_lit 980 :: nat_lit 981 :: nat_lit 983 :: nat_lit 984 :: nat_lit 986 :: nat_lit 987 :: nat_lit 988 :: nat_lit 990 :: nat_lit 991 :: nat_lit 993 :: nat_lit 994 :: nat_lit 995 :: nat_lit 998 :: nat_lit 999 :: []
noncomputable def keepL : List Nat:=[0,2,3,4,5,6,7,8,9,11,12,14,15,16,17,18,19,20,21,22,23,24,25,26,27,29,30,31,32,33,34,35,36,38,39,40,42,43,44,45,47,48,49,50,51,53,54,55,57,58,59,60,61,62,63,64,65,66,67,68,69,70,71,72,73,74,75,76,77,78,79,80,81,82,83,84,85,86,87,88,89,90,91,92,93,94,95,97,98,99,100,101,102,103]
noncomputable def viewK : Program:={ pE with main:={ pE.main with body:=keepL.map fun i=>nthS pE.main.body i } }

theorem twSeg : @segRunT = @PySem.W.Fast.tw10110043849684766642:=PySem.W.Fast.te10110043849684766642
theorem twTab : treeTable = PySem.W.Fast.tw14364793385576792824:=PySem.W.Fast.te14364793385576792824
theorem twGo : @topGo = @PySem.W.Fast.tw15667345088766844465:=PySem.W.Fast.te15667345088766844465
theorem twDen : @denote = @PySem.W.Fast.tw11892475500146522536:=PySem.W.Fast.te11892475500146522536
theorem twSegRun : @segRun = @PySem.W.Fast.tw14374325043358763698:=PySem.W.Fast.te14374325043358763698
theorem twTop : @topRun = @PySem.W.Fast.tw14082659384304107361:=PySem.W.Fast.te14082659384304107361
theorem twNs : @Heap.nsMap = @PySem.W.Fast.tw8920871248978507458:=PySem.W.Fast.te8920871248978507458
theorem piece6 (w : World) : (fun os=>segRunT treeTable pE w 11 (some (.ref 6)) 1 3505 (stT (tree0 w.params) 15 187 os) (piecesOf sts6 envE codeE ⟨0,0,0,0⟩ [topFrame posE])) = fun os=>some (Flow.next,stT (tree6 w.params) 523 891 os,codeE,⟨351,0,360,33⟩):=by
  rw [twSeg,twTab];kernel_rfl
theorem piece12 (w : World) : (fun os=>segRunT treeTable pE w 11 (some (.ref 6)) 1 3076 (stT (tree6 w.params) 523 891 os) (piecesOf sts12 envE codeE ⟨351,0,360,33⟩ [topFrame posE])) = fun os=>some (Flow.next,stT (tree12 w.params) 1000 1556 os,codeE,⟨753,0,768,88⟩):=by
  rw [twSeg,twTab];kernel_rfl

abbrev annE : Option Value:=some (.ref 6)
theorem preP (w : World) : (fun os=>topGo treeTable pE w 11 annE 12 ⟨boot_heap w.params,Array.mk [],boot_drawn,boot_toks,os⟩ (topStub pE)) = fun os=>some (⟨heapA w.params,#[],{},187,os⟩,⟨denote treeTable codeE,codeE,posE,[topFrame posE]⟩):=by
  rw [twGo,twDen,twTab];kernel_rfl
theorem blockP (w : World) : (fun os=>segRun treeTable pE w 11 annE 1 1 ⟨heapA w.params,#[],{},187,os⟩ (blockOf (behindTheImports pE) envE codeE posE [topFrame posE])) = fun os=>some (Flow.next,(stT (tree0 w.params) 15 187 os).abs,codeE,posE):=by
  rw [twSegRun,twTab];kernel_rfl
theorem finP (w : World) : (fun os=>topRun treeTable pE w 11 annE 2 (stT (tree12 w.params) 1000 1556 os).abs ⟨doneF .next,codeE,⟨753,0,768,88⟩,[topFrame posE]⟩) = fun os=>some ⟨heapF w.params,#[],{},1556,os⟩:=by
  rw [twTop,twTab];kernel_rfl
theorem splitP : sts6 ++ (sts12 ++ ([])) = behindTheImports pE:=by kernel_rfl
theorem runP (w : World) (os : OsState) : topRun treeTable pE w 11 annE (12 + (1 + (3505 + (3076 + (2))))) ⟨boot_heap w.params,Array.mk [],boot_drawn,boot_toks,os⟩ (topStub pE) = some ⟨heapF w.params,#[],{},1556,os⟩:=by
  refine go_top (congrFun (preP w) os) (piece_block (congrFun (blockP w) os) ?_)
  rw [← splitP]
  refine piece_app (segRun_of (congrFun (piece6 w) os)) ?_
  refine piece_app (segRun_of (congrFun (piece12 w) os)) ?_
  exact piece_nil (congrFun (finP w) os)
theorem openP : ∀ w : World,(fencedOpening treeTable pE w 13264).map (fun s=>(s.heap,s.gens,s.drawn,s.toks)) = some (boot_heap w.params,Array.mk [],boot_drawn,boot_toks) :=
  boot_open (by kernel_rfl) (by decide) (fun s=>by kernel_rfl)
theorem sizeP : ∀ w : World,((boot_heap w.params).isNs mainGlobals && (Array.mk [] : Array GenState).size == 0,(boot_heap w.params).objs.size,(boot_heap w.params).nsMap mainGlobals "__annotations__") = (true,11,annE):=fun w=>by
  rw [twNs];kernel_rfl
def looseK : List Str:=["MintError","joined_machine","Imm","Mem","ALL_LANES","joined_transfers"]
def lvK : List (Str × WData):=[("ALL_LANES",.int 340282366920938463463374607431768211455)]
noncomputable abbrev endS (w : World) (os : OsState) : Shared:=⟨heapF w.params,#[],{},1556,os⟩
theorem tw_imp : @PySem.importedModules = @PySem.W.Fast.tw5923862056798008813:=PySem.W.Fast.te5923862056798008813
theorem tw_seen : @PyProof.Rows.seen = @PySem.W.Fast.tw5160383126252970620:=PySem.W.Fast.te5160383126252970620
theorem tw_recs : @PyProof.Rows.recsOf = @PySem.W.Fast.tw3399658132070893891:=PySem.W.Fast.te3399658132070893891
theorem tw_owns : @PyProof.Rows.ownsOf = @PySem.W.Fast.tw5991557255702980513:=PySem.W.Fast.te5991557255702980513
theorem tw_keys : @PySem.Heap.keysOk = @PySem.W.Fast.tw10880121769531294198:=PySem.W.Fast.te10880121769531294198
theorem tw_loose : @PySem.W.looseW = @PySem.W.Fast.tw821141287760084731:=PySem.W.Fast.te821141287760084731
theorem tw_lits : @PyProof.Rows.litsOf = @PySem.W.Fast.tw7409074990110511671:=PySem.W.Fast.te7409074990110511671
theorem tw_clss : @PyProof.Rows.clssOf = @PySem.W.Fast.tw13664370479719496447:=PySem.W.Fast.te13664370479719496447
theorem tw_acc : @PySem.Heap.accountedOkI = @PySem.W.Fast.tw14722251495701143533:=PySem.W.Fast.te14722251495701143533
theorem tw_tabs : @PyProof.Rows.tablesOk = @PySem.W.Fast.tw10994771534591457954:=PySem.W.Fast.te10994771534591457954
theorem tw_tabsOk : @PyProof.Rows.tabsOk = @PySem.W.Fast.tw479339242167458305:=PySem.W.Fast.te479339242167458305
theorem tw_pin : @PySem.pinSeenD = @PySem.W.Fast.tw16090120013241838585:=PySem.W.Fast.te16090120013241838585
theorem tw_drecs : @PyProof.Rows.drecsOf = @PySem.W.Fast.tw3247288618530077131:=PySem.W.Fast.te3247288618530077131
theorem tw_plainE : @PyProof.Rows.plainSeenE = @PySem.W.Fast.tw2386780881361962483:=PySem.W.Fast.te2386780881361962483
theorem tw_plainD : @PyProof.Rows.plainSeenD = @PySem.W.Fast.tw11698064438423848299:=PySem.W.Fast.te11698064438423848299
theorem tw_wide : @PySem.W.wideSeen = @PySem.W.Fast.tw7317090234206586261:=PySem.W.Fast.te7317090234206586261
theorem tw_clsS : @PySem.W.clsSeenW = @PySem.W.Fast.tw7369524293546568484:=PySem.W.Fast.te7369524293546568484
theorem tw_said : @PySem.W.OpenLaw.wellSaid = @PySem.W.Fast.tw9446332074065402090:=PySem.W.Fast.te9446332074065402090
theorem look0 (w : World) (os : OsState) : (staticsOk (importedModules pE.main.body) (boot_heap w.params) (heapF w.params) && namesBound pE (heapF w.params) && gensDone (endS w os) && laidKept (boot_heap w.params) (heapF w.params)) = true:=by
  rw [tw_imp];kernel_rfl
theorem look1 (w : World) (os : OsState) : seen ((recsOf viewK).map (·.name)) (ownsOf viewK) [] { endS w os with gens:=#[] } = expectedOf viewK:=by
  rw [PySem.W.R.mapR_eq,tw_seen,tw_recs,tw_owns];kernel_rfl
theorem look2 (w : World) (os : OsState) : (endS w os).heap.bltView = bltViewBooted:=by kernel_rfl
noncomputable abbrev xtK (s : Shared) : Bool:=xlAt viewK lvK s && recOk (RowW.records PySem.Challenge.rw_qd0115_01.row.toRowW) s
theorem look3a (w : World) (os : OsState) : (endS w os).heap.keysOk (looseW viewK looseK) ((recsOf viewK).map (·.name)) ((litsOf viewK).map (·.1)) ((clssOf viewK (looseW viewK looseK)).map (·.name)) = true:=by
  rw [PySem.W.R.mapR_eq,tw_keys,tw_loose,tw_recs,tw_lits,tw_clss];kernel_rfl
theorem look3b (w : World) (os : OsState) : (endS w os).heap.accountedOkI (importedModules pE.main.body) = true:=by rw [tw_acc,tw_imp];kernel_rfl
theorem look3c (w : World) (os : OsState) : tablesOk viewK (endS w os).heap = true:=by rw [tw_tabs];kernel_rfl
theorem look3d (w : World) (os : OsState) : xtK (endS w os) = true:=by kernel_rfl
theorem look3 (w : World) (os : OsState) : ((endS w os).heap.keysOk (looseW viewK looseK) ((recsOf viewK).map (·.name)) ((litsOf viewK).map (·.1)) ((clssOf viewK (looseW viewK looseK)).map (·.name)) && (endS w os).heap.accountedOkI (importedModules pE.main.body) && (endS w os).heap.isNs mainGlobals && (endS w os).heap.isNs builtinsNs && tablesOk viewK (endS w os).heap && xtK (endS w os) && (if true = true then (endS w os).gens.size == 0 else !leftWithCleanup (endS w os).gens)) = true:=by
  rw [look3a,look3b,look3c,look3d];kernel_rfl
theorem look4 (w : World) (os : OsState) : tabsOk viewK (endS w os) = true:=by rw [tw_tabsOk];kernel_rfl
theorem look5 (w : World) (os : OsState) : pinSeenD viewK (drecsOf viewK) (endS w os) = pinGoodD (drecsOf viewK):=by rw [tw_pin,tw_drecs];kernel_rfl
theorem look6 (w : World) (os : OsState) : plainSeenE viewK (looseW viewK looseK) (endS w os) = plainGoodE viewK (looseW viewK looseK):=by rw [tw_plainE,tw_loose];kernel_rfl
theorem look7 (w : World) (os : OsState) : plainSeenD viewK looseK (endS w os) = plainGoodD viewK looseK:=by rw [tw_plainD];kernel_rfl
theorem look8 (w : World) (os : OsState) : wideSeen viewK (endS w os) = wideGood viewK:=by rw [tw_wide];kernel_rfl
theorem look9 (w : World) (os : OsState) : clsSeenW viewK looseK (endS w os) = clsGoodW viewK looseK:=by rw [tw_clsS];kernel_rfl
theorem asK_eq (P : Params) : asK = (heapK P).map (·.1):=by kernel_rfl
noncomputable abbrev hookK : Hook:=kHook heapK asK asK_eq
theorem map_cut {α β γ : Type} {f : α → γ} {g : β → γ} {l : List α} {l' : List β} (k : Nat) (h1 : (l.take k).map f = (l'.take k).map g) (h2 : (l.drop k).map f = (l'.drop k).map g) : l.map f = l'.map g:=by
  rw [← List.take_append_drop k l,← List.take_append_drop k l',List.map_append,List.map_append,h1,h2]
theorem look10a (w : World) : (asK.take 130).map (heapF w.params).get? = ((heapK w.params).take 130).map fun p=>some p.2:=by kernel_rfl
theorem look10b (w : World) : ((asK.drop 130).take 130).map (heapF w.params).get? = (((heapK w.params).drop 130).take 130).map fun p=>some p.2:=by kernel_rfl
theorem look10c (w : World) : (((asK.drop 130).drop 130).take 130).map (heapF w.params).get? = ((((heapK w.params).drop 130).drop 130).take 130).map fun p=>some p.2:=by kernel_rfl
theorem look10d (w : World) : ((((asK.drop 130).drop 130).drop 130).take 130).map (heapF w.params).get? = (((((heapK w.params).drop 130).drop 130).drop 130).take 130).map fun p=>some p.2:=by kernel_rfl
theorem look10e (w : World) : ((((asK.drop 130).drop 130).drop 130).drop 130).map (heapF w.params).get? = (((((heapK w.params).drop 130).drop 130).drop 130).drop 130).map fun p=>some p.2:=by kernel_rfl
theorem look10 (w : World) (os : OsState) : hookK.obs (endS w os) = hookK.val w:=by
  show asK.map (heapF w.params).get? = (heapK w.params).map fun p=>some p.2
  exact map_cut 130 (look10a w) (map_cut 130 (look10b w) (map_cut 130 (look10c w) (map_cut 130 (look10d w) (look10e w))))
theorem seenP (w : World) (os : OsState) : openSeen viewK looseK (importedModules pE.main.body) xtK true (endS w os) = openGood viewK looseK:=by
  have t1 : openSeen viewK looseK (importedModules pE.main.body) xtK true (endS w os) = (seen ((recsOf viewK).map (·.name)) (ownsOf viewK) [] { endS w os with gens:=#[] },(endS w os).heap.bltView,((endS w os).heap.keysOk (looseW viewK looseK) ((recsOf viewK).map (·.name)) ((litsOf viewK).map (·.1)) ((clssOf viewK (looseW viewK looseK)).map (·.name)) && (endS w os).heap.accountedOkI (importedModules pE.main.body) && (endS w os).heap.isNs mainGlobals && (endS w os).heap.isNs builtinsNs && tablesOk viewK (endS w os).heap && xtK (endS w os) && (if true = true then (endS w os).gens.size == 0 else !leftWithCleanup (endS w os).gens)),tabsOk viewK (endS w os),pinSeenD viewK (drecsOf viewK) (endS w os),plainSeenE viewK (looseW viewK looseK) (endS w os),plainSeenD viewK looseK (endS w os),wideSeen viewK (endS w os),clsSeenW viewK looseK (endS w os)):=by kernel_rfl
  rw [t1,look1 w os,look2 w os,look3 w os,look4 w os,look5 w os,look6 w os,look7 w os,look8 w os,look9 w os];kernel_rfl
theorem looksP (w : World) : (fun os=>((staticsOk (importedModules pE.main.body) (boot_heap w.params) (heapF w.params) && namesBound pE (heapF w.params) && gensDone (endS w os) && laidKept (boot_heap w.params) (heapF w.params)),openSeen viewK looseK (importedModules pE.main.body) xtK true (endS w os),hookK.obs (endS w os))) = fun _=>(true,openGood viewK looseK,hookK.val w):=by
  funext os
  rw [look0 w os,seenP w os,look10 w os]
theorem leftK : LeftO pE viewK looseK xtK hookK.obs hookK.val 13264 :=
  @LeftO.of_pieces pE viewK looseK xtK _ hookK.obs hookK.val 13264 true boot_heap heapF (Array.mk []) #[] boot_drawn {} boot_toks 1556 11 annE (12 + (1 + (3505 + (3076 + (2))))) openP sizeP runP (by decide) looksP
theorem tw_names : @namesOk = @PySem.W.Fast.tw17448422675489707002:=PySem.W.Fast.te17448422675489707002
theorem tw_impN : @importsNone = @PySem.W.Fast.tw2458874890965802552:=PySem.W.Fast.te2458874890965802552
theorem namesK : namesOk viewK (looseW viewK looseK) (namesW viewK looseK) = true:=by rw [tw_names,tw_loose];kernel_rfl
theorem importsK : importsNone viewK = true:=by rw [tw_impN];kernel_rfl
theorem saidK : PySem.Challenge.rw_qd0115_01.wellSaid = true:=by
  rw [tw_said]
  delta PySem.W.Fast.tw9446332074065402090
  iterate 18 refine look_both ?_ (by decide +kernel)
  delta PySem.W.Fast.tw17960256430627541270
  iterate 2 refine look_both ?_ (by decide +kernel)
  delta PySem.W.Fast.tw2436336058641802641
  iterate 13 refine look_both ?_ (by decide +kernel)
  delta PySem.W.Fast.tw12908688711261696721
  iterate 5 refine look_both ?_ (by decide +kernel)
  decide +kernel
noncomputable def hdX : PSigma fun T : Prop=>(T → PySem.Challenge.rw_qd0115_01.Holds):=⟨_,fun h=>by
  refine holds_law saidK fun _=>holds_open (r:=PySem.Challenge.rw_qd0115_01.row) (q:=viewK) (loose:=looseK) (Xt:=xtK) (XP:=XL viewK lvK) (Yf:=hookK.obs) (Ya:=hookK.val) (YP:=hookK.says) (N:=13264) ?hl hookK.of hookK.keeps (fun s e=>xl_of s (Bool.and_eq_true_iff.mp e).1) XL.keeps (by rfl) (by rfl) (by rfl) (fun s e=>recFacts_of (Bool.and_eq_true_iff.mp e).2) (by rfl) (by first | assumption | decide +kernel) (by decide +kernel) ⟨rfl,rfl,rfl,rfl,rfl,by decide +kernel⟩ ?hw ?hc
  case hl=>exact leftK
  case hw=>w_witness2
  case hc=>exact h⟩

section
theorem sealG {P : Prop} (h : ∀ G : Prop,(P → G) → G) : P:=h P id

noncomputable def Kept (h h' : Heap) (sub : List (Addr × Obj)) : Prop:=∀ b o,h.get? b = some o → (∀ p ∈ sub,p.1 ≠ b) → h'.get? b = some o
noncomputable def WithKept (s : Shared) (sub : List (Addr × Obj)) (R : Result → Shared → Prop) (r : Result) (s' : Shared) : Prop :=
  match r with
  | .ok f=>Kept s.heap s'.heap sub → R (.ok f) s'
  | .error e=>R (.error e) s'
theorem withKept_ok {s : Shared} {sub : List (Addr × Obj)} {R : Result → Shared → Prop} {f : Flow} {s' : Shared} (h : Kept s.heap s'.heap sub → R (.ok f) s') : WithKept s sub R (.ok f) s':=h

theorem code_defH {prog : Program} {w : World} {A A₀ : Around} {s : Shared} {K : Frag} {L : Addr} {h₀ base : Heap} {m mg mb : Str → Option Value} {news : List (Addr × Obj)} {p : Program} {loose : List Str} {mean : ExcName → Option Value}
    {env : Env} {outer : List Env} {R : Result → Shared → Prop} {name qual : Str} {params : Arguments} {body : List Stmt} {scope : Scope} {dV kV doc pm cdv ct oc : Value} {an od : Option Addr} {osl : Array (Option Value)} {f : Addr} {args : Args} {binds : List (Str × Value)}
    (sub : List (Addr × Obj)) (hsub : ∀ q ∈ sub,q ∈ news)
    (B : Below A₀ base outer h₀) (F : Fr h₀ L s.heap m) (X₀ : K.In h₀) (N : News h₀ L s.heap news) (T : Top p loose mean mg mb h₀) (hA : A.frames = some (env :: outer)) (hf : env.frame = some L) (hke : env.scope.kind = .function)
    (ho : K.lookup f = some ⟨oc,od,.func (fnOf name qual params body scope dV kV doc pm an cdv ct),osl⟩) (hcd : codeIn K cdv qual = true) (hroom : A.depth < recursionLimit)
    (hbind : BindsTo s (fnOf name qual params body scope dV kV doc pm an cdv ct) args binds) (hloc : ∀ y ∈ binds,scope.names.lookup y.1 = some .local)
    (h : ∀ g L' h₁,Fr h₀ L g m → Fr g L' h₁ (fun y=>binds.reverse.lookup y) → News g L' h₁ sub → Below A base (env :: outer) g → K.In g → Top p loose mean mg mb g → (∀ p ∈ sub,p.1 < L') → (∀ b o,s.heap.get? b = some o → (∀ p ∈ sub,p.1 ≠ b) → g.get? b = some o) →
      let env':=envOf qual scope L' f cdv
      let A':=A.deeper env'
      wpAny (model prog w) A' (execs body env')
        (fun fl s'=>LeaveK h₀ L m g (WithKept s sub R) (match fl with | .ret v=>v | _=>.none) s')
        (fun e s'=>wpAny (model prog w) A' (leaving env' e) (fun _ s''=>R (.error e) s'') (fun e' s''=>R (.error e') s'') s')
        { s with heap:=h₁,toks:=s.toks + binds.length })
    (hco : scope.isCoroutine = false) (hgen : scope.isGenerator = false) (hk : scope.kind = .function)
    (hcell : ∀ x ∈ scope.names,x.2 ≠ .cell) : codeAny (model prog w) A (.call (.ref f) args) R s:=by
  have NS : News h₀ L s.heap sub:=fun q hq=>N q (hsub q hq)
  obtain ⟨FG,BG,st,lv⟩:=groundX (R:=WithKept s sub R) B F NS hA hf hke
  refine codeAny_call_def (fd:=fnX name qual params body scope [] dV kV doc pm an cdv ct) (body:=body) (binds:=binds) hroom ((X₀.keeps F.keep) _ _ ho) rfl (T.nolimit.keeps F.keep) (codeRec_of (X₀.keeps F.keep) hcd) rfl hbind hcell hloc (fun h₁ hns hk₁=>?_) hco hgen hk
  refine wpAny_mono (h _ s.heap.objs.size h₁ FG ⟨hns,fun b o e=>hk₁ b o (of_hideAll _ e),Nat.le_of_eq (hideAll_size _ _)⟩
    (fun q hq=>⟨hk₁ _ _ (NS q hq).1,Nat.ne_of_lt (Heap.lt_size (NS q hq).1),hideAll_none _ (List.mem_map_of_mem hq)⟩) BG (X₀.keeps st) (T.keeps st) (fun q hq=>Heap.lt_size (NS q hq).1) (fun b o e hn=>hideAll_get _ e fun hq=>by
      obtain ⟨q,hq,e⟩:=List.mem_map.mp hq
      exact hn q hq e)) (fun fl s' hl=>?_) fun _ _ y=>y
  refine lv _ _ hl ?_
  obtain ⟨L',m',news',F',N',k⟩:=hl
  exact fun b o hb hn=>F'.keep b o (hideAll_get _ hb fun hq=>by
    obtain ⟨q,hq,e⟩:=List.mem_map.mp hq
    exact hn q hq e)

noncomputable def mS (m : Str → Option Value) (x : Str) (v : Value) : Str → Option Value:=fun y=>if y = x then some v else m y
noncomputable def mB (ns : List Str) (vs : List Value) : Str → Option Value:=fun y=>(ns.zip vs).reverse.lookup y
theorem code_defK {prog : Program} {w : World} {A A₀ : Around} {hp : Heap} {gn : Array GenState} {dr : Drawn} {tk : Nat} {os : OsState} {K : Frag} {L : Addr} {h₀ base : Heap} {m mg mb : Str → Option Value} {news : List (Addr × Obj)} {p : Program} {loose : List Str} {mean : ExcName → Option Value}
    {env : Env} {outer : List Env} {R : Result → Shared → Prop} {name qual : Str} {params : Arguments} {body : List Stmt} {scope : Scope} {dV kV doc pm cdv ct oc : Value} {an od : Option Addr} {osl : Array (Option Value)} {f : Addr} {args : Args} {binds : List (Str × Value)} {vs : List Value}
    (sub : List (Addr × Obj)) (hsub : ∀ q ∈ sub,q ∈ news)
    (B : Below A₀ base outer h₀) (F : Fr h₀ L hp m) (X₀ : K.In h₀) (N : News h₀ L hp news) (T : Top p loose mean mg mb h₀) (hA : A.frames = some (env :: outer)) (hf : env.frame = some L) (hke : env.scope.kind = .function)
    (ho : K.lookup f = some ⟨oc,od,.func (fnOf name qual params body scope dV kV doc pm an cdv ct),osl⟩) (hcd : codeIn K cdv qual = true) (hroom : A.depth < recursionLimit)
    (hbind : BindsTo ⟨hp,gn,dr,tk,os⟩ (fnOf name qual params body scope dV kV doc pm an cdv ct) args binds) (hb : binds = (params.args.map (·.arg)).zip vs) (hloc : ∀ y ∈ (params.args.map (·.arg)).zip vs,scope.names.lookup y.1 = some .local)
    (h : ∀ g L' h₁ tk',Fr h₀ L g m → Fr g L' h₁ (mB (params.args.map (·.arg)) vs) → News g L' h₁ sub → Below A base (env :: outer) g → K.In g → Top p loose mean mg mb g → TopRead p loose mg mb g → (∀ p ∈ sub,p.1 < L') → (∀ b o,hp.get? b = some o → (∀ p ∈ sub,p.1 ≠ b) → g.get? b = some o) →
      let env':=envOf qual scope L' f cdv
      let A':=A.deeper env'
      wpAny (model prog w) A' (execs body env')
        (fun fl s'=>LeaveK h₀ L m g (WithKept ⟨hp,gn,dr,tk,os⟩ sub R) (match fl with | .ret v=>v | _=>.none) s')
        (fun e s'=>wpAny (model prog w) A' (leaving env' e) (fun _ s''=>R (.error e) s'') (fun e' s''=>R (.error e') s'') s')
        ⟨h₁,gn,dr,tk',os⟩)
    (hco : scope.isCoroutine = false) (hgen : scope.isGenerator = false) (hk : scope.kind = .function)
    (hcell : ∀ x ∈ scope.names,x.2 ≠ .cell) : codeAny (model prog w) A (.call (.ref f) args) R ⟨hp,gn,dr,tk,os⟩:=by
  subst hb
  exact code_defH sub hsub B F X₀ N T hA hf hke ho hcd hroom hbind hloc (fun g L' h₁ a1 a2 a3 a4 a5 a6 a7 a8=>h g L' h₁ _ a1 a2 a3 a4 a5 a6 (topRead_of a6) a7 a8) hco hgen hk hcell
theorem code_defL {prog : Program} {w : World} {A A₀ : Around} {hp : Heap} {gn : Array GenState} {dr : Drawn} {tk : Nat} {os : OsState} {K : Frag} {L : Addr} {h₀ base : Heap} {m mg mb : Str → Option Value} {news : List (Addr × Obj)} {p : Program} {loose : List Str} {mean : ExcName → Option Value}
    {env : Env} {outer : List Env} {R : Result → Shared → Prop} {name qual : Str} {params : Arguments} {body : List Stmt} {scope : Scope} {dV kV doc pm cdv ct oc : Value} {an od : Option Addr} {osl : Array (Option Value)} {f : Addr} {args : Args} {binds : List (Str × Value)} {vs : List Value}
    (B : Below A₀ base outer h₀) (F : Fr h₀ L hp m) (X₀ : K.In h₀) (N : News h₀ L hp news) (T : Top p loose mean mg mb h₀) (hA : A.frames = some (env :: outer)) (hf : env.frame = some L) (hke : env.scope.kind = .function)
    (ho : K.lookup f = some ⟨oc,od,.func (fnOf name qual params body scope dV kV doc pm an cdv ct),osl⟩) (hcd : codeIn K cdv qual = true) (hroom : A.depth < recursionLimit)
    (hbind : BindsTo ⟨hp,gn,dr,tk,os⟩ (fnOf name qual params body scope dV kV doc pm an cdv ct) args binds) (hb : binds = (params.args.map (·.arg)).zip vs) (hloc : ∀ y ∈ (params.args.map (·.arg)).zip vs,scope.names.lookup y.1 = some .local)
    (h : ∀ g L' h₁ tk',Fr h₀ L g m → Fr g L' h₁ (mB (params.args.map (·.arg)) vs) → News g L' h₁ news → Below A base (env :: outer) g → K.In g → Top p loose mean mg mb g → TopRead p loose mg mb g →
      let env':=envOf qual scope L' f cdv
      let A':=A.deeper env'
      wpAny (model prog w) A' (execs body env')
        (fun fl s'=>LeaveK h₀ L m g R (match fl with | .ret v=>v | _=>.none) s')
        (fun e s'=>wpAny (model prog w) A' (leaving env' e) (fun _ s''=>R (.error e) s'') (fun e' s''=>R (.error e') s'') s')
        ⟨h₁,gn,dr,tk',os⟩)
    (hco : scope.isCoroutine = false) (hgen : scope.isGenerator = false) (hk : scope.kind = .function)
    (hcell : ∀ x ∈ scope.names,x.2 ≠ .cell) : codeAny (model prog w) A (.call (.ref f) args) R ⟨hp,gn,dr,tk,os⟩:=by
  subst hb
  exact code_def B F X₀ N T hA hf hke ho hcd hroom hbind hloc (fun g L' h₁ a1 a2 a3 a4 a5 a6=>h g L' h₁ _ a1 a2 a3 a4 a5 a6 (topRead_of a6)) hco hgen hk hcell

section
variable {h₀ h h' : Heap} {L d : Addr} {m : Str → Option Value} {news sub nn : List (Addr × Obj)} {o o' : Obj} {g : Obj → List (Addr × Obj)}
theorem news_same (N : News h₀ L h news) (K : Kept h h' sub) (hsub : ∀ q ∈ sub,q ∈ news) (N' : News h₀ L h' nn) (hs : ∀ q ∈ sub,q ∈ nn) : News h₀ L h' news:=fun p hp=>by
  refine ⟨?_,(N p hp).2⟩
  by_cases hq : ∃ q ∈ sub,q.1 = p.1
  · obtain ⟨q,hq,e⟩:=hq
    have h1:=(N q (hsub q hq)).1
    have h2:=(N p hp).1
    rw [e,h2] at h1
    have h3:=(N' q (hs q hq)).1
    rw [e] at h3
    rw [h3,Option.some.inj h1]
  · exact K _ _ (N p hp).1 fun q hq' e=>hq ⟨q,hq',e⟩
theorem upd_mem (U : UpdF d o news g) {p : Addr × Obj} (hp : p ∈ g o') : p = (d,o') ∨ (p ∈ news ∧ p.1 ≠ d):=by
  obtain ⟨pre,post,rfl,hg,a,b⟩:=U.split
  rw [hg] at hp
  rcases List.mem_append.mp hp with q | q
  · exact .inr ⟨List.mem_append_left _ q,a p q⟩
  · rcases List.mem_cons.mp q with q | q
    · exact .inl q
    · exact .inr ⟨List.mem_append_right _ (.tail _ q),b p q⟩
theorem upd_in (U : UpdF d o news g) : (d,o) ∈ news:=by
  obtain ⟨pre,post,rfl,hg,a,b⟩:=U.split
  simp
theorem news_upd1 (U : UpdF d o news g) (N : News h₀ L h news) (K : Kept h h' sub) (hsub : ∀ q ∈ sub,q ∈ news) (N' : News h₀ L h' nn) (hd : (d,o') ∈ nn) (hs : ∀ q ∈ sub,q.1 ≠ d → q ∈ nn) : News h₀ L h' (g o'):=fun p hp=>by
  rcases upd_mem U hp with rfl | ⟨hp,hne⟩
  · exact ⟨(N' _ hd).1,(N _ (upd_in U)).2⟩
  · refine ⟨?_,(N p hp).2⟩
    by_cases hq : ∃ q ∈ sub,q.1 = p.1
    · obtain ⟨q,hq,e⟩:=hq
      have h1:=(N q (hsub q hq)).1
      have h2:=(N p hp).1
      rw [e,h2] at h1
      have h3:=(N' q (hs q hq (e ▸ hne))).1
      rw [e] at h3
      rw [h3,Option.some.inj h1]
    · exact K _ _ (N p hp).1 fun q hq' e=>hq ⟨q,hq',e⟩
theorem ne_of_obj {a b : Addr} {oa ob : Obj} (N : News h₀ L h news) (ha : (a,oa) ∈ news) (hb : (b,ob) ∈ news) (hne : oa ≠ ob) : a ≠ b:=fun e=>by
  have h1:=(N _ ha).1
  have h2:=(N _ hb).1
  simp only [e] at h1
  rw [h1] at h2
  exact hne (Option.some.inj h2)
theorem ne_of_cls {a b : Addr} {oa ob : Obj} (N : News h₀ L h news) (ha : (a,oa) ∈ news) (hb : (b,ob) ∈ news) (hne : oa.cls ≠ ob.cls) : a ≠ b:=ne_of_obj N ha hb fun e=>hne (by rw [e])
end

theorem ne_alloc {g : Heap} {L' a : Addr} {h₀ h h' : Heap} {L : Addr} {news sub nn : List (Addr × Obj)} {o : Obj} (N : News h₀ L h news) (hG : ∀ b o,h.get? b = some o → (∀ p ∈ sub,p.1 ≠ b) → g.get? b = some o) (Ng : News g L' h' nn) (ha : (a,o) ∈ nn)
    (hne : ∀ q ∈ sub,q.1 ≠ a) : ∀ q ∈ news,q.1 ≠ a:=by
  rintro q hq rfl
  have h1:=hG _ _ (N q hq).1 hne
  rw [(Ng _ ha).2.2] at h1
  cases h1
noncomputable def Off (l : List (Addr × Obj)) (a : Addr) : Prop:=∀ q ∈ l,q.1 ≠ a
theorem off_ne {l : List (Addr × Obj)} {a b : Addr} {o : Obj} (h : Off l a) (hb : (b,o) ∈ l) : b ≠ a:=h _ hb
theorem off_cons {l : List (Addr × Obj)} {a b : Addr} {o : Obj} (hb : b ≠ a) (h : ∀ q ∈ l,q.1 ≠ a) : Off ((b,o) :: l) a:=fun q hq=>by
  rcases List.mem_cons.mp hq with rfl | hq
  · exact hb
  · exact h q hq
theorem news_cons {h₀ h : Heap} {L : Addr} {news nn : List (Addr × Obj)} {p : Addr × Obj} (N' : News h₀ L h nn) (hp : p ∈ nn) (N : News h₀ L h news) : News h₀ L h (p :: news):=fun q hq=>by
  rcases List.mem_cons.mp hq with rfl | hq
  · exact N' _ hp
  · exact N q hq

theorem iteT {c : Prop} {d : Decidable c} {a b : Prop} (hc : c) (h : a) : @ite Prop c d a b:=by rw [if_pos hc];exact h
theorem iteF {c : Prop} {d : Decidable c} {a b : Prop} (hc : ¬ c) (h : b) : @ite Prop c d a b:=by rw [if_neg hc];exact h

theorem bindsPos {s : Shared} {fd : FuncData} {args : List Value} (h : bindArgs fd ⟨args,[]⟩ = pure ((fd.params.args.map (·.arg)).zip args)) : BindsTo s fd ⟨args,[]⟩ ((fd.params.args.map (·.arg)).zip args):=BindsTo.of_eq h

noncomputable abbrev ent (w : World) (n : Str) (t : Tok) (v : Value) : DictEntry:={ hash:=PyData.keyHash w.params n,key:=.str n t,val:=v }

noncomputable def wrapI (x n : Int) : Int:=Builtin.bitAnd x (1 * 2 ^ n.toNat - 1)

noncomputable def intOf : Value → Int
  | .int i _=>i
  | _=>0
noncomputable def IsI (v : Value) : Prop:=∃ t,v = .int (intOf v) t
noncomputable def toD (kvs : List (Int × Value)) : List (Int × Int):=kvs.map fun p=>(p.1,intOf p.2)
noncomputable def memLook (D : List (Int × Int)) (k : Int) : Option Int:=(D.find? fun p=>p.1 = k).map (·.2)
noncomputable def memStore (D : List (Int × Int)) (k x : Int) : List (Int × Int) :=
  if D.any (fun p=>p.1 = k) then D.map (fun p=>if p.1 = k then (p.1,x) else p) else D ++ [(k,x)]
noncomputable def IsMem (w : World) (o : Obj) (D : List (Int × Int)) : Prop :=
  ∃ kvs : List (Int × Value),o.IsDictOf (intKind PySem.Challenge.rw_qd0115_01.row.prog w) kvs ∧ (∀ p ∈ kvs,IsI p.2) ∧ toD kvs = D
theorem valueAt_toD {kvs : List (Int × Value)} (h : ∀ p ∈ kvs,IsI p.2) (k d : Int) (t : Tok) : ∃ t',(valueAt kvs k).getD (.int d t) = .int ((memLook (toD kvs) k).getD d) t':=by
  unfold valueAt memLook toD
  induction kvs with
  | nil=>exact ⟨t,rfl⟩
  | cons p r ih =>
    by_cases e : p.1 = k
    · obtain ⟨u,hu⟩:=h p (.head _)
      exact ⟨u,by simp [e];exact hu⟩
    · obtain ⟨u,hu⟩:=ih fun q hq=>h q (.tail _ hq)
      exact ⟨u,by simpa [e] using hu⟩
theorem stored_toD {kvs : List (Int × Value)} (k x : Int) (t : Tok) : toD (stored kvs k (.int x t)) = memStore (toD kvs) k x:=by
  unfold stored memStore toD
  have : (kvs.map fun p=>(p.1,intOf p.2)).any (fun p=>decide (p.1 = k)) = kvs.any fun p=>decide (p.1 = k):=by
    simp [List.any_map,Function.comp_def]
  rw [this]
  split
  · simp only [List.map_map]
    apply List.map_congr_left
    intro p _
    simp only [Function.comp]
    split <;> rfl
  · simp [intOf]
theorem stored_isI {kvs : List (Int × Value)} (h : ∀ p ∈ kvs,IsI p.2) (k x : Int) (t : Tok) : ∀ p ∈ stored kvs k (.int x t),IsI p.2:=by
  intro p hp
  unfold stored at hp
  split at hp
  · obtain ⟨q,hq,rfl⟩:=List.mem_map.mp hp
    split
    · exact ⟨t,rfl⟩
    · exact h q hq
  · rcases List.mem_append.mp hp with q | q
    · exact h p q
    · rw [List.mem_singleton.mp q];exact ⟨t,rfl⟩
theorem toD_length (kvs : List (Int × Value)) : (toD kvs).length = kvs.length:=by simp [toD]

theorem flat_of {kvs : List (Int × Value)} (h : ∀ p ∈ kvs,IsI p.2) : PyProof.V.FlatPairs PyData.int kvs (kvs.map fun p=>(PyData.int p.1,PyData.int (intOf p.2))):=by
  induction kvs with
  | nil=>exact .nil
  | cons p r ih =>
    obtain ⟨k,v⟩:=p
    obtain ⟨t,ht⟩:=h (k,v) (.head _)
    refine .cons ?_ (ih fun q hq=>h q (.tail _ hq))
    have ht' : v = .int (intOf v) t:=ht
    rw [ht']
    exact PyProof.V.Flat.int _ _

section
variable {w : World} {A : Around} {E : Value → Shared → Prop} {s : Shared} {h₀ : Heap} {L d : Addr} {m : Str → Option Value} {news : List (Addr × Obj)} {g : Obj → List (Addr × Obj)} {o : Obj} {D : List (Int × Int)}
theorem getm_mem {pl : Sem Bool} {Q : Value × List Value → Shared → Prop} (N : News h₀ L s.heap news) (hp : (d,o) ∈ news) (h4 : IsMem w o D) (h : Q (.builtin "dict.get",[.ref d]) s) : wpAny (model PySem.Challenge.rw_qd0115_01.row.prog w) A (getMethod (.ref d) "get" pl) Q E s:=by
  obtain ⟨kvs,hD,hI,rfl⟩:=h4
  exact kdg_method N hp hD h
theorem get_mem {k x : Int} {t u : Tok} {Q : Value → Shared → Prop} (N : News h₀ L s.heap news) (hp : (d,o) ∈ news) (h4 : IsMem w o D) (lo : (d == sysModules) = false)
    (h : ∀ t',Q (.int ((memLook D k).getD x) t') { s with toks:=s.toks + 1 }) : wpAny (model PySem.Challenge.rw_qd0115_01.row.prog w) A (call (.builtin "dict.get") [.ref d,.int k t,.int x u]) Q E s:=by
  obtain ⟨kvs,hD,hI,rfl⟩:=h4
  obtain ⟨t',e⟩:=valueAt_toD hI k x u
  refine kdg_get2 N hp hD lo (intKind_is _ _ _ _) (valueAt kvs k) rfl ?_
  rw [e];exact h t'
theorem set_mem {k x : Int} {t u : Tok} {Q : Unit → Shared → Prop} (F : Fr h₀ L s.heap m) (N : News h₀ L s.heap news) (U : UpdF d o news g) (h4 : IsMem w o D) (hsz : D.length ≤ sizeLine)
    (h : ∀ h' o',Fr h₀ L h' m → News h₀ L h' (g o') → IsMem w o' (memStore D k x) → Q () { s with heap:=h',toks:=s.toks + 1 }) :
    wpAny (model PySem.Challenge.rw_qd0115_01.row.prog w) A (setItem (.ref d) (.int k t) (.int x u)) Q E s:=by
  obtain ⟨kvs,hD,hI,rfl⟩:=h4
  obtain ⟨pre,post,rfl,hg,a,b⟩:=U.split
  refine setItem_madeIn (hsz:=by rw [List.length_map,← toD_length];exact hsz) PyProof.V.same_int (intKind_is _ _ _ _) (PyProof.V.Flat.int x u) F N a b hD (flat_of hI) fun h' o' F' N' hd' hf'=>?_
  exact h h' o' F' (hg o' ▸ N') ⟨_,hd',stored_isI hI k x u,stored_toD k x u⟩
end
theorem memStore_length (D : List (Int × Int)) (k x : Int) : (memStore D k x).length ≤ D.length + 1:=by
  unfold memStore;split <;> simp

noncomputable def OkD (D : List (Int × Int)) : Prop:=∀ p ∈ D,0 ≤ p.2 ∧ p.2 < 256
noncomputable def octI (D : List (Int × Int)) (place : Int) : Int:=(memLook D (wrapI place 64)).getD 0
theorem octI_bounds {D : List (Int × Int)} (h : OkD D) (k : Int) : 0 ≤ octI D k ∧ octI D k < 256:=by
  unfold octI memLook
  cases e : D.find? (fun p=>p.1 = wrapI k 64) with
  | none=>simp
  | some p=>simpa using h p (List.mem_of_find?_eq_some e)
theorem memStore_ok {D : List (Int × Int)} (h : OkD D) {k x : Int} (hx : 0 ≤ x) (hx2 : x < 256) : OkD (memStore D k x):=by
  intro p hp
  unfold memStore at hp
  split at hp
  · obtain ⟨q,hq,rfl⟩:=List.mem_map.mp hp
    split
    · exact ⟨hx,hx2⟩
    · exact h q hq
  · rcases List.mem_append.mp hp with q | q
    · exact h p q
    · rw [List.mem_singleton.mp q];exact ⟨hx,hx2⟩
noncomputable def readI (D : List (Int × Int)) (place n : Int) : Int:=(rangeKs 0 n.toNat).foldl (fun acc k=>acc + octI D (place + k) * 2 ^ (8 * k).toNat) 0

section
variable {prog : Program} {w : World} {A : Around} {E : Value → Shared → Prop} {s : Shared} {env : Env} {h₀ : Heap} {x : Str} {body : List Stmt} {Q : Flow → Shared → Prop}
noncomputable def TurnS (h₀ : Heap) (L : Addr) (J : (Str → Option Value) → List (Addr × Obj) → Prop) (own : List (Addr × Obj)) (adr : List Addr) (s₁ : Shared) (Q : Flow → Shared → Prop) (f : Flow) (s₂ : Shared) : Prop:=InvPostN h₀ L J own adr s₁ Q f s₂
theorem turnS_next {L : Addr} {J : (Str → Option Value) → List (Addr × Obj) → Prop} {m' : Str → Option Value} {own news' nx : List (Addr × Obj)} {adr : List Addr} {s₁ : Shared} {h' : Heap} {tk : Nat} (F : Fr h₀ L h' m') (N : News h₀ L h' news')
    (hj : J m' nx) (ha : nx.map (·.1) = adr) (hn : ∀ p ∈ nx,p ∈ news') (ho : ∀ p ∈ own,p ∈ news') : TurnS h₀ L J own adr s₁ Q .next { s₁ with heap:=h',toks:=tk }:=InvEndN.intro F N hj ha hn ho
noncomputable def SameBut (xs : List Str) (m m₀ : Str → Option Value) : Prop:=∀ z,z ∉ xs → m z = m₀ z
theorem rangeKs_succ (a₀ : Int) (i : Nat) : rangeKs a₀ (i + 1) = rangeKs a₀ i ++ [a₀ + (i : Int)]:=by
  unfold rangeKs;rw [List.range_succ,List.map_append];rfl
theorem rangeT {σ : Type} {r : Addr} {a₀ b₀ : Int} {t₀ u₀ v₀ : Tok} {n : Nat} {m₀ : Str → Option Value} {news : List (Addr × Obj)}
    (R : (Str → Option Value) → Nat → σ → (Str → Option Value) → List (Addr × Obj) → Prop) (g : σ → Int → σ) (c₀ : σ)
    (hh : A.handled = none) (hr : IsRange s.heap r a₀ b₀ 1 t₀ u₀ v₀) (hsmall : Builtin.Range.small a₀ b₀ 1 = true) (hn : Builtin.Range.rangeSize a₀ b₀ 1 = (n : Int)) (F : Fr h₀ env.locals s.heap m₀) (N : News h₀ env.locals s.heap news) (hR : R m₀ 0 c₀ m₀ news)
    (turn : ∀ (i : Nat) k t a m₁ nx h tk own,a₀ ≤ k → k < a₀ + (n : Int) → k = a₀ + (i : Int) → i < n → a = (rangeKs a₀ i).foldl g c₀ → OwnOff own (news.map (·.1)) → R m₀ i a m₁ nx → Fr h₀ env.locals h (fun y=>if y = x then some (.int k t) else m₁ y) → News h₀ env.locals h (nx ++ own) →
      wpAny (model prog w) A (execs body env) (TurnS h₀ env.locals (R m₀ (i + 1) (g a k)) own (news.map (·.1)) { s with heap:=h,toks:=tk } Q) E { s with heap:=h,toks:=tk })
    (done : ∀ m₁ nx h tk,R m₀ n ((rangeKs a₀ n).foldl g c₀) m₁ nx → Fr h₀ env.locals h m₁ → News h₀ env.locals h nx → Q .next { s with heap:=h,toks:=tk }) :
    wpAny (model prog w) A (pyIter (.ref r)) (fun it s₂=>LoopAtV prog w A h₀ env x body Q E it s₂) E s:=by
  refine wpAny_pyIter_range hr hsmall ?_
  have W : Walks prog w A s.heap.objs.size [s.heap.objs.size] [s.heap.objs.size] n (fun i v=>i < n ∧ ∃ t,v = .int (a₀ + i * 1) t)
      (fun i h=>IsRangeIter h s.heap.objs.size (a₀ + (i : Nat) * 1) ((n : Int) - (i : Nat)) 1):=(Walks.range hh _ a₀ 1 n).bound
  refine loop_invN (fun i m nx=>R m₀ i ((rangeKs a₀ i).foldl g c₀) m nx) W ?_ ?_ ?_ ?_ (by show IsRangeIter _ _ _ _ _;rw [hn];simpa using Heap.get?_push_size _ rfl) (F.push _) (fun p hp=>⟨Heap.get?_push_of_some _ (N p hp).1,(N p hp).2⟩) hR ?_ ?_
  · intro hm
    exact absurd F.ns.lt ((List.mem_singleton.mp hm) ▸ Nat.lt_irrefl _)
  · intro b hb
    rw [List.mem_singleton.mp hb]
    exact next_is_new F
  · intro p hp hI
    exact absurd (Heap.lt_size (N p hp).1) ((List.mem_singleton.mp hI) ▸ Nat.lt_irrefl _)
  · intro p hp hI
    exact absurd (Heap.lt_size (N p hp).1) ((List.mem_singleton.mp hI) ▸ Nat.lt_irrefl _)
  · rintro i v m₁ nx h tk own hin ⟨_,t,rfl⟩ _ ho hr' F' N'
    rw [rangeKs_succ,List.foldl_append]
    rw [Int.mul_one] at F'
    exact turn i _ t _ m₁ nx h tk own (by omega) (by omega) rfl hin rfl ho hr' F' N'
  · intro m₁ nx h tk hR' F₁ N₁
    exact done m₁ nx h tk hR' F₁ N₁
theorem same_ite {x : Str} {m₁ m₀ : Str → Option Value} {v : Value} (hm : SameBut [x] m₁ m₀) : (fun z=>if z = x then some v else m₁ z) = fun z=>if z = x then some v else m₀ z:=map_none fun z hz=>hm z (by simpa using hz)
theorem same_done {x : Str} {m₁ m₀ : Str → Option Value} (hm : SameBut [x] m₁ m₀) : (fun z=>if z = x then m₁ z else m₀ z) = m₁:=done_none fun z hz=>hm z (by simpa using hz)
end


theorem bitAnd_bounds (x : Int) {y : Int} (hy : 0 ≤ y) : 0 ≤ Builtin.bitAnd x y ∧ Builtin.bitAnd x y ≤ y:=by
  by_cases hx : 0 ≤ x
  · rw [bitAnd_pp hx hy]
    have : x.toNat &&& y.toNat ≤ y.toNat:=Nat.and_le_right
    omega
  · rw [bitAnd_np hx hy]
    have : y.toNat &&& (Builtin.bitNot x).toNat ≤ y.toNat:=Nat.and_le_left
    omega
theorem wrapI_bounds (x n : Int) : 0 ≤ wrapI x n ∧ wrapI x n < 2 ^ n.toNat:=by
  unfold wrapI
  have h : (0 : Int) < 2 ^ n.toNat:=Int.pow_pos (by omega)
  have:=bitAnd_bounds x (y:=1 * 2 ^ n.toNat - 1) (by omega)
  omega
noncomputable def byteI (x k : Int) : Int:=Builtin.bitAnd (Int.fdiv x (2 ^ (8 * k).toNat)) 255
theorem byteI_bounds (x k : Int) : 0 ≤ byteI x k ∧ byteI x k < 256:=by
  have:=bitAnd_bounds (Int.fdiv x (2 ^ (8 * k).toNat)) (y:=255) (by omega)
  unfold byteI;omega
noncomputable def writeI (D : List (Int × Int)) (place n x : Int) : List (Int × Int):=(rangeKs 0 n.toNat).foldl (fun D k=>memStore D (wrapI (place + k) 64) (byteI x k)) D

structure StA where
  (x dx regs xmm fl fd me md held seg : Addr)
structure StT where
  (a b c d e f g h i j k l : Tok)
noncomputable abbrev stEnts (w : World) (τ : StT) (σ : StA) (rip beg : Int) : List DictEntry :=
  [ent w "iset" τ.a .none,ent w "regs" τ.b (.ref σ.regs),ent w "xmm" τ.c (.ref σ.xmm),ent w "flags" τ.d (.ref σ.fl),ent w "memory" τ.e (.ref σ.me),
   ent w "rip" τ.f (.int rip τ.g),ent w "begin" τ.h (.int beg τ.i),ent w "segments" τ.j (.ref σ.seg),ent w "is_halted" τ.k (.bool false)]
noncomputable abbrev stDict (w : World) (τ : StT) (σ : StA) (rip beg : Int) : Obj:=dictOf (stEnts w τ σ rip beg) 9
noncomputable abbrev rgDict (w : World) (τ : StT) (name : Value) (number size : Int) : Obj :=
  dictOf [ent w "name" τ.a name,ent w "kind" τ.c (.str "gpr" τ.d),ent w "number" τ.e (.int number τ.f),ent w "size" τ.g (.int size τ.h)] 4
noncomputable def getI (ns : List Int) (number size : Int) : Int:=wrapI (ns.getD number.toNat 0) size

noncomputable def joinI (old y size : Int) : Int:=if 32 ≤ size then y else old - wrapI old size + y
noncomputable def putI (ns : List Int) (number size y : Int) : List Int:=ns.set number.toNat (joinI (ns.getD number.toNat 0) (wrapI y size) size)

theorem putI_length {ns : List Int} {number size y : Int} (h : ns.length = 16) : (putI ns number size y).length = 16:=by
  unfold putI;rw [List.length_set];exact h

noncomputable abbrev roDict (w : World) (τ : StT) (rg : Addr) : Obj:=dictOf [ent w "kind" τ.a (.str "reg" τ.b),ent w "register" τ.c (.ref rg)] 2
noncomputable abbrev moDict (w : World) (τ : StT) (brg : Addr) (disp size : Int) (u v : Tok) : Obj :=
  dictOf [ent w "kind" τ.a (.str "mem" τ.b),ent w "base" τ.c (.ref brg),ent w "index" τ.d .none,ent w "scale" τ.e (.int 1 τ.f),ent w "worth" τ.g (.int disp τ.h),ent w "size" τ.i (.int size τ.j),
    ent w "segment" τ.k (.str "" τ.l),ent w "name" u (.str "" v)] 8
noncomputable abbrev ioDict (w : World) (τ : StT) (y : Int) : Obj:=dictOf [ent w "kind" τ.a (.str "imm" τ.b),ent w "worth" τ.c (.int y τ.d),ent w "name" τ.e (.str "" τ.f)] 3
noncomputable abbrev insDict (w : World) (τ : StT) (name : Str) (tp : Addr) (prefx : Str) : Obj:=dictOf [ent w "name" τ.a (.str name τ.b),ent w "operands" τ.c (.ref tp),ent w "prefix" τ.d (.str prefx τ.e)] 3
noncomputable abbrev tupObj (vs : List Value) : Obj:={ cls:=.type "tuple",data:=.seq vs.toArray }

noncomputable def offI (ns : List Int) (disp : Int) : Int:=wrapI (disp + getI ns 7 64) 64
noncomputable def placeI (ns : List Int) (disp : Int) : Int:=wrapI (offI ns disp + 0) 64

theorem fdiv8 {sz : Int} (h : 0 ≤ sz) (h2 : sz ≤ 128) : 0 ≤ Int.fdiv sz 8 ∧ Int.fdiv sz 8 ≤ 16:=by
  rw [Int.fdiv_eq_ediv_of_nonneg _ (by omega)]
  omega

noncomputable def pushRegs (ns : List Int) (n : Int) : List Int:=ns.set 4 (wrapI (ns.getD 4 0 - n) 64)
noncomputable def popRegs (ns : List Int) (n : Int) : List Int:=ns.set 4 (wrapI (ns.getD 4 0 + n) 64)
theorem rmz {a K n : Nat} (h : a + K < n) : a < n:=Nat.lt_of_le_of_lt (Nat.le_add_right a K) h
theorem rm0 {a k K n : Nat} (h : a + K < n) (hk : Nat.ble k K = true) : a + k < n:=Nat.lt_of_le_of_lt (Nat.add_le_add_left (Nat.le_of_ble_eq_true hk) a) h
theorem rmA {a j k K n : Nat} (h : a + K < n) (hk : Nat.ble (j + k) K = true) : a + j + k < n:=by rw [Nat.add_assoc];exact rm0 h hk
theorem rmB {a i j k K n : Nat} (h : a + K < n) (hk : Nat.ble (i + (j + k)) K = true) : a + i + j + k < n:=by rw [Nat.add_assoc,Nat.add_assoc];exact rm0 h hk
section
variable {k a c c2 c3 b i e l : Nat} {z : Int}
theorem nad1 (h : k < a) (d : decide (a + c ≤ b) = true) : k + c < b:=Nat.lt_of_lt_of_le (Nat.add_lt_add_right h c) (of_decide_eq_true d)
theorem nad2 (h : k < a) (d : decide (a + c + c2 ≤ b) = true) : k + c + c2 < b:=Nat.lt_of_lt_of_le (Nat.add_lt_add_right (Nat.add_lt_add_right h c) c2) (of_decide_eq_true d)
theorem nad3 (h : k < a) (d : decide (a + c + c2 + c3 ≤ b) = true) : k + c + c2 + c3 < b:=Nat.lt_of_lt_of_le (Nat.add_lt_add_right (Nat.add_lt_add_right (Nat.add_lt_add_right h c) c2) c3) (of_decide_eq_true d)
theorem nai (h : k < a) (h2 : i < e) (d : decide (a + e ≤ b) = true) : k + i < b:=Nat.lt_of_lt_of_le (Nat.add_lt_add h h2) (of_decide_eq_true d)
theorem z4a (h : z = 8 ∨ z = 16 ∨ z = 32 ∨ z = 64) : 0 ≤ z:=by rcases h with h | h | h | h <;> (subst h;decide)
theorem z4b (h : z = 8 ∨ z = 16 ∨ z = 32 ∨ z = 64) : z ≤ 128:=by rcases h with h | h | h | h <;> (subst h;decide)
theorem z4c (h : z = 8 ∨ z = 16 ∨ z = 32 ∨ z = 64) : 0 < z:=by rcases h with h | h | h | h <;> (subst h;decide)
theorem il16 (h : l = 16) (h2 : z < 16) : z < (l : Int):=by rw [h];exact h2
end
section
variable {a b c : Int}
theorem i_le1 (h : a ≤ b) (k : decide (b ≤ c) = true) : a ≤ c:=Int.le_trans h (of_decide_eq_true k)
theorem i_le2 (h : a < b) (k : decide (b ≤ c + 1) = true) : a ≤ c:=by have:=of_decide_eq_true k;omega
theorem i_lt1 (h : a ≤ b) (k : decide (b < c) = true) : a < c:=by have:=of_decide_eq_true k;omega
theorem i_lt2 (h : a < b) (k : decide (b ≤ c) = true) : a < c:=by have:=of_decide_eq_true k;omega
theorem i_ge1 (h : b ≤ a) (k : decide (c ≤ b) = true) : c ≤ a:=by have:=of_decide_eq_true k;omega
theorem i_ge2 (h : b < a) (k : decide (c ≤ b + 1) = true) : c ≤ a:=by have:=of_decide_eq_true k;omega
theorem i_gt1 (h : b ≤ a) (k : decide (c < b) = true) : c < a:=by have:=of_decide_eq_true k;omega
end
section
variable {a b c : Nat}
theorem n_le1 (h : a ≤ b) (k : decide (b ≤ c) = true) : a ≤ c:=Nat.le_trans h (of_decide_eq_true k)
theorem n_lt1 (h : a ≤ b) (k : decide (b < c) = true) : a < c:=by have:=of_decide_eq_true k;omega
theorem n_lt2 (h : a < b) (k : decide (b ≤ c) = true) : a < c:=by have:=of_decide_eq_true k;omega
end
theorem i_mul0 {a c : Int} (h : 0 ≤ a) (k : decide (0 ≤ c) = true) : 0 ≤ c * a:=Int.mul_nonneg (of_decide_eq_true k) h
theorem c_il {k d : Addr} {xs : Array Value} {e : Nat} : (instObj k d).cls ≠ (W.listOf xs e).cls:=by intro h;cases h
theorem c_dl {es : List DictEntry} {n : Nat} {xs : Array Value} {e : Nat} : (dictOf es n).cls ≠ (W.listOf xs e).cls:=by intro h;injection h with h;revert h;decide
theorem c_tl {vs : List Value} {xs : Array Value} {e : Nat} : (tupObj vs).cls ≠ (W.listOf xs e).cls:=by intro h;injection h with h;revert h;decide
theorem c_i {k d : Addr} {n : String} : (instObj k d).cls ≠ .type n:=by intro h;cases h
theorem c_ld {xs : Array Value} {e : Nat} : (W.listOf xs e).cls ≠ .type "dict":=by intro h;injection h with h;revert h;decide
theorem c_td {vs : List Value} : (tupObj vs).cls ≠ .type "dict":=by intro h;injection h with h;revert h;decide
theorem c_tL {vs : List Value} : (tupObj vs).cls ≠ .type "list":=by intro h;injection h with h;revert h;decide
theorem c_dL {es : List DictEntry} {n : Nat} : (dictOf es n).cls ≠ .type "list":=by intro h;injection h with h;revert h;decide
theorem hs_nil {d : Addr} {nn : List (Addr × Obj)} : ∀ q ∈ ([] : List (Addr × Obj)),q.1 ≠ d → q ∈ nn:=fun _ h=>nomatch h
theorem hs_cons {d : Addr} {p : Addr × Obj} {r nn : List (Addr × Obj)} (h : p.1 ≠ d → p ∈ nn) (hr : ∀ q ∈ r,q.1 ≠ d → q ∈ nn) : ∀ q ∈ p :: r,q.1 ≠ d → q ∈ nn:=fun q hq hn=>by
  rcases List.mem_cons.mp hq with rfl | hq
  · exact h hn
  · exact hr q hq hn
theorem hsi_nil {nn : List (Addr × Obj)} : ∀ q ∈ ([] : List (Addr × Obj)),q ∈ nn:=fun _ h=>nomatch h
theorem hsi_cons {p : Addr × Obj} {r nn : List (Addr × Obj)} (h : p ∈ nn) (hr : ∀ q ∈ r,q ∈ nn) : ∀ q ∈ p :: r,q ∈ nn:=fun q hq=>by
  rcases List.mem_cons.mp hq with rfl | hq
  · exact h
  · exact hr q hq
end
section
example (w : World) (h : Heap) (X : (heapK w.params).In h) (_ : PySem.Challenge.rw_qd0115_01.foot = PySem.Challenge.rw_qd0115_01.foot) : True:=by
  revert X
  have : ∀ (_ : PySem.Challenge.rw_qd0115_01.foot = PySem.Challenge.rw_qd0115_01.foot),(heapK w.params).In h → True:=by
    k_fill
    intros;trivial
  exact fun _=>trivial
noncomputable def G0 : List (Str × Value):=[("RAX",.int 0 1210),("RCX",.int 1 1212),("RSP",.int 4 1214),("RBP",.int 5 1216),("RSI",.int 6 1218),("RDI",.int 7 1220),("STACK",.int 4 590),("CF",.int 0 318),("PF",.int 2 320),("AF",.int 4 322),("ZF",.int 6 324),("SF",.int 7 326),("DF",.int 10 328),("OF",.int 11 330)]
theorem G0_all (P : Params) : ∀ q ∈ G0,nsIn (heapK P) mainGlobals q.1 = some (some q.2):=by
  unfold G0
  simp only [List.forall_mem_cons]
  refine ⟨?_,?_,?_,?_,?_,?_,?_,?_,?_,?_,?_,?_,?_,?_,fun _ h=>nomatch h⟩ <;> k_is
theorem lookup_mem {x : Str} {v : Value} : ∀ {l : List (Str × Value)},l.lookup x = some v → (x,v) ∈ l
  | [],h=>nomatch h
  | (y,u) :: l,h=>by
    by_cases e : x = y
    · subst e
      rw [List.lookup_cons_self] at h
      cases h
      exact .head _
    · rw [List.lookup_cons,show (x == y) = false from beq_false_of_ne e] at h
      exact .tail _ (lookup_mem h)
theorem G0_ok {P : Params} {x : Str} {v : Value} (h : G0.lookup x = some v) : nsIn (heapK P) mainGlobals x = some (some v):=G0_all P _ (lookup_mem h)
noncomputable def svC : Const → Nat → Option (Value × Nat)
  | .int i,t=>some (.int i t,t + 1)
  | .str x,t=>some (.str x t,t + 1)
  | .none,t=>some (.none,t)
  | .bool b,t=>some (.bool b,t)
  | _,_=>none
noncomputable def sv (cs : Scope) (m : Str → Option Value) (e : PySem.Expr) (t : Nat) : Option (Value × Nat):=match e with
  | .Name x _=>bif (cs.names.lookup x == some .local) && !(x == ("__debug__" : Str)) then (m x).map (fun v=>(v,t)) else bif (cs.names.lookup x == some .globalImplicit) && !(x == ("__debug__" : Str)) then (G0.lookup x).map (fun v=>(v,t)) else none
  | .Constant c _ _=>svC c t
  | _=>none
theorem nn {α : Type} {x : α} {G : Prop} (h : none = some x) : G:=nomatch h
noncomputable def svs (cs : Scope) (m : Str → Option Value) : List PySem.Expr → Nat → Option (List Value × Nat)
  | [],t=>some ([],t)
  | e :: es,t=>match sv cs m e t with
    | none=>none
    | some (v,t1)=>match svs cs m es t1 with
      | none=>none
      | some (vs,t2)=>some (v :: vs,t2)
noncomputable def glob (cs : Scope) (x : Str) : Bool:=(cs.kind == .function) && ((cs.names.lookup x == some .globalImplicit) && !(x == ("__debug__" : Str)))
theorem and2 {a b : Bool} {G : Prop} (h : (a && b) = true) (k : a = true → b = true → G) : G:=k (Bool.and_eq_true_iff.mp h).1 (Bool.and_eq_true_iff.mp h).2
theorem not_t {a : Bool} (h : (!a) = true) : a = false:=by cases a <;> trivial
theorem cond2 {α : Type} {b : Bool} {o o2 : Option α} {x : α} {G : Prop} (h : (bif b then o else o2) = some x) (k : b = true → o = some x → G) (k2 : o2 = some x → G) : G:=by
  cases b
  · exact k2 h
  · exact k rfl h
theorem cond_none {α : Type} {b : Bool} {o : Option α} {x : α} {G : Prop} (h : (bif b then o else none) = some x) (k : b = true → o = some x → G) : G:=by
  cases b
  · exact nn h
  · exact k rfl h
theorem map_pair {o : Option Value} {t : Nat} {r : Value × Nat} {G : Prop} (h : o.map (fun v=>(v,t)) = some r) (k : ∀ v,o = some v → r = (v,t) → G) : G:=by
  cases o
  · exact nn h
  · exact k _ rfl (Option.some.inj h).symm
section
variable {M : Model} {A : Around} {E : Value → Shared → Prop} {P : Params} {h₀ hp : Heap} {gn : Array GenState} {dr : Drawn} {tk t' : Nat} {os : OsState} {L a : Addr} {m mg mb : Str → Option Value} {cn : Str} {cs : Scope} {ccd : Value} {cl : List (Str × Addr)} {p : Program} {loose : List Str}
theorem svC_ok {c : Const} {k : Nat} {pos : Pos} {env : Env} {r : Value × Nat} {Q : Value → Shared → Prop} (h : svC c tk = some r) (hq : Q r.1 ⟨hp,gn,dr,r.2,os⟩) : wpAny M A (eval (.Constant c k pos) env) Q E ⟨hp,gn,dr,tk,os⟩:=by
  cases c
  case int=>cases h;exact wpAny_Constant_int hq
  case str=>cases h;exact Constant_str hq
  case none=>cases h;exact wpAny_Constant_none hq
  case bool=>cases h;exact wpAny_Constant_bool hq
  all_goals exact nn h
theorem svN_ok {x : Str} {pos : Pos} {r : Value × Nat} {Q : Value → Shared → Prop} (F : Fr h₀ L hp m) (X : (heapK P).In h₀) (T : TopRead p loose mg mb h₀) (hk : cs.kind = .function) (h : sv cs m (.Name x pos) tk = some r) (hq : Q r.1 ⟨hp,gn,dr,r.2,os⟩) :
    wpAny M A (eval (.Name x pos) (envX cn cs L a ccd cl)) Q E ⟨hp,gn,dr,tk,os⟩ :=
  cond2 h (fun h1 h2=>and2 h1 fun h3 h4=>map_pair h2 fun v hv hr=>nameX_L (s:=⟨hp,gn,dr,tk,os⟩) F hv (by rw [hr] at hq;exact hq) hk (eq_of_beq h3) (not_t h4)) fun h =>
    cond_none h fun h1 h2=>and2 h1 fun h3 h4=>map_pair h2 fun v hv hr=>nameX_K (s:=⟨hp,gn,dr,tk,os⟩) F X T (G0_ok hv) (by rw [hr] at hq;exact hq) hk (eq_of_beq h3) (not_t h4)
theorem sv_split {e : PySem.Expr} {r : Value × Nat} {P : PySem.Expr → Prop} (h : sv cs m e tk = some r) (h1 : ∀ x pos,sv cs m (.Name x pos) tk = some r → P (.Name x pos)) (h2 : ∀ c k pos,svC c tk = some r → P (.Constant c k pos)) : P e:=by
  cases e
  case Name=>exact h1 _ _ h
  case Constant=>exact h2 _ _ _ h
  all_goals exact nn h
theorem sv_ok {e : PySem.Expr} {v : Value} {Q : Value → Shared → Prop} (F : Fr h₀ L hp m) (X : (heapK P).In h₀) (T : TopRead p loose mg mb h₀) (hk : cs.kind = .function) (h : sv cs m e tk = some (v,t')) (hq : Q v ⟨hp,gn,dr,t',os⟩) :
    wpAny M A (eval e (envX cn cs L a ccd cl)) Q E ⟨hp,gn,dr,tk,os⟩ :=
  sv_split (P:=fun e=>wpAny M A (eval e (envX cn cs L a ccd cl)) Q E ⟨hp,gn,dr,tk,os⟩) h (fun _ _ h=>svN_ok F X T hk h hq) fun _ _ _ h=>svC_ok h hq
theorem star_sv {e : PySem.Expr} {rest : List PySem.Expr} {env : Env} {r : Value × Nat} (h : sv cs m e tk = some r) : starEach (e :: rest) env = (false,eval e env) :: starEach rest env :=
  sv_split (P:=fun e=>starEach (e :: rest) env = (false,eval e env) :: starEach rest env) h (fun _ _ _=>rfl) fun _ _ _ _=>rfl
theorem svs_cons {e : PySem.Expr} {es : List PySem.Expr} {r : List Value × Nat} {G : Prop} (h : svs cs m (e :: es) tk = some r) (k : ∀ v t1 vs,sv cs m e tk = some (v,t1) → svs cs m es t1 = some (vs,r.2) → r.1 = v :: vs → G) : G:=by
  unfold svs at h
  generalize sv cs m e tk = o1 at h k
  cases o1 with
  | none=>exact nn h
  | some q =>
    generalize hg : svs cs m es q.2 = o2
    cases o2 with
    | none =>
      have h : (match svs cs m es q.2 with | none=>none | some (vs,t2)=>some (q.1 :: vs,t2)) = some r:=h
      rw [hg] at h
      exact nn h
    | some q2 =>
      have h : (match svs cs m es q.2 with | none=>none | some (vs,t2)=>some (q.1 :: vs,t2)) = some r:=h
      rw [hg] at h
      have h:=Option.some.inj h
      exact k q.1 q.2 q2.1 rfl (by rw [hg,← h]) (by rw [← h])
theorem svs_ok {pos : Pos} (hk : cs.kind = .function) (F : Fr h₀ L hp m) (X : (heapK P).In h₀) (T : TopRead p loose mg mb h₀) : ∀ {es : List PySem.Expr} {tk : Nat} {vs : List Value} {Q : List Value → Shared → Prop},svs cs m es tk = some (vs,t') → Q vs ⟨hp,gn,dr,t',os⟩ →
    wpAny M A (spliced (backTo pos (starEach es (envX cn cs L a ccd cl)))) Q E ⟨hp,gn,dr,tk,os⟩
  | [],_,_,_,h,hq=>by
    cases h;exact args_nil hq
  | e :: es,tk,vs,Q,h,hq=>svs_cons h fun v t1 vs' he hes e1=>args_cons (sv_ok F X T hk he (svs_ok hk F X T hes (by rw [← show vs = v :: vs' from e1];exact hq))) (star_sv he)
theorem svs_plain {env : Env} {pos : Pos} : ∀ {es : List PySem.Expr} {tk : Nat} {r : List Value × Nat},svs cs m es tk = some r → (backTo pos (starEach es env)).any (·.1) = false
  | [],_,_,_=>rfl
  | e :: es,tk,r,h=>svs_cons h fun v t1 vs he hes _=>by
    rw [star_sv he]
    show (false || (backTo pos (starEach es env)).any (·.1)) = false
    rw [svs_plain hes];rfl
theorem callV {f : Value} {first vs : List Value} {es : List PySem.Expr} {pos : Pos} {Q : Value → Shared → Prop} (F : Fr h₀ L hp m) (X : (heapK P).In h₀) (T : TopRead p loose mg mb h₀) (hk : cs.kind = .function) (hf : keepIn (heapK P) f = true) (hv : svs cs m es tk = some (vs,t'))
    (h : wpAny M A (call f (first ++ vs)) Q E ⟨hp,gn,dr,t',os⟩) :
    wpAny M A (callWith pos f first (backTo pos (starEach es (envX cn cs L a ccd cl))) []) Q E ⟨hp,gn,dr,tk,os⟩:=by
  have X' : (heapK P).In hp:=X.keeps F.keep
  refine callWith_of (by rw [svs_plain hv];rfl) (keeps_K hf) ?_
  cases es with
  | nil=>cases hv;exact evalArgs_nil3 ⟨X',h⟩
  | cons e es =>
    have this:=svs_ok (M:=M) (A:=A) (E:=E) (gn:=gn) (dr:=dr) (os:=os) (cn:=cn) (a:=a) (ccd:=ccd) (cl:=cl) (pos:=pos) hk F X T (Q:=fun vs s₁=>(heapK P).In s₁.heap ∧ wpAny M A (call f (first ++ vs)) Q E s₁) hv ⟨X',h⟩
    refine svs_cons hv fun v t1 vs he _ _=>?_
    rw [star_sv he] at this ⊢
    exact evalArgs_plain this
theorem glob_ok {x : Str} {pos : Pos} {v : Value} {s : Shared} {Q : Value → Shared → Prop} (F : Fr h₀ L s.heap m) (X : (heapK P).In h₀) (T : TopRead p loose mg mb h₀) (e : nsIn (heapK P) mainGlobals x = some (some v)) (hg : glob cs x = true) (h : Q v s) :
    wpAny M A (eval (.Name x pos) (envX cn cs L a ccd cl)) Q E s :=
  and2 hg fun h1 h2=>and2 h2 fun h3 h4=>nameX_K F X T e h (eq_of_beq h1) (eq_of_beq h3) (not_t h4)
theorem glob_fn {x : Str} (hg : glob cs x = true) : cs.kind = .function:=and2 hg fun h1 _=>eq_of_beq h1
theorem callNV {x : Str} {fv : Value} {vs : List Value} {es : List PySem.Expr} {pos p1 : Pos} {Q : Value → Shared → Prop} (F : Fr h₀ L hp m) (X : (heapK P).In h₀) (T : TopRead p loose mg mb h₀) (hn : nsIn (heapK P) mainGlobals x = some (some fv)) (hg : glob cs x = true) (hf : keepIn (heapK P) fv = true)
    (hv : svs cs m es tk = some (vs,t')) (h : wpAny M A (call fv vs) Q E ⟨hp,gn,dr,t',os⟩) :
    wpAny M A (eval (.Call (.Name x p1) es [] pos) (envX cn cs L a ccd cl)) Q E ⟨hp,gn,dr,tk,os⟩ :=
  Call_ (glob_ok (s:=⟨hp,gn,dr,tk,os⟩) F X T hn hg (callV F X T (glob_fn hg) hf hv h))
theorem svs_all {env : Env} {pos : Pos} : ∀ {es : List PySem.Expr} {tk : Nat} {r : List Value × Nat},svs cs m es tk = some r → (backTo pos (starEach es env)).all (!·.1) = true
  | es,tk,r,h=>by
    have:=svs_plain (env:=env) (pos:=pos) h
    rw [List.all_eq_not_any_not]
    simp only [Bool.not_not]
    rw [this];rfl
theorem meth_eq {x name : Str} {xp ap pos : Pos} {es : List PySem.Expr} {env : Env} (hq : (ap.endLine == pos.line && decide (es.length < 30)) = true) (ha : (backTo pos (starEach es env)).all (!·.1) = true) :
    eval (.Call (.Attribute (.Name x xp) name ap) es [] pos) env = (do
      let ov ← eval (.Name x xp) env
      standAt ap.atName
      let (f,first) ← holding [ov] (getMethod ov name (do return (← importBound (.Name x xp) env).getD true))
      callWith pos f first (backTo pos (starEach es env)) []):=by
  obtain ⟨h1,h2⟩:=Bool.and_eq_true_iff.mp hq
  have hf : methodCallForm (es.length + 0) (backTo pos (starEach es env)) (backToKw pos (keywordEach [] env)) = true:=by
    unfold methodCallForm
    rw [ha]
    show (true && true && decide (es.length + 0 + 0 < 30)) = true
    rw [Nat.add_zero,h2];rfl
  show (do
    let ov ← eval (.Name x xp) env
    standAt ap.atName
    methodCall (.Name x xp) name ap pos env ov (es.length + 0) (backTo pos (starEach es env)) (backToKw pos (keywordEach [] env))) = _
  unfold methodCall calleeOf methodCallPos
  rw [hf,h1]
  rfl
theorem callMV {prog : Program} {w : World} {x name : Str} {f r C : Addr} {xp : Pos} {ox : Obj} {n : Nat} {ens : List DictEntry} {vs : List Value} {es : List PySem.Expr} {pos ap : Pos} {Q : Value → Shared → Prop} (F : Fr h₀ L hp m) (X : (heapK P).In h₀) (T : TopRead p loose mg mb h₀) (hk : cs.kind = .function) (ho : sv cs m (.Name x xp) tk = some (.ref r,tk))
    (I : InstAt hp r ox C (some (dictOf ens n))) (hg : plainGet (heapK P) C name = true) (hm : findIn (heapK P) (.ref C) name = some (some (.ref f))) (ht : isFn (heapK P) (.ref f) = true) (hl : getL name ens = some none) (hf : keepIn (heapK P) (.ref f) = true) (hq : (ap.endLine == pos.line && decide (es.length < 30)) = true)
    (hv : svs cs m es tk = some (vs,t')) (h : wpAny (model prog w) A (call (.ref f) (.ref r :: vs)) Q E ⟨hp,gn,dr,t',os⟩) :
    wpAny (model prog w) A (eval (.Call (.Attribute (.Name x xp) name ap) es [] pos) (envX cn cs L a ccd cl)) Q E ⟨hp,gn,dr,tk,os⟩ :=
  MethodCall_ (sv_ok F X T hk ho (method_inst (s:=⟨hp,gn,dr,tk,os⟩) F X I hg hm ht hl (callV F X T hk hf hv h))) (meth_eq hq (svs_all hv))
theorem getMV {prog : Program} {w : World} {name : Str} {f r C : Addr} {ox : Obj} {n : Nat} {ens : List DictEntry} {vs : List Value} {es : List PySem.Expr} {pos : Pos} {pl : Sem Bool} {Q : Value → Shared → Prop} (F : Fr h₀ L hp m) (X : (heapK P).In h₀) (T : TopRead p loose mg mb h₀) (hk : cs.kind = .function)
    (I : InstAt hp r ox C (some (dictOf ens n))) (hg : plainGet (heapK P) C name = true) (hm : findIn (heapK P) (.ref C) name = some (some (.ref f))) (ht : isFn (heapK P) (.ref f) = true) (hl : getL name ens = some none) (hf : keepIn (heapK P) (.ref f) = true)
    (hv : svs cs m es tk = some (vs,t')) (h : wpAny (model prog w) A (call (.ref f) (.ref r :: vs)) Q E ⟨hp,gn,dr,t',os⟩) :
    wpAny (model prog w) A (getMethod (.ref r) name pl) (fun fx s₂=>wpAny (model prog w) A (callWith pos fx.1 fx.2 (backTo pos (starEach es (envX cn cs L a ccd cl))) []) Q E s₂) E ⟨hp,gn,dr,tk,os⟩ :=
  method_inst (s:=⟨hp,gn,dr,tk,os⟩) F X I hg hm ht hl (callV F X T hk hf hv h)
theorem svs_ok2 {pos : Pos} {es : List PySem.Expr} {vf : Nat → List Value} {tf : Nat → Nat} {s : Shared} {Q : List Value → Shared → Prop} (hk : cs.kind = .function) (X : (heapK P).In h₀) (T : TopRead p loose mg mb h₀) (hv : ∀ t,svs cs m es t = some (vf t,tf t)) (F : Fr h₀ L s.heap m) (hq : Q (vf s.toks) { s with toks:=tf s.toks }) :
    wpAny M A (spliced (backTo pos (starEach es (envX cn cs L a ccd cl)))) Q E s:=svs_ok (hp:=s.heap) (gn:=s.gens) (dr:=s.drawn) (os:=s.os) hk F X T (hv s.toks) hq
theorem callC0 {f : Value} {first : List Value} {e : PySem.Expr} {es : List PySem.Expr} {vf : Nat → List Value} {tf : Nat → Nat} {pos : Pos} {s : Shared} {Q : Value → Shared → Prop} (X : (heapK P).In h₀) (T : TopRead p loose mg mb h₀) (hk : cs.kind = .function) (hf : keepIn (heapK P) f = true) (he : starEach (e :: es) (envX cn cs L a ccd cl) = (false,eval e (envX cn cs L a ccd cl)) :: starEach es (envX cn cs L a ccd cl))
    (hv : ∀ t,svs cs m es t = some (vf t,tf t)) (h : wpAny M A (eval e (envX cn cs L a ccd cl)) (fun v s₁=>Fr h₀ L s₁.heap m ∧ wpAny M A (call f (first ++ v :: vf s₁.toks)) Q E { s₁ with toks:=tf s₁.toks }) E s) :
    wpAny M A (callWith pos f first (backTo pos (starEach (e :: es) (envX cn cs L a ccd cl))) []) Q E s:=by
  refine callWith_of (P:=(heapK P).In) ?_ (keeps_K hf) ?_
  · rw [he]
    show ((false || (backTo pos (starEach es (envX cn cs L a ccd cl))).any (·.1)) || false) = false
    rw [svs_plain (hv 0)];rfl
  · have this : wpAny M A (spliced (backTo pos (starEach (e :: es) (envX cn cs L a ccd cl)))) (fun vs s₁=>(heapK P).In s₁.heap ∧ wpAny M A (call f (first ++ vs)) Q E s₁) E s :=
      args_cons (wpAny_mono h (fun v s₁ h₁=>svs_ok2 hk X T hv h₁.1 ⟨X.keeps h₁.1.keep,h₁.2⟩) fun _ _ x=>x) he
    rw [he] at this ⊢
    exact evalArgs_plain this
theorem callC {x : Str} {fv : Value} {e : PySem.Expr} {es : List PySem.Expr} {vf : Nat → List Value} {tf : Nat → Nat} {pos p1 : Pos} {s : Shared} {Q : Value → Shared → Prop} (F : Fr h₀ L s.heap m) (X : (heapK P).In h₀) (T : TopRead p loose mg mb h₀) (hn : nsIn (heapK P) mainGlobals x = some (some fv)) (hg : glob cs x = true) (hf : keepIn (heapK P) fv = true) (he : starEach (e :: es) (envX cn cs L a ccd cl) = (false,eval e (envX cn cs L a ccd cl)) :: starEach es (envX cn cs L a ccd cl))
    (hv : ∀ t,svs cs m es t = some (vf t,tf t)) (h : wpAny M A (eval e (envX cn cs L a ccd cl)) (fun v s₁=>Fr h₀ L s₁.heap m ∧ wpAny M A (call fv (v :: vf s₁.toks)) Q E { s₁ with toks:=tf s₁.toks }) E s) :
    wpAny M A (eval (.Call (.Name x p1) (e :: es) [] pos) (envX cn cs L a ccd cl)) Q E s :=
  Call_ (glob_ok F X T hn hg (callC0 X T (glob_fn hg) hf he hv h))
theorem getMC {prog : Program} {w : World} {name : Str} {f r C : Addr} {ox : Obj} {n : Nat} {ens : List DictEntry} {e : PySem.Expr} {es : List PySem.Expr} {vf : Nat → List Value} {tf : Nat → Nat} {pos : Pos} {pl : Sem Bool} {s : Shared} {Q : Value → Shared → Prop} (F : Fr h₀ L s.heap m) (X : (heapK P).In h₀) (T : TopRead p loose mg mb h₀) (hk : cs.kind = .function)
    (I : InstAt s.heap r ox C (some (dictOf ens n))) (hg : plainGet (heapK P) C name = true) (hm : findIn (heapK P) (.ref C) name = some (some (.ref f))) (ht : isFn (heapK P) (.ref f) = true) (hl : getL name ens = some none) (hf : keepIn (heapK P) (.ref f) = true) (he : starEach (e :: es) (envX cn cs L a ccd cl) = (false,eval e (envX cn cs L a ccd cl)) :: starEach es (envX cn cs L a ccd cl))
    (hv : ∀ t,svs cs m es t = some (vf t,tf t)) (h : wpAny (model prog w) A (eval e (envX cn cs L a ccd cl)) (fun v s₁=>Fr h₀ L s₁.heap m ∧ wpAny (model prog w) A (call (.ref f) (.ref r :: v :: vf s₁.toks)) Q E { s₁ with toks:=tf s₁.toks }) E s) :
    wpAny (model prog w) A (getMethod (.ref r) name pl) (fun fx s₂=>wpAny (model prog w) A (callWith pos fx.1 fx.2 (backTo pos (starEach (e :: es) (envX cn cs L a ccd cl))) []) Q E s₂) E s :=
  method_inst F X I hg hm ht hl (callC0 (first:=[.ref r]) X T hk hf he hv h)
theorem attrV {prog : Program} {w : World} {x name : Str} {xp pos : Pos} {r C : Addr} {ox : Obj} {n : Nat} {ens : List DictEntry} {v : Value} {attr : Option Value} {Q : Value → Shared → Prop} (F : Fr h₀ L hp m) (X : (heapK P).In h₀) (T : TopRead p loose mg mb h₀) (hk : cs.kind = .function) (ho : sv cs m (.Name x xp) tk = some (.ref r,tk))
    (I : InstAt hp r ox C (some (dictOf ens n))) (hg : plainGet (heapK P) C name = true) (hh : hasDictIn (heapK P) C = true) (ha : findIn (heapK P) (.ref C) name = some attr) (hn : noGet (heapK P) attr = true) (hl : getL name ens = some (some v)) (hv : handedIn v = true) (h : Q v ⟨hp,gn,dr,tk + 1,os⟩) :
    wpAny (model prog w) A (eval (.Attribute (.Name x xp) name pos) (envX cn cs L a ccd cl)) Q E ⟨hp,gn,dr,tk,os⟩ :=
  Attribute_Name_ (sv_ok F X T hk ho (get_own (s:=⟨hp,gn,dr,tk,os⟩) F X I hg hh ha hn hl hv h))
theorem cmpV {l r : PySem.Expr} {op : CmpOp} {pos : Pos} {whole : Sem Value} {t1 : Nat} {u v : Value} {Q : Bool → Shared → Prop} (F : Fr h₀ L hp m) (X : (heapK P).In h₀) (T : TopRead p loose mg mb h₀) (hk : cs.kind = .function) (h1 : sv cs m l tk = some (u,t1)) (h2 : sv cs m r t1 = some (v,t')) (hm : behindInMarks op r = false)
    (h : wpAny M A (compareOp op u v) (fun c s₃=>wpAny M A (truthy c) Q E s₃) E ⟨hp,gn,dr,t',os⟩) :
    wpAny M A (isTrue (.Compare l [op] [r] pos) (envX cn cs L a ccd cl) whole) Q E ⟨hp,gn,dr,tk,os⟩ :=
  wpAny_isTrue_Compare1 (sv_ok F X T hk h1 (sv_ok F X T hk h2 h)) hm
theorem cmpS {prog : Program} {w : World} {l r : PySem.Expr} {pos : Pos} {whole : Sem Value} {t1 tu tv : Nat} {u v : Str} {Q : Bool → Shared → Prop} (F : Fr h₀ L hp m) (X : (heapK P).In h₀) (T : TopRead p loose mg mb h₀) (hk : cs.kind = .function) (h1 : sv cs m l tk = some (.str u tu,t1)) (h2 : sv cs m r t1 = some (.str v tv,t')) (hm : behindInMarks .Eq r = false)
    (h : Q (u == v) ⟨hp,gn,dr,t',os⟩) : wpAny (model prog w) A (isTrue (.Compare l [.Eq] [r] pos) (envX cn cs L a ccd cl) whole) Q E ⟨hp,gn,dr,tk,os⟩ :=
  cmpV F X T hk h1 h2 hm (eq_str (wpAny_truthy_bool h))
theorem cmpSn {prog : Program} {w : World} {l r : PySem.Expr} {pos : Pos} {whole : Sem Value} {t1 tu tv : Nat} {u v : Str} {Q : Bool → Shared → Prop} (F : Fr h₀ L hp m) (X : (heapK P).In h₀) (T : TopRead p loose mg mb h₀) (hk : cs.kind = .function) (h1 : sv cs m l tk = some (.str u tu,t1)) (h2 : sv cs m r t1 = some (.str v tv,t')) (hm : behindInMarks .NotEq r = false)
    (h : Q (u != v) ⟨hp,gn,dr,t',os⟩) : wpAny (model prog w) A (isTrue (.Compare l [.NotEq] [r] pos) (envX cn cs L a ccd cl) whole) Q E ⟨hp,gn,dr,tk,os⟩ :=
  cmpV F X T hk h1 h2 hm (ne_str (wpAny_truthy_bool h))
theorem cmpZ {prog : Program} {w : World} {l r : PySem.Expr} {pos : Pos} {whole : Sem Value} {t1 tu tv : Nat} {u v : Int} {Q : Bool → Shared → Prop} (F : Fr h₀ L hp m) (X : (heapK P).In h₀) (T : TopRead p loose mg mb h₀) (hk : cs.kind = .function) (h1 : sv cs m l tk = some (.int u tu,t1)) (h2 : sv cs m r t1 = some (.int v tv,t')) (hm : behindInMarks .Eq r = false)
    (h : Q (u == v) ⟨hp,gn,dr,t',os⟩) : wpAny (model prog w) A (isTrue (.Compare l [.Eq] [r] pos) (envX cn cs L a ccd cl) whole) Q E ⟨hp,gn,dr,tk,os⟩ :=
  cmpV F X T hk h1 h2 hm (eq_int (wpAny_truthy_bool h))
theorem binV {l r : PySem.Expr} {op : Operator} {pos : Pos} {t1 : Nat} {u v : Value} {Q : Value → Shared → Prop} (F : Fr h₀ L hp m) (X : (heapK P).In h₀) (T : TopRead p loose mg mb h₀) (hk : cs.kind = .function) (h1 : sv cs m l tk = some (u,t1)) (h2 : sv cs m r t1 = some (v,t'))
    (h : wpAny M A (binaryOp op u v) Q E ⟨hp,gn,dr,t',os⟩) :
    wpAny M A (eval (.BinOp l op r pos) (envX cn cs L a ccd cl)) Q E ⟨hp,gn,dr,tk,os⟩ :=
  wpAny_BinOp (sv_ok F X T hk h1 (sv_ok F X T hk h2 h))
end
section
variable {M : Model} {A : Around} {E : Value → Shared → Prop} {h₀ hp : Heap} {gn : Array GenState} {dr : Drawn} {tk : Nat} {os : OsState} {L a : Addr} {m : Str → Option Value} {cn : Str} {cs : Scope} {ccd : Value} {cl : List (Str × Addr)} {news : List (Addr × Obj)}
noncomputable def locl (cs : Scope) (x : Str) : Bool:=(cs.kind == .function) && (cs.names.lookup x == some .local)
theorem storeV {x : Str} {v : Value} {Q : Unit → Shared → Prop} (F : Fr h₀ L hp m) (N : News h₀ L hp news) (hl : locl cs x = true)
    (h : ∀ h' tk',Fr h₀ L h' (mS m x v) → News h₀ L h' news → Q () ⟨h',gn,dr,tk',os⟩) : wpAny M A (storeName (envX cn cs L a ccd cl) x v) Q E ⟨hp,gn,dr,tk,os⟩ :=
  and2 hl fun h1 h2=>storeX_L (s:=⟨hp,gn,dr,tk,os⟩) F N (fun h'=>h h' _) (eq_of_beq h1) (eq_of_beq h2)
end
section
variable {M : Model} {A : Around} {E : Value → Shared → Prop} {s : Shared} {env : Env} {rest : List Stmt} {Q : Flow → Shared → Prop}
theorem exRet {e : PySem.Expr} {pos : Pos} (h : wpAny M A (eval e env) (fun v=>Q (.ret v)) E s) : wpAny M A (execs (.Return (some e) pos :: rest) env) Q E s:=wpAny_execs_cons (wpAny_Return_some h)
theorem exAsN {x : Str} {pos' pos : Pos} {value : PySem.Expr} (hs : swapsWith value (some (.Name x pos')) pos.line env = pure false) (h : wpAny M A (eval value env) (fun v s₁=>wpAny M A (storeName env x v) (fun _ s₂=>wpAny M A (execs rest env) Q E s₂) E s₁) E s) :
    wpAny M A (execs (.Assign [.Name x pos'] value pos :: rest) env) Q E s:=wpAny_execs_cons (wpAny_Assign_Name h hs)
theorem exAsA {o : PySem.Expr} {attr : Str} {pos' pos : Pos} {value : PySem.Expr} (hs : swapsWith value (some (.Attribute o attr pos')) pos.line env = pure false)
    (h : wpAny M A (eval value env) (fun v s₁=>wpAny M A (eval o env) (fun ov s₂=>wpAny M A (setAttr ov attr v) (fun _ s₃=>wpAny M A (execs rest env) Q E s₃) E s₂) E s₁) E s) :
    wpAny M A (execs (.Assign [.Attribute o attr pos'] value pos :: rest) env) Q E s:=wpAny_execs_cons (plainObj_wpAny_Assign_Attribute h hs)
theorem exOne {st : Stmt} (h : wpAny M A (exec st env) Q E s) : wpAny M A (execs [st] env) Q E s :=
  wpAny_execs_cons (wpAny_mono h (fun f s' q=>by cases f <;> first | exact wpAny_execs_nil q | exact q) fun _ _ x=>x)
end
section
variable {M : Model} {A : Around} {E : Value → Shared → Prop} {P : Params} {h₀ hp : Heap} {gn : Array GenState} {dr : Drawn} {tk t' : Nat} {os : OsState} {L a : Addr} {m mg mb : Str → Option Value} {cn : Str} {cs : Scope} {ccd : Value} {cl : List (Str × Addr)} {p : Program} {loose : List Str} {rest : List Stmt} {Q : Flow → Shared → Prop}
theorem exRetV {e : PySem.Expr} {pos : Pos} {v : Value} (F : Fr h₀ L hp m) (X : (heapK P).In h₀) (T : TopRead p loose mg mb h₀) (hk : cs.kind = .function) (h1 : sv cs m e tk = some (v,t')) (h : Q (.ret v) ⟨hp,gn,dr,t',os⟩) :
    wpAny M A (execs (.Return (some e) pos :: rest) (envX cn cs L a ccd cl)) Q E ⟨hp,gn,dr,tk,os⟩:=exRet (sv_ok F X T hk h1 h)
theorem exSetV {o value : PySem.Expr} {attr : Str} {pos' pos : Pos} {t1 : Nat} {u v : Value} (F : Fr h₀ L hp m) (X : (heapK P).In h₀) (T : TopRead p loose mg mb h₀) (hk : cs.kind = .function) (h1 : sv cs m value tk = some (v,t1)) (h2 : sv cs m o t1 = some (u,t')) (hs : swapsWith value (some (.Attribute o attr pos')) pos.line (envX cn cs L a ccd cl) = pure false)
    (h : wpAny M A (setAttr u attr v) (fun _ s₃=>wpAny M A (execs rest (envX cn cs L a ccd cl)) Q E s₃) E ⟨hp,gn,dr,t',os⟩) :
    wpAny M A (execs (.Assign [.Attribute o attr pos'] value pos :: rest) (envX cn cs L a ccd cl)) Q E ⟨hp,gn,dr,tk,os⟩:=exAsA hs (sv_ok F X T hk h1 (sv_ok F X T hk h2 h))
end
theorem exSetI {prog : Program} {w : World} {A : Around} {E : Value → Shared → Prop} {h₀ hp : Heap} {gn : Array GenState} {dr : Drawn} {tk t' : Nat} {os : OsState} {L a : Addr} {m mg mb : Str → Option Value} {cn : Str} {cs : Scope} {ccd : Value} {cl : List (Str × Addr)} {p : Program} {loose : List Str} {rest : List Stmt} {Q : Flow → Shared → Prop}
    {o value : PySem.Expr} {attr : Str} {pos' pos : Pos} {t1 n n' : Nat} {v : Value} {x C dx : Addr} {ox : Obj} {es es' : List DictEntry} {news news' : List (Addr × Obj)} (F : Fr h₀ L hp m) (N : News h₀ L hp news) (X : (heapK w.params).In h₀) (T : TopRead p loose mg mb h₀) (hk : cs.kind = .function)
    (h1 : sv cs m value tk = some (v,t1)) (h2 : sv cs m o t1 = some (.ref x,t')) (hw : swapsWith value (some (.Attribute o attr pos')) pos.line (envX cn cs L a ccd cl) = pure false)
    (I : InstAt hp x ox C (some (dictOf es n))) (hd : ox.dict = some dx) (hs : findIn (heapK w.params) (.ref C) "__setattr__" = some (some (.builtin "object.__setattr__"))) (hp' : plainOver (heapK w.params) C = true) (ht : takerIn (heapK w.params) C attr = some none) (hh : hasDictIn (heapK w.params) C = true) (hl : (getL attr es).isSome = true)
    (e : (putL attr (PyData.keyHash w.params attr) (.str attr (t' + 1)) v es,putN attr es n) = (es',n')) (U : Upd dx (dictOf es n) (dictOf es' n') news news') (hz : es'.length ≤ 1000)
    (h : ∀ h' tk',Fr h₀ L h' m → News h₀ L h' news' → wpAny (model prog w) A (execs rest (envX cn cs L a ccd cl)) Q E ⟨h',gn,dr,tk',os⟩) :
    wpAny (model prog w) A (execs (.Assign [.Attribute o attr pos'] value pos :: rest) (envX cn cs L a ccd cl)) Q E ⟨hp,gn,dr,tk,os⟩ :=
  exSetV F X T hk h1 h2 hw (set_dict (s:=⟨hp,gn,dr,t',os⟩) F X N I hd hs hp' ht hh hl e U hz fun h'=>h h' _)
section
variable {M : Model} {A : Around} {E : Value → Shared → Prop} {h₀ hp : Heap} {gn : Array GenState} {dr : Drawn} {tk t' : Nat} {os : OsState} {L : Addr} {m : Str → Option Value} {news : List (Addr × Obj)}
theorem constV {c : Const} {k : Nat} {pos : Pos} {env : Env} {v : Value} {Q : Value → Shared → Prop} (h : svC c tk = some (v,t')) (hq : Q v ⟨hp,gn,dr,t',os⟩) : wpAny M A (eval (.Constant c k pos) env) Q E ⟨hp,gn,dr,tk,os⟩:=svC_ok h hq
theorem newListV {vs : List Value} {Q : Value → Shared → Prop} (F : Fr h₀ L hp m) (N : News h₀ L hp news) (hz : vs.length ≤ sizeLine)
    (h : ∀ l h',Fr h₀ L h' m → News h₀ L h' ((l,W.listOf vs.toArray 0) :: news) → (∀ p ∈ news,p.1 < l) → Q (.ref l) ⟨h',gn,dr,tk,os⟩) : wpAny M A (newList vs) Q E ⟨hp,gn,dr,tk,os⟩:=newList_K (s:=⟨hp,gn,dr,tk,os⟩) F N h hz
theorem newTupV {vs : List Value} {Q : Value → Shared → Prop} (F : Fr h₀ L hp m) (N : News h₀ L hp news) (hz : vs.length ≤ sizeLine)
    (h : ∀ l h',Fr h₀ L h' m → News h₀ L h' ((l,({ cls:=.type "tuple",data:=.seq vs.toArray } : Obj)) :: news) → (∀ p ∈ news,p.1 < l) → Q (.ref l) ⟨h',gn,dr,tk,os⟩) : wpAny M A (newTuple vs) Q E ⟨hp,gn,dr,tk,os⟩:=kup_newTuple (s:=⟨hp,gn,dr,tk,os⟩) F N h hz
end
section
variable {M : Model} {A : Around} {E : Value → Shared → Prop} {P : Params} {h₀ hp : Heap} {gn : Array GenState} {dr : Drawn} {tk t' : Nat} {os : OsState} {L a : Addr} {m mg mb : Str → Option Value} {cn : Str} {cs : Scope} {ccd : Value} {cl : List (Str × Addr)} {p : Program} {loose : List Str} {news : List (Addr × Obj)} {es : List PySem.Expr} {vs : List Value} {Q : Value → Shared → Prop}
theorem listV {pos : Pos} (F : Fr h₀ L hp m) (X : (heapK P).In h₀) (T : TopRead p loose mg mb h₀) (hk : cs.kind = .function) (N : News h₀ L hp news) (hv : svs cs m es tk = some (vs,t')) (hz : vs.length ≤ sizeLine)
    (h : ∀ l h' tk',Fr h₀ L h' m → News h₀ L h' ((l,W.listOf vs.toArray 0) :: news) → (∀ p ∈ news,p.1 < l) → Q (.ref l) ⟨h',gn,dr,tk',os⟩) : wpAny M A (eval (.List es pos) (envX cn cs L a ccd cl)) Q E ⟨hp,gn,dr,tk,os⟩ :=
  List_ (svs_ok hk F X T hv (newListV F N hz fun l h'=>h l h' _))
theorem tupV {k : Nat} {pos : Pos} (F : Fr h₀ L hp m) (X : (heapK P).In h₀) (T : TopRead p loose mg mb h₀) (hk : cs.kind = .function) (N : News h₀ L hp news) (hv : svs cs m es tk = some (vs,t')) (hz : vs.length ≤ sizeLine)
    (h : ∀ l h' tk',Fr h₀ L h' m → News h₀ L h' ((l,({ cls:=.type "tuple",data:=.seq vs.toArray } : Obj)) :: news) → (∀ p ∈ news,p.1 < l) → Q (.ref l) ⟨h',gn,dr,tk',os⟩) : wpAny M A (eval (.Tuple es k pos) (envX cn cs L a ccd cl)) Q E ⟨hp,gn,dr,tk,os⟩ :=
  Tuple_ (svs_ok hk F X T hv (newTupV F N hz fun l h'=>h l h' _))
end
theorem setV {prog : Program} {w : World} {A : Around} {E : Value → Shared → Prop} {h₀ hp : Heap} {gn : Array GenState} {dr : Drawn} {tk : Nat} {os : OsState} {L : Addr} {m : Str → Option Value} {Q : Unit → Shared → Prop}
    {attr : Str} {n n' : Nat} {v : Value} {x C dx : Addr} {ox : Obj} {es es' : List DictEntry} {news news' : List (Addr × Obj)} (F : Fr h₀ L hp m) (N : News h₀ L hp news) (X : (heapK w.params).In h₀)
    (I : InstAt hp x ox C (some (dictOf es n))) (hd : ox.dict = some dx) (hs : findIn (heapK w.params) (.ref C) "__setattr__" = some (some (.builtin "object.__setattr__"))) (hp' : plainOver (heapK w.params) C = true) (ht : takerIn (heapK w.params) C attr = some none) (hh : hasDictIn (heapK w.params) C = true) (hl : (getL attr es).isSome = true)
    (e : (putL attr (PyData.keyHash w.params attr) (.str attr (tk + 1)) v es,putN attr es n) = (es',n')) (U : Upd dx (dictOf es n) (dictOf es' n') news news') (hz : es'.length ≤ 1000)
    (h : ∀ h' tk',Fr h₀ L h' m → News h₀ L h' news' → Q () ⟨h',gn,dr,tk',os⟩) : wpAny (model prog w) A (setAttr (.ref x) attr v) Q E ⟨hp,gn,dr,tk,os⟩ :=
  set_dict (s:=⟨hp,gn,dr,tk,os⟩) F X N I hd hs hp' ht hh hl e U hz fun h'=>h h' _
end
section
section
variable {prog : Program} {w : World} {A : Around} {E : Value → Shared → Prop} {R : Result → Shared → Prop} {h : Heap} {g : Array GenState} {d : Drawn} {t : Nat} {os : OsState}
variable {nm q : Str} {C N : Addr} {bs bm : List Value} {hdct : Bool} {sn : List Str} {sub : List Value} {ab : Bool} {col : Option Bool} {dd : Option Addr} {k0 k1 k2 k3 k5 : Option Value} {B newId initId : String} {bmN : List Value}
structure Line (B : String) (bm : List Value) : Prop where
  hB : bm.contains (.type B) = true
  hA : bm.contains (.type "AttributeError") = false
  hN : bm.contains (.type "NameError") = false
theorem exc_check_new (Fn : ExcBaseFacts B newId initId bmN) (Ln : Line B bm) {M : Model} {rest : List Value} {Q : Unit → Shared → Prop} (hC : h.get? C = some (excClassObj nm q C N bs bm hdct sn sub ab col dd k0 k1 k2 k3 k5 newId))
    (hq : Q () ⟨h,g,d,t,os⟩) : wpAny M A (checkBuiltinCall newId ⟨.ref C :: rest,[]⟩) Q E ⟨h,g,d,t,os⟩ :=
  wpAny_check_new_subU Fn Ln.hB (.base : OwnTail h bm bm) hC hq
theorem exc_new (Fn : ExcBaseFacts B newId initId bmN) (Ln : Line B bm) {rest : List Value} (hC : h.get? C = some (excClassObj nm q C N bs bm hdct sn sub ab col dd k0 k1 k2 k3 k5 newId))
    (hq : R (.ok (.ret (.ref (h.objs.size + 1)))) ⟨(h.push { cls:=.type "tuple",data:=.seq rest.toArray }).push
      { cls:=.ref C,data:=.fields #[.ref h.objs.size,.none,.none,.none,.bool false,.none] },g,d,t,os⟩) (hrest : rest.length ≤ sizeLine) :
    codeAny (model prog w) A (.builtin newId ⟨.ref C :: rest,[]⟩) R ⟨h,g,d,t,os⟩:=by
  have h1:=Fn.ends
  have h2 : (Value.ref C :: bm).contains (.type B) = true:=by rw [List.contains_cons,Ln.hB,Bool.or_true]
  have h3 : (Value.ref C :: bm).contains (.type "AttributeError") = false:=by rw [List.contains_cons,Ln.hA];rfl
  have h4 : (Value.ref C :: bm).contains (.type "NameError") = false:=by rw [List.contains_cons,Ln.hN];rfl
  refine codeAny_builtinAt Fn.entry ?_
  unfold Builtin.«BaseException.__new__»
  refine PySem.wpAt_bind ?_
  show PySem.wpAt _ _ _ (stack >>= _) _ _ _
  refine PySem.wpAt_bind (PySem.wpAt_stack fun _ _=>PySem.wpAt_of_wpAny ?_)
  wp_walk
  refine PySem.wpAt_of_wpAny ?_
  rw [Fn.owner]
  repeat (first | with_reducible refine wpAny_madeHere_exc Fn.canon hC ?_ | with_reducible refine wpAny_loadPart_at hC ?_ | (with_reducible refine wpAny_isSubtype_exc hC ?_;first | rw [h2] | rw [h3] | rw [h4]) | wp_step)
  show R _ _
  rw [Heap.size_push]
  exact hq
theorem exc_type_call (Fn : ExcBaseFacts B newId initId bmN) (Ln : Line B bm) {rest : List Value} {fI : Addr} {oI : Obj} {Q : Fin → Shared → Prop}
    (hC : h.get? C = some (excClassObj nm q C N bs bm hdct sn sub ab col dd k0 k1 k2 k3 k5 newId)) (hi : Looks (model prog w) h (typeLookup (.ref C) "__init__") (some (.ref fI)))
    (hfI : h.get? fI = some oI) (hfc : oI.cls = .type "function")
    (hq : ∀ h' e,Heap.MadeExcOf h h' e (.ref C) rest →
      wpAny (model prog w) A (call (.ref fI) (.ref e :: rest)) (fun r s'=>r = .none ∧ Q (.done (.ret (.ref e))) s') E ⟨h',g,d,t,os⟩) (hrest : rest.length ≤ sizeLine) :
    wpAny (model prog w) A (Builtin.«type.__call__» ⟨.ref C :: rest,[]⟩) Q E ⟨h,g,d,t,os⟩:=by
  repeat (first | with_reducible refine wpAny_loadPart_at hC ?_ | with_reducible refine wpAny_madeBy_exc hC ?_ | wp_step)
  refine codeAny_call_builtin_code (Code.quiet_builtin _ Fn.quiet) (exc_check_new Fn Ln hC ?_)
  refine exc_new Fn Ln hC ?_ hrest
  show wpAny _ _ _ _ _ _
  have kk : ∀ b o,h.get? b = some o → ((h.push { cls:=.type "tuple",data:=.seq rest.toArray }).push { cls:=.ref C,data:=.fields #[.ref h.objs.size,.none,.none,.none,.bool false,.none] }).get? b = some o :=
    fun b o e=>Heap.get?_push_of_some _ (Heap.get?_push_of_some _ e)
  have hC₁:=kk _ _ hC
  have hget : ((h.push { cls:=.type "tuple",data:=.seq rest.toArray }).push
      { cls:=.ref C,data:=.fields #[.ref h.objs.size,.none,.none,.none,.bool false,.none] }).get? (h.objs.size + 1) = some
      { cls:=.ref C,data:=.fields #[.ref h.objs.size,.none,.none,.none,.bool false,.none] }:=by heap_get
  have hcC : (Value.ref C :: bm).contains (.ref C) = true:=by simp
  unfold isInstance
  repeat (first | with_reducible refine wpAny_loadPart_at hget ?_ | (with_reducible refine wpAny_isSubtype_exc hC₁ ?_;rw [hcC]) | wp_step)
  show wpAny _ _ (typeLookup (.ref C) _) _ _ _
  refine hi _ _ _ _ kk ?_
  refine wpAny_holding (wpAny_bind ?_)
  unfold bindSpecial
  refine wpAny_bind (wpAny_typeOf (T:="function") ⟨_,kk _ _ hfI,hfc⟩ ?_)
  rw [if_pos (by decide)]
  refine wpAny_pure (wpAny_bind (wpAny_mono (hq _ (h.objs.size + 1) ⟨kk,Heap.get?_none_of_le (Nat.le_succ _),h.objs.size,hget,Heap.get?_none_of_le (Nat.le_refl _),?_⟩) (fun r s' hr=>?_) fun _ _ x=>x))
  · exact Heap.get?_push_of_some _ (Heap.get?_push_at rfl rfl)
  · obtain ⟨rfl,hQ⟩:=hr
    wp_walk
    exact hQ
theorem exc_call (Fn : ExcBaseFacts B newId initId bmN) (Ln : Line B bm) {rest : List Value} {fI : Addr} {oI : Obj} {Q : Value → Shared → Prop}
    (hC : h.get? C = some (excClassObj nm q C N bs bm hdct sn sub ab col dd k0 k1 k2 k3 k5 newId)) (hi : Looks (model prog w) h (typeLookup (.ref C) "__init__") (some (.ref fI)))
    (hfI : h.get? fI = some oI) (hfc : oI.cls = .type "function")
    (hq : ∀ h' e,Heap.MadeExcOf h h' e (.ref C) rest →
      wpAny (model prog w) (A.under (.builtin "type.__call__" ⟨.ref C :: rest,[]⟩)) (call (.ref fI) (.ref e :: rest)) (fun r s'=>r = .none ∧ Q (.ref e) s') E ⟨h',g,d,t,os⟩) (hrest : rest.length ≤ sizeLine) :
    wpAny (model prog w) A (call (.ref C) rest) Q E ⟨h,g,d,t,os⟩:=by
  have f1:=tc_lookup
  have f2:=tc_bind (.ref C)
  have hT : (⟨h,g,d,t,os⟩ : Shared).TypeIs (.ref C) "type":=⟨_,hC,rfl⟩
  refine wpAny_call (codeAny_of_tree ?_)
  show wpAny _ _ (callAny (.ref C) _) _ _ _
  repeat (any_goals (first | assumption | with_reducible refine wpAny_loadPart_at hC ?_ | wp_step))
  refine ⟨rfl,?_⟩
  exact codeAny_call_builtin_at (Code.quiet_builtin _ (by decide +kernel)) entry_typeCall (wpAny_check_type_call_sub hC (exc_type_call Fn Ln hC hi hfI hfc hq hrest))
theorem exc_check_init (Fn : ExcBaseFacts B newId initId bmN) (Ln : Line B bm) {M : Model} {e : Addr} {oe : Obj} {rest : List Value} {Q : Unit → Shared → Prop}
    (hC : h.get? C = some (excClassObj nm q C N bs bm hdct sn sub ab col dd k0 k1 k2 k3 k5 newId)) (he : h.get? e = some oe) (hcls : oe.cls = .ref C) (hq : Q () ⟨h,g,d,t,os⟩) :
    wpAny M A (checkBuiltinCall initId ⟨.ref e :: rest,[]⟩) Q E ⟨h,g,d,t,os⟩:=by
  have h1 : (Value.ref C :: bm).contains (.type B) = true:=by rw [List.contains_cons,Ln.hB,Bool.or_true]
  have h2:=Fn.noStar
  simp only [checkBuiltinCall,Fn.initKind,Fn.initSplit,Fn.initRow]
  repeat (first | (with_reducible refine wpAny_loadPart_at he ?_;rw [hcls]) | with_reducible refine wpAny_loadPart_at hC ?_ | (with_reducible refine wpAny_isSubtype_exc hC ?_;rw [h1]) | wp_step)
  refine wpAny_onRaise ?_
  rw [show ∀ (a b : String) (n : Nat),Bind.check ⟨.positional,"*",B,.self,[⟨"args",.varPos,false⟩]⟩ a b n (List.map (fun x=>x.fst) ({ pos:=Value.ref e :: rest } : Args).kw) = pure () from
    fun a b n=>check_star_args _ _ _ _ _ _]
  exact wpAny_pure hq
theorem exc_base_init (Fn : ExcBaseFacts B newId initId bmN) (Ln : Line B bm) {e t0 : Addr} {rest : List Value} {Q : Value → Shared → Prop}
    (hC : h.get? C = some (excClassObj nm q C N bs bm hdct sn sub ab col dd k0 k1 k2 k3 k5 newId)) (he : h.get? e = some { cls:=.ref C,data:=.fields #[.ref t0,.none,.none,.none,.bool false,.none] }) (hrest : rest.length ≤ sizeLine)
    (hq : Q .none ⟨(h.push { cls:=.type "tuple",data:=.seq rest.toArray }).update e (Obj.mapFields (·.setIfInBounds 0 (.ref h.objs.size))),g,d,t,os⟩) :
    wpAny (model prog w) A (call (.builtin initId) (.ref e :: rest)) Q E ⟨h,g,d,t,os⟩:=by
  refine wpAny_call (codeAny_call_builtin Fn.init.plain Fn.initEntry (exc_check_init Fn Ln hC he rfl ?_))
  have he₁:=Heap.get?_push_of_some { cls:=.type "tuple",data:=.seq rest.toArray } he
  wp_walk
  exact hq
end
end
section
open Builtin Builtin.ObjectAttr Builtin.Getset_descriptor
section
variable {prog : Program} {w : World} {A : Around} {R : Result → Shared → Prop} {K : Frag} {s : Shared} {h₀ : Heap} {L x C dx : Addr} {m : Str → Option Value} {pre post : List (Addr × Obj)} {name : Str} {tk : Tok} {v : Value} {cd : ClassData} {fs : Array Value} {sl : Array (Option Value)} {es : List DictEntry} {n : Nat}
theorem ose_open {ox : Obj} {od : Option Obj} (X : K.In s.heap) (I : InstAt s.heap x ox C od) (hc : clsIn K C = some cd) (hmo : cd.mro.contains (.type "object") = true) (hR : ∀ self,refuseLoop self "__setattr__" cd.mro = pure ()) (ht : takerIn K C name = some none)
    (h : ∀ b,wpAny (model prog w) A.in1 (storeInOwnDict (.ref x) (.ref C) (.str name tk) name v b)
      (fun fin s'=>match fin with | .done f=>R (.ok f) s' | .again c'=>c'.quiet = true ∧ codeAny (model prog w) A c' R s') (fun e s'=>R (.error e) s') s) :
    codeAny (model prog w) A (.call (.builtin "object.__setattr__") ⟨[.ref x,.str name tk,v],[]⟩) R s:=by
  have SF:=PySem.F.store_object
  have ne : cd.mro.isEmpty = false:=by cases q : cd.mro with | nil=>rw [q] at hmo;cases hmo | cons _ _=>rfl
  have sub : Looks (model prog w) s.heap (isInstance (.ref x) (.type "object")) true:=I.type.andThen (looks_mroIn X (by unfold mroIn;rw [hc,Option.bind_some,if_neg (by rw [ne];decide),hmo]))
  refine codeAny_call_builtin SF.slot.plain SF.entry (@check_slot (model prog w) _ _ s "object.__setattr__" "object" "__setattr__" (.ref x) [.str name tk,v] [] _ SF.kind SF.split sub (SF.args (.ref x) (.str name tk) v) ?_)
  obtain ⟨attr,ha,hr⟩:=Option.bind_eq_some_iff.mp ht
  have hm : Looks (model prog w) s.heap (mroOf (.ref C)) cd.mro:=(looks_clsIn X hc).andThen .now
  have L3 : Looks (model prog w) s.heap (storeTaker? attr) none:=by
    cases attr with
    | none=>exact .now
    | some a =>
      obtain ⟨b,hb,hb'⟩:=Option.map_eq_some_iff.mp hr
      refine (looks_takesIn X hb).andThen ?_
      cases b
      · exact .now
      · cases hb'
  rw [osa_eq,refuse_eq]
  refine wpAny_bind (wpAny_bind (I.type.here (wpAny_bind (hm.here ?_))))
  rw [hR]
  refine wpAny_pure (wpAny_bind (I.type.here (wpAny_bind ((looks_findIn X ha).here (wpAny_bind (L3.here ?_))))))
  exact h _
theorem ose_new {o : Obj} (F : Fr h₀ L s.heap m) (N : News h₀ L s.heap (pre ++ (x,o) :: post)) (X : K.In s.heap) (ho : o = { cls:=.ref C,data:=.fields fs,slots:=sl }) (hc : clsIn K C = some cd) (hh : cd.hasDict = true) (hmo : cd.mro.contains (.type "object") = true)
    (hR : ∀ self,refuseLoop self "__setattr__" cd.mro = pure ()) (ht : takerIn K C name = some none) (h1 : ∀ p ∈ pre,p.1 ≠ x) (h2 : ∀ p ∈ post,p.1 ≠ x)
    (hq : ∀ d h',Fr h₀ L h' m → News h₀ L h' ((d,dictOf [⟨PyData.keyHash w.params name,.str name s.toks,v⟩] 1) :: (pre ++ (x,{ o with dict:=some d }) :: post)) → (∀ p ∈ pre ++ (x,o) :: post,p.1 < d) → R (.ok (.ret .none)) { s with heap:=h',toks:=s.toks + 1 }) :
    codeAny (model prog w) A (.call (.builtin "object.__setattr__") ⟨[.ref x,.str name tk,v],[]⟩) R s:=by
  subst ho
  have hx:=(N _ (List.mem_append_right pre (.head _))).1
  refine ose_open X (od:=none) ⟨hx,rfl,rfl,trivial⟩ hc hmo hR ht fun b=>?_
  have hlt : ∀ p ∈ pre ++ (x,({ cls:=.ref C,data:=.fields fs,slots:=sl } : Obj)) :: post,p.1 < s.heap.objs.size:=fun p hp=>Heap.lt_size (N p hp).1
  have F1:=F.push { cls:=.type "dict",data:=.dict #[] }
  have N1:=N.push F { cls:=.type "dict",data:=.dict #[] }
  have xne : x ≠ s.heap.objs.size:=fun e=>Nat.lt_irrefl _ (e ▸ hlt _ (List.mem_append_right pre (.head _)) : s.heap.objs.size < s.heap.objs.size)
  obtain ⟨F2,N2⟩:=news_upd (f:=fun o=>{ o with dict:=some s.heap.objs.size }) (pre:=(s.heap.objs.size,{ cls:=.type "dict",data:=.dict #[] }) :: pre) F1 N1 (by
    intro p hp;rcases List.mem_cons.mp hp with rfl | hp
    · exact xne.symm
    · exact h1 p hp) h2 rfl rfl
  obtain ⟨F3,N3⟩:=news_upd (f:=Obj.putName name (PyData.keyHash w.params name) (.str name s.toks) v) (pre:=[]) F2 N2 (by intro p hp;cases hp) (by
    intro p hp e
    have key : ∀ q ∈ pre ++ (x,({ cls:=.ref C,dict:=some s.heap.objs.size,data:=.fields fs,slots:=sl } : Obj)) :: post,q.1 < s.heap.objs.size:=by
      intro q hq';rcases List.mem_append.mp hq' with z | z
      · exact hlt q (List.mem_append_left _ z)
      · rcases List.mem_cons.mp z with rfl | z
        · exact hlt (x,{ cls:=.ref C,data:=.fields fs,slots:=sl }) (List.mem_append_right _ (.head _))
        · exact hlt q (List.mem_append_right _ (.tail _ z))
    exact Nat.lt_irrefl _ (e ▸ key p hp : s.heap.objs.size < s.heap.objs.size)) rfl rfl
  have D1:=(N1 _ (.head _)).1
  have hx1:=(N1 _ (.tail _ (List.mem_append_right pre (.head _)))).1
  have D2:=(N2 _ (.head _)).1
  have D3:=(N3 _ (.head _)).1
  refine wpAny_bind (wpAny_pure (wpAny_bind (wpAny_bind (wpAny_loadPart hx (wpAny_bind ((looks_clsIn X hc).here ?_))))))
  rw [hh]
  refine wpAny_bind (wpAny_alloc (wpAny_bind (wpAny_update hx1 (wpAny_pure (a:=some s.heap.objs.size) (wpAny_bind (wpAny_pure (wpAny_bind ?_)))))))
  unfold nsSet
  refine wpAny_bind (wpAny_bind (wpAny_askSetting (wpAny_pure (wpAny_bind (wpAny_mkText (wpAny_bind (wpAny_loadPart D2 ?_)))))))
  refine wpAny_updatePart D2 ?_
  refine wpAny_bind (wpAny_lookBehind D3 (by exact pastItsLine_dict (by rw [sizeLine_eq];simp)) ?_)
  exact wpAny_pure (hq _ _ F3 N3 hlt)
theorem ose_old {ox od od' : Obj} (F : Fr h₀ L s.heap m) (N : News h₀ L s.heap (pre ++ (dx,od) :: post)) (X : K.In s.heap)
    (I : InstAt s.heap x ox C (some od)) (hd : ox.dict = some dx) (hc : clsIn K C = some cd) (hh : cd.hasDict = true) (hmo : cd.mro.contains (.type "object") = true)
    (hR : ∀ self,refuseLoop self "__setattr__" cd.mro = pure ()) (ht : takerIn K C name = some none)
    (hl : (lookIn name od).isSome = true) (h1 : ∀ p ∈ pre,p.1 ≠ dx) (h2 : ∀ p ∈ post,p.1 ≠ dx)
    (e : Obj.putName name (PyData.keyHash w.params name) (.str name s.toks) v od = od') (e' : od'.data = .dict es.toArray n) (hz : es.length ≤ 1000)
    (h : ∀ h',Fr h₀ L h' m → News h₀ L h' (pre ++ (dx,od') :: post) → R (.ok (.ret .none)) { s with heap:=h',toks:=s.toks + 1 }) :
    codeAny (model prog w) A (.call (.builtin "object.__setattr__") ⟨[.ref x,.str name tk,v],[]⟩) R s:=by
  refine ose_open X I hc hmo hR ht fun b=>?_
  obtain ⟨U1,U2⟩:=news_upd (f:=Obj.putName name (PyData.keyHash w.params name) (.str name s.toks) v) F N h1 h2 e (by obtain ⟨_,_,dd,_⟩:=od';cases e';rfl)
  have D:=(N (dx,od) (by simp)).1
  have D':=(U2 (dx,od') (by simp)).1
  obtain ⟨hx,hcl,hn,-⟩:=I
  obtain ⟨oc,odi,oda,osl⟩:=ox
  dsimp only at hcl hd
  subst hcl hd
  refine wpAny_bind (wpAny_pure (wpAny_bind (wpAny_bind (wpAny_loadPart hx (wpAny_bind ((looks_clsIn X hc).here ?_))))))
  rw [hh]
  refine wpAny_pure (a:=some dx) (wpAny_bind (wpAny_pure (wpAny_bind ?_)))
  unfold nsSet
  refine wpAny_bind (wpAny_bind (wpAny_askSetting (wpAny_pure (wpAny_bind (wpAny_mkText (wpAny_bind (wpAny_loadPart D ?_)))))))
  unfold lookIn at hl
  split at hl
  · rename_i es₀ n₀ q
    rw [q]
    dsimp only
    have c : (!es₀.any (·.key.isStr name) && es₀.any (·.refKey)) = false:=by
      rw [← Array.any_toList,← Array.any_toList]
      split at hl
      · rename_i en he
        rw [List.any_eq_true.mpr ⟨en,List.mem_of_find?_eq_some he,List.find?_some he⟩];rfl
      · split at hl
        · cases hl
        · rename_i z;rw [Bool.not_eq_true] at z;rw [z,Bool.and_false]
    rw [aRefKeyMayBeTheName_at,c]
    refine wpAny_updatePart D ?_
    refine wpAny_bind (wpAny_lookBehind D' (by rw [e'];exact pastItsLine_dict (by rw [List.size_toArray,sizeLine_eq];omega)) ?_)
    exact wpAny_pure (h _ U1 U2)
  · cases hl
end
end
section
noncomputable abbrev excO (t : Addr) (d : Option Addr) : Obj:={ cls:=.ref 71,dict:=d,data:=.fields #[.ref t,.none,.none,.none,.bool false,.none] }
noncomputable abbrev bm71 : List Value:=[.ref 46,.type "Exception",.type "BaseException",.type "object"]
section
variable {P : Params} {h : Heap}
theorem cls71 (X : (heapK P).In h) : h.get? 71 = some (excClassObj "MachineError" "MachineError" 71 70 [.ref 46] bm71 true [] [] false none none (some (.ref 62)) none (some (.str "MachineError" 250)) (some (.str "MachineError" 258)) (some (.bool true)) "Exception.__new__"):=X _ _ rfl
theorem line71 : Line "Exception" bm71:=⟨by decide,by decide,by decide⟩
theorem find71i : findIn (heapK P) (.ref 71) "__init__" = some (some (.ref 36)):=by rfl
theorem find71s : findIn (heapK P) (.ref 71) "__setattr__" = some (some (.builtin "object.__setattr__")):=by kernel_rfl
theorem cd71 : clsIn (heapK P) 71 = some ⟨"MachineError",[.ref 46],.ref 71 :: bm71,70,"MachineError",true,[],[],false,none,false⟩:=by rfl
theorem tk71w : takerIn (heapK P) 71 "what" = some none:=by kernel_rfl
theorem tk71a : takerIn (heapK P) 71 "at" = some none:=by kernel_rfl
theorem ref71 (self : Value) : refuseLoop self "__setattr__" (.ref 71 :: bm71) = pure ():=by
  rw [refuseLoop_ref,refuseLoop_ref]
  kernel_rfl
end
section
variable {prog : Program} {w : World} {A : Around} {E : Value → Shared → Prop} {s : Shared} {h₀ : Heap} {L e t d : Addr} {m : Str → Option Value} {news : List (Addr × Obj)} {g : Obj → List (Addr × Obj)}
theorem base_init71 {v : Value} {Q : Value → Shared → Prop} (F : Fr h₀ L s.heap m) (N : News h₀ L s.heap news) (X₀ : (heapK w.params).In h₀) (U : UpdF e (excO t none) news g)
    (hq : ∀ t2 h',Fr h₀ L h' m → News h₀ L h' (g (excO t2 none)) → Q .none { s with heap:=h' }) :
    wpAny (model prog w) A (call (.builtin "Exception.__init__") [.ref e,v]) Q E s:=by
  have X:=X₀.keeps F.keep
  obtain ⟨hh,gg,dr,tk,os⟩:=s
  obtain ⟨pre,post,rfl,hg,a,b⟩:=U.split
  refine exc_base_init (rest:=[v]) PySem.F.excBase_Exception line71 (cls71 X) (N _ (List.mem_append_right pre (.head _))).1 (by rw [sizeLine_eq];exact Nat.le_of_ble_eq_true rfl) ?_
  obtain ⟨F2,N2⟩:=news_upd (f:=Obj.mapFields (·.setIfInBounds 0 (.ref hh.objs.size))) (F.push { cls:=.type "tuple",data:=.seq [v].toArray }) (N.pushKeep { cls:=.type "tuple",data:=.seq [v].toArray }) a b rfl rfl
  exact hq _ _ F2 (hg _ ▸ N2)
theorem set_new71 {name : Str} {v : Value} {Q : Unit → Shared → Prop} (F : Fr h₀ L s.heap m) (N : News h₀ L s.heap news) (X₀ : (heapK w.params).In h₀) (U : UpdF e (excO t none) news g) (ht : takerIn (heapK w.params) 71 name = some none)
    (hq : ∀ d k h',Fr h₀ L h' m → News h₀ L h' ((d,dictOf [⟨PyData.keyHash w.params name,.str name k,v⟩] 1) :: g (excO t (some d))) → (∀ p ∈ news,p.1 < d) → Q () { s with heap:=h',toks:=s.toks + 2 }) :
    wpAny (model prog w) A (setAttr (.ref e) name v) Q E s:=by
  have X:=X₀.keeps F.keep
  obtain ⟨pre,post,rfl,hg,a,b⟩:=U.split
  refine set_plain X ⟨(N _ (List.mem_append_right pre (.head _))).1,rfl,rfl,trivial⟩ find71s ?_ (od:=none)
  refine ose_new (s:={ s with toks:=s.toks + 1 }) F N X rfl cd71 rfl rfl ref71 ht a b fun d h' F' N' hl=>?_
  exact hq d _ h' F' (hg _ ▸ N') hl
theorem set_old71 {k : Tok} {v1 v2 : Value} {Q : Unit → Shared → Prop} (F : Fr h₀ L s.heap m) (N : News h₀ L s.heap news) (X₀ : (heapK w.params).In h₀) (he : (e,excO t (some d)) ∈ news)
    (U : UpdF d (dictOf [⟨PyData.keyHash w.params "what",.str "what" k,v1⟩] 1) news g)
    (hq : ∀ k2 h',Fr h₀ L h' m → News h₀ L h' (g (dictOf [⟨PyData.keyHash w.params "what",.str "what" k,v1⟩,⟨PyData.keyHash w.params "at",.str "at" k2,v2⟩] 2)) → Q () { s with heap:=h',toks:=s.toks + 2 }) :
    wpAny (model prog w) A (setAttr (.ref e) "at" v2) Q E s:=by
  have X:=X₀.keeps F.keep
  have hd:=upd_in U
  obtain ⟨pre,post,rfl,hg,a,b⟩:=U.split
  have I : InstAt s.heap e (excO t (some d)) 71 (some (dictOf [⟨PyData.keyHash w.params "what",.str "what" k,v1⟩] 1)):=⟨(N _ he).1,rfl,rfl,(N _ hd).1⟩
  refine set_plain X I find71s ?_
  exact ose_old (s:={ s with toks:=s.toks + 1 }) (es:=[⟨PyData.keyHash w.params "what",.str "what" k,v1⟩,⟨PyData.keyHash w.params "at",.str "at" (s.toks + 1),v2⟩]) (n:=2)
    (od':=dictOf [⟨PyData.keyHash w.params "what",.str "what" k,v1⟩,⟨PyData.keyHash w.params "at",.str "at" (s.toks + 1),v2⟩] 2)
    F N X I rfl cd71 rfl rfl ref71 tk71a rfl a b rfl rfl (Nat.le_of_ble_eq_true rfl) fun h' F' N'=>hq _ h' F' (hg _ ▸ N')
end
end
section
open PySem.Spec
section
variable {M : Model} {A : Around} {E : Value → Shared → Prop} {s' : Shared} {base g g₂ h : Heap} {outer : List Env} {L a e t : Addr} {m : Str → Option Value} {name : Str} {scope : Scope} {cd : Value} {Q : Unit → Shared → Prop} {news : List (Addr × Obj)}
theorem leave_excS {oe : Obj} (K : Below A base outer g) (F : Fr g L s'.heap m) (N : News g L s'.heap ((e,oe) :: news)) (ho : Off news e) (hd : oe.data = .fields #[.ref t,.none,.none,.none,.bool false,.none])
    (hk : scope.kind = .function) (hQ : ∀ h',RaisedSN base g outer e oe.cls news h' → g.UpToSlots h' → Q () { s' with heap:=h' }) :
    wpAny M (A.deeper (envOf name scope L a cd)) (leaving (envOf name scope L a cd) (.ref e)) Q E s':=by
  have K':=K.push (name:=name) (a:=a) (cd:=cd) F hk
  have Ne:=N _ (.head _)
  have hin : ∀ env ∈ (envOf name scope L a cd :: outer),∀ b,env.frame = some b → b ∈ e :: (envOf name scope L a cd :: outer).filterMap (·.frame):=fun env he b hb=>.tail _ (List.mem_filterMap.mpr ⟨env,he,hb⟩)
  have st : base.StaysIn (hideAll s'.heap (e :: (envOf name scope L a cd :: outer).filterMap (·.frame))):=fun b o q=>hideAll_get _ (K'.stays b o q) fun hm=>by
    rcases List.mem_cons.mp hm with z | hm
    · have:=fresh_of_stays K.stays Ne.2.2;rw [← z,q] at this;cases this
    · rw [(K'.frames.mem hm).1] at q;cases q
  have sg : ∀ b o,g.get? b = some o → b ∉ outer.filterMap (·.frame) → (hideAll s'.heap (e :: (envOf name scope L a cd :: outer).filterMap (·.frame))).get? b = some o:=fun b o q nm=>hideAll_get _ (F.keep b o q) fun hm=>by
    rcases List.mem_cons.mp hm with z | hm
    · have:=Ne.2.2;rw [← z,q] at this;cases this
    · rcases kts_mem hm with z | z
      · rw [z,kts_self F] at q
        cases q
      · exact nm z
  have hl : ∀ q ∈ news,(hideAll s'.heap (e :: (envOf name scope L a cd :: outer).filterMap (·.frame))).get? q.1 = some q.2 ∧ g.get? q.1 = none ∧ base.get? q.1 = none:=fun q hq=>by
    have Nq:=N q (.tail _ hq)
    refine ⟨hideAll_get _ Nq.1 fun hm=>?_,Nq.2.2,fresh_of_stays K.stays Nq.2.2⟩
    rcases List.mem_cons.mp hm with z | hm
    · exact ho q hq z
    · obtain ⟨env,he,hf⟩:=List.mem_filterMap.mp hm
      rcases List.mem_cons.mp he with rfl | he
      · exact Nq.2.1 (Option.some.inj hf).symm
      · obtain ⟨o,ho,_⟩:=(K.frames.mem (List.mem_filterMap.mpr ⟨env,he,hf⟩)).2
        rw [Nq.2.2] at ho;cases ho
  have hen : (hideAll s'.heap (e :: (envOf name scope L a cd :: outer).filterMap (·.frame))).get? e = none:=hideAll_none _ (.head _)
  refine wpAny_leaving_firstW (a0:=.ref t) K'.stack (funFrames_hide K'.frames hin) rfl Ne.1 (fun b o hb=>of_hideAll _ hb) hen hd rfl rfl fun h' hL=>?_
  obtain ⟨k1,⟨_,_,k2⟩,k3,k4⟩:=hL
  exact hQ h' ⟨_,.ref t,st,sg,hl,k1,hen,k2,k3⟩ ((Heap.UpToSlots.of_keeps F.keep).trans k4)
end
section
variable {prog : Program} {w : World} {A₀ : Around} {E : Value → Shared → Prop} {s' : Shared} {base g g₀ G : Heap} {outer : List Env} {L a e t C : Addr} {m : Str → Option Value} {name : Str} {scope : Scope} {cd : Value}
  {b₀ : Stmt} {suite : List Stmt} {pos np : Pos} {rest : List ExceptHandler} {Q : Flow → Shared → Prop} {news : List (Addr × Obj)} {KF : Frag}
  {p : Program} {loose : List Str} {mean : ExcName → Option Value} {mg mb : Str → Option Value} {x : Str}
theorem caught_exc (R : RaisedSN base G (envOf name scope L a cd :: outer) e (.ref C) news s'.heap) (F : Fr g L G m) (K : Below A₀ base outer g) (hsm : G.UpToSlots s'.heap) (XB : KF.In base) (TB : Top p loose mean mg mb base)
    (D : KtsDicts (outer.filterMap (·.frame)) g) (T0 : KtsTurn (outer.filterMap (·.frame)) g₀ g)
    (ex : nsIn KF mainGlobals x = some (some (.ref C))) (q : ktsIn KF C "BaseException" = true)
    (k : ∀ h' g',KtsTurn (outer.filterMap (·.frame)) g₀ g' → Fr g' L h' m → News g' L h' news → Below A₀ base outer g' → KF.In g' → Top p loose mean mg mb g' → KtsDicts (outer.filterMap (·.frame)) g' →
      wpAny (model prog w) ((A₀.deeper (envOf name scope L a cd)).mark (some (.ref e))) (execs (b₀ :: suite) (envOf name scope L a cd)) Q E { s' with heap:=h' })
    (hk : scope.kind = .function) (hx : (envOf name scope L a cd).kindOf x = some .globalImplicit) (hd : (x == ("__debug__" : Str)) = false)
    (hE : PassesOwnAt (model prog w) ((A₀.deeper (envOf name scope L a cd)).mark (some (.ref e))) (A₀.deeper (envOf name scope L a cd)) (envOf name scope L a cd) E) :
    wpAny (model prog w) (A₀.deeper (envOf name scope L a cd)) (noteFrame (.ref e) (envOf name scope L a cd))
      (fun _ s₂=>wpAny (model prog w) (A₀.deeper (envOf name scope L a cd)) (setFlight (.ref e) none) (fun _ s₃ =>
        wpAny (model prog w) (A₀.deeper (envOf name scope L a cd)) (handleBy (.ref e) (envOf name scope L a cd) (.ExceptHandler (some (.Name x np)) none (b₀ :: suite) pos :: rest)) Q E s₃) E s₂) E s':=by
  refine sealG ?_
  intro G9 k9
  obtain ⟨B,a0,hB,hBG,hl,hfl⟩:=R
  refine k9 ?_
  clear k9 G9
  have hL : B.get? L = none:=by
    obtain ⟨_,⟨L',_,hf,hn',_⟩,_⟩:=hfl.2.2.1
    obtain rfl : L = L':=Option.some.inj hf
    exact hn'
  refine wpAny_looks_onW (Around.frames_deeper K.stack) rfl hfl fun h₄ hheld₄ hsm₄=>?_
  refine wpAny_landsW hheld₄ fun h₅ hheld hsm₅'=>?_
  have hsm₅:=hsm₄.trans hsm₅'
  refine sealG ?_
  intro G9 k9
  obtain ⟨g₅,T₅,F₅,K₅⟩:=kts_ground K F hBG hheld.1 (hsm.trans hsm₅)
  refine k9 ?_
  clear k9 G9
  have X₅ : KF.In g₅:=XB.keeps K₅.stays
  have P₅ : TopRead p loose mg mb g₅:=topRead_of (TB.keeps K₅.stays)
  refine sealG ?_
  intro G9 k9
  obtain ⟨ob,hob,hobc⟩:=hheld.there
  obtain ⟨nm,q',N,bs,bm,hdct,sn,sub,ab,col,dd,k0,k1,k2,k3,k5,newId,hC,hbase,hbT⟩:=kts_cls X₅ q
  refine k9 ?_
  clear k9 G9
  have hC₅:=F₅.keep _ _ hC
  refine wpAny_handleBy_cons (codeAny_handlers_test (name_K F₅ X₅ P₅ ex ?_ hk hx hd)) (by intro q;cases q)
  refine wpAny_excMatches_sub_self hC₅ hob hobc hbase (codeAny_handlers_suite ?_)
  refine lands_againW hheld fun h₆ hfl₆ hsm₆=>?_
  refine sealG ?_
  intro G9 k9
  obtain ⟨g₆,T₆,F₆,K₆⟩:=kts_ground K F hBG hfl₆.1 ((hsm.trans hsm₅).trans hsm₆)
  refine k9 ?_
  clear k9 G9
  have Nl : News g₆ L h₆ news:=fun q hq=>⟨hfl₆.1 _ _ (hl q hq).1,(fun z=>by have:=(hl q hq).1;rw [z,hL] at this;cases this),T₆.none_ _ (kts_none F.keep (hl q hq).2.1)⟩
  have X₆ : KF.In g₆:=XB.keeps K₆.stays
  have P₆ : Top p loose mean mg mb g₆:=TB.keeps K₆.stays
  have D₆ : KtsDicts (outer.filterMap (·.frame)) g₆:=D.turn T₆
  exact wpAny_passesOwnAt hE (k h₆ g₆ (T0.trans T₆) F₆ Nl K₆ X₆ P₆ D₆)
end
section
variable {M : Model} {A : Around} {E : Value → Shared → Prop} {s : Shared} {env : Env} {Q : Flow → Shared → Prop}
theorem raise71 {x : Sem Value} (hh : A.handled = none)
    (h : wpAny M A x (fun v s₁=>∃ e t oe,v = .ref e ∧ s₁.heap.get? 71 = some (excClassObj "MachineError" "MachineError" 71 70 [.ref 46] bm71 true [] [] false none none (some (.ref 62)) none (some (.str "MachineError" 250)) (some (.str "MachineError" 258)) (some (.bool true)) "Exception.__new__") ∧
      s₁.heap.get? e = some oe ∧ oe.cls = .ref 71 ∧ oe.data = .fields #[.ref t,.none,.none,.none,.bool false,.none] ∧ E (.ref e) s₁) E s) :
    wpAny M A (raiseStmt env (some x) none) Q E s:=by
  have hcB : (Value.ref 71 :: bm71).contains (.type "BaseException") = true:=by decide
  unfold raiseStmt
  refine wpAny_bind (wpAny_mono h (fun v s₁ h₁=>?_) fun _ _ x=>x)
  obtain ⟨e,t,oe,rfl,hC,he,hcls,hd,hE⟩:=h₁
  obtain ⟨hp,g,d,tk,os⟩:=s₁
  obtain ⟨oc,od,odt,osl⟩:=oe
  dsimp only at hcls hd
  subst hcls hd
  repeat (first | with_reducible refine wpAny_loadPart_at he ?_ | with_reducible refine wpAny_loadPart_at hC ?_ | (with_reducible refine wpAny_isSubtype_exc hC ?_;rw [hcB]) | wp_step)
  exact wpAny_raiseNew_none hh hE
theorem Raise71 {prog : Program} {w : World} {ex : Expr} {pos : Pos} (hh : A.handled = none)
    (h : wpAny (model prog w) A (eval ex env) (fun v s₁=>∃ e t oe,v = .ref e ∧ s₁.heap.get? 71 = some (excClassObj "MachineError" "MachineError" 71 70 [.ref 46] bm71 true [] [] false none none (some (.ref 62)) none (some (.str "MachineError" 250)) (some (.str "MachineError" 258)) (some (.bool true)) "Exception.__new__") ∧
      s₁.heap.get? e = some oe ∧ oe.cls = .ref 71 ∧ oe.data = .fields #[.ref t,.none,.none,.none,.bool false,.none] ∧ E (.ref e) s₁) E s) :
    wpAny (model prog w) A (exec (.Raise (some ex) none pos) env) Q E s:=by
  rw [arm_exec_Raise]
  first
    | exact wpAny_bind (wpAny_standAt (raise71 hh (wpAny_bind (wpAny_mono h (fun v s₃ h₃=>wpAny_bind (wpAny_standAt (wpAny_pure h₃))) fun _ _ x=>x))))
    | (simp only [evalOpt,Option.map];exact wpAny_bind (wpAny_standAt (raise71 hh (wpAny_bind (wpAny_mono h (fun v s₃ h₃=>wpAny_bind (wpAny_standAt (wpAny_pure h₃))) fun _ _ x=>x)))))
end
end
section
open PySem.Spec
theorem code_defHC {prog : Program} {w : World} {A A₀ : Around} {s : Shared} {K : Frag} {L : Addr} {h₀ base : Heap} {m mg mb : Str → Option Value} {news : List (Addr × Obj)} {p : Program} {loose : List Str} {mean : ExcName → Option Value}
    {env : Env} {outer : List Env} {R : Result → Shared → Prop} {name qual : Str} {params : Arguments} {body : List Stmt} {scope : Scope} {dV kV doc pm cdv ct oc : Value} {an od : Option Addr} {osl : Array (Option Value)} {f : Addr} {args : Args} {binds : List (Str × Value)}
    (sub : List (Addr × Obj)) (hsub : ∀ q ∈ sub,q ∈ news)
    (B : Below A₀ base outer h₀) (F : Fr h₀ L s.heap m) (X₀ : K.In h₀) (N : News h₀ L s.heap news) (T : Top p loose mean mg mb h₀) (hA : A.frames = some (env :: outer)) (hf : env.frame = some L) (hke : env.scope.kind = .function)
    (ho : K.lookup f = some ⟨oc,od,.func (fnOf name qual params body scope dV kV doc pm an cdv ct),osl⟩) (hcd : codeIn K cdv qual = true) (hroom : A.depth < recursionLimit)
    (hbind : BindsTo s (fnOf name qual params body scope dV kV doc pm an cdv ct) args binds)
    (hkind : ∀ n,∀ x ∈ binds,scope.names.lookup x.1 = some .local ∨ (scope.names.lookup x.1 = some .cell ∧ ((cellsFrom n scope.names []).lookup x.1).isSome = true))
    (hnd : ((cellsFrom 0 scope.names []).map (·.1)).Nodup)
    (h : ∀ g L' h₁ tk cells,Fr h₀ L g m → Fr g L' h₁ (bindL (envOfC qual scope L' f cdv).kindOf binds fun _=>none) → News g L' h₁ (cells ++ sub) →
      CellsAre (bindC (envOfC qual scope L' f cdv).kindOf binds fun _=>none) (cellsFrom (L' + 1) scope.names []) cells → Below A base (env :: outer) g → K.In g → Top p loose mean mg mb g → (∀ p ∈ sub,p.1 < L') → (∀ b o,s.heap.get? b = some o → (∀ p ∈ sub,p.1 ≠ b) → g.get? b = some o) →
      wpAny (model prog w) (A.deeper (envOfC qual scope L' f cdv)) (execs body (envOfC qual scope L' f cdv))
        (fun fl s'=>LeaveK h₀ L m g (WithKept s sub R) (match fl with | .ret v=>v | _=>.none) s')
        (fun e s'=>wpAny (model prog w) (A.deeper (envOfC qual scope L' f cdv)) (leaving (envOfC qual scope L' f cdv) e) (fun _ s''=>R (.error e) s'') (fun e' s''=>R (.error e') s'') s')
        { s with heap:=h₁,toks:=tk })
    (hco : scope.isCoroutine = false) (hgen : scope.isGenerator = false) (hk : scope.kind = .function) : codeAny (model prog w) A (.call (.ref f) args) R s:=by
  have NS : News h₀ L s.heap sub:=fun q hq=>N q (hsub q hq)
  obtain ⟨FG,BG,st,lv⟩:=groundX (R:=WithKept s sub R) B F NS hA hf hke
  refine codeAny_call_function hroom ((X₀.keeps F.keep) _ _ ho) rfl hco hgen rfl (codeRec_of (X₀.keeps F.keep) hcd) (hbind _ _ _ _ ?_)
  refine wpAny_newFunctionEnv_cells hk (hkind _) fun env' he s' x=>?_
  subst he
  refine ⟨(T.nolimit.keeps F.keep).keeps x.toInCall.keep,codeAny_func ?_⟩
  obtain ⟨h₁,tk,rfl,_⟩:=x.done
  have hk₁:=x.toInCall.keep
  obtain ⟨cells,NC,Y⟩:=Cl.news (h₀:=s.heap) (Nat.le_refl _) fun n c hm=>⟨x.cell n c (lookup_of_mem_nodup (cellsFrom_names scope.names 0 (s.heap.objs.size + 1) [] [] rfl ▸ hnd) hm),x.above n c hm⟩
  refine wpAny_mono (h _ s.heap.objs.size h₁ tk cells FG ⟨x.toInCall.ns,fun b o e=>hk₁ b o (of_hideAll _ e),Nat.le_of_eq (hideAll_size _ _)⟩ (fun p hp=>?_) Y BG (X₀.keeps st) (T.keeps st) (fun p hp=>Heap.lt_size (NS p hp).1) (fun b o e hn=>hideAll_get _ e fun hq=>by
      obtain ⟨q,hq,e⟩:=List.mem_map.mp hq
      exact hn q hq e)) (fun fl s' hl=>?_) fun _ _ y=>y
  · rcases List.mem_append.mp hp with hp | hp
    · refine ⟨(NC p hp).1,(NC p hp).2.1,?_⟩
      cases q : (hideAll s.heap (sub.map (·.1))).get? p.1 with
      | none=>rfl
      | some o=>have:=of_hideAll _ q;rw [(NC p hp).2.2] at this;cases this
    · exact ⟨hk₁ _ _ (NS p hp).1,Nat.ne_of_lt (Heap.lt_size (NS p hp).1),hideAll_none _ (List.mem_map_of_mem hp)⟩
  · refine lv _ _ hl ?_
    obtain ⟨L',m',news',F',N',k⟩:=hl
    exact fun b o hb hn=>F'.keep b o (hideAll_get _ hb fun hq=>by
      obtain ⟨q,hq,e⟩:=List.mem_map.mp hq
      exact hn q hq e)
end
section
open PySem.Spec PyProof.Rows.LCg PyProof.Rows.LCt
section
variable {prog : Program} {w : World} {A : Around} {E : Value → Shared → Prop} {s : Shared} {h₀ : Heap} {L : Addr} {m : Str → Option Value} {env : Env}
inductive SrcD (prog : Program) (w : World) (A : Around) (h₀ : Heap) (L : Addr) (m : Str → Option Value) (env : Env) (ct elt : Expr) (x : Str) (scope : Scope) (cl : List (Str × Addr)) (Fin : Shared → List Value → List (Addr × Obj) → Prop) (xv : Value) (s₁ : Shared) : Prop
  | mk (d : Addr) (od : Obj) (kvs : List (Int × Value)) (news : List (Addr × Obj)) (e : xv = .ref d) (hh : A.handled = none) (F : Fr h₀ L s₁.heap m) (N : News h₀ L s₁.heap news) (hm : (d,od) ∈ news) (hd : od.IsDictOf (intKind prog w) kvs) (lo : (d == sysModules) = false) (hsz : kvs.length ≤ sizeLine)
    (R : ∀ s₂ : Shared,(∃ h,s₂ = { s₁ with heap:=h }) → CompRestT prog w A h₀ L m env ct elt x scope cl s₂ (fun l=>(d,od) ∈ l) (fun i v=>∃ k y t,kvs[i]? = some (k,y) ∧ v = .int k t) (Fin s₂) kvs.length 0 [] news)
theorem ListComp_TD {ct elt iter : Expr} {x : Str} {px : Pos} {scope : Scope} {cl : List (Str × Addr)} {pos : Pos} {Q : Value → Shared → Prop} (_F₀ : Fr h₀ L s.heap m)
    (hclos : closureFor scope env = pure cl) (hcell : ∀ y ∈ scope.names,y.2 ≠ .cell) (hkind : scope.kind = .function)
    (hnames : ∀ y ∈ scope.names,y.2 = .local → scope.names.lookup y.1 = some .local) (hx : scope.names.lookup x = some .local)
    (h : wpAny (model prog w) A (eval iter env) (SrcD prog w A h₀ L m env ct elt x scope cl (fun s₂=>FinE h₀ L m s₂ Q)) E s)
    (hs : ∀ x,foldedSetIterable iter env x = pure x) :
    wpAny (model prog w) A (eval (.ListComp elt [⟨.Name x px,iter,[ct],0⟩] scope pos) env) Q E s:=by
  rw [eval_ListComp]
  refine wpAny_comprehension_free (use:=none) rfl hs hclos hkind hnames (wpAny_mono h (fun xv s₁ h₁=>?_) fun _ _ e=>e)
  obtain ⟨d,od,kvs,news,rfl,hh,F,N,hm,hd,lo,hsz,R⟩:=h₁
  have hax:=N _ hm
  refine sealG ?_
  intro G9 k9
  obtain ⟨ep,hat⟩ : ∃ ep,s₁.heap.DictAt (intKind prog w) d kvs ep:=(Heap.dictOf_iff.mpr ⟨od,hax.1,hd⟩).dictAt
  refine k9 ?_
  clear k9 G9
  have hlt : d < s₁.heap.objs.size:=Heap.lt_size hax.1
  have hne : d ≠ s₁.heap.objs.size:=Nat.ne_of_lt hlt
  refine wpAny_pyIter_dict lo hat ?_
  have W:=Walks.dictKeys (knd:=intKind prog w) hh s₁.heap.objs.size d hne kvs ep
  have W2 : Walks prog w A s₁.heap.objs.size [s₁.heap.objs.size,d] [s₁.heap.objs.size] kvs.length (fun i v=>∃ k y t,kvs[i]? = some (k,y) ∧ v = .int k t) (fun i h=>h.IsKeyIter s₁.heap.objs.size d i kvs.length ep ∧ h.DictAt (intKind prog w) d kvs ep) :=
    { sub:=W.sub,frame:=W.frame,done:=W.done,self:=W.self,
      item:=fun i s Q E hi st hQ=>W.item i s Q E hi st fun v h' tk hP=>hQ v h' tk (by
        obtain ⟨k,y,hk,hkv⟩:=hP
        cases v <;> simp [intKind,Value.isInt] at hkv
        exact ⟨k,y,_,hk,by rw [hkv]⟩) }
  have up : ∀ {o : Obj} b ob,s₁.heap.get? b = some ob → (s₁.heap.push o).get? b = some ob:=fun b ob e=>Heap.get?_push_of_some _ e
  refine block_T (S:=fun l=>(d,od) ∈ l) W2 hsz (fun i h st=>by obtain ⟨o,e,_⟩:=st.1;exact ⟨o,e⟩) (fun i h h' o nw st e e' k Nw S=>⟨by obtain ⟨o',q,r⟩:=st.1;rw [e] at q;cases q;exact ⟨o,e',r⟩,?_⟩) hcell hkind hx ⟨⟨_,Heap.get?_push_size _ rfl,rfl,rfl⟩,hat.push _⟩ (fun b hb=>?_)
    (F.keeps up) (N.grown up) (Nat.ne_of_lt F.ns.lt) (next_is_new F) (fun p hp=>Nat.ne_of_lt (Heap.lt_size (N p hp).1)) hm (R _ ⟨_,rfl⟩) ?_
  · obtain ⟨o1,es,g1,r⟩:=hat
    have e1 : o1 = od:=by rw [hax.1] at g1;exact (Option.some.inj g1).symm
    subst e1
    exact ⟨o1,es,(Nw _ S).1,r⟩
  · show b < (s₁.heap.push _).objs.size
    rw [Heap.size_push]
    rcases List.mem_cons.mp hb with rfl | hb
    · exact Nat.lt_succ_self _
    · rw [List.mem_singleton.mp hb];exact Nat.lt_succ_of_lt hlt
  · intro D C h tk m' ys news' F' N' o1 hn hC₀ hD₀ hCL hDL hCD offC fin
    refine ⟨m',hn,fun h'' hs''=>fin D h'' tk (F'.change hs'' hCL hC₀) (fun p hp=>?_) o1⟩
    refine ⟨hs''.extBut _ _ ?_ (N' p hp).1,(N' p hp).2⟩
    rcases List.mem_cons.mp hp with rfl | hp
    · exact Ne.symm hCD
    · exact offC p hp
theorem compEnd_mono {I C D : Addr} {oI oC oD : Obj} {S : List (Addr × Obj) → Prop} {r r' : Value → List (Addr × Obj) → Prop} {y : Value} {s₁ s₂ : Shared} (h : CompEnd h₀ L m s₁ I oI C oC D oD S r y s₂) (hr : ∀ l,S l → r y l → r' y l) : CompEnd h₀ L m s₁ I oI C oC D oD S r' y s₂:=by
  obtain ⟨h',tk,l,e,F,N,o,hS,hx⟩:=h
  exact ⟨h',tk,l,e,F,N,o,hS,hr l hS hx⟩
theorem compT_ind {ct elt : Expr} {x : Str} {scope : Scope} {cl : List (Str × Addr)} {S : List (Addr × Obj) → Prop} {P : Nat → Value → Prop} {Fin : List Value → List (Addr × Obj) → Prop} {n : Nat} {news : List (Addr × Obj)} (J : Nat → List Value → List (Addr × Obj) → Prop) (h0 : J 0 [] news)
    (fin : ∀ ys l,J n ys l → Fin ys l)
    (turn : ∀ i ys l v I oI C oC D m₂ h tk (E' : Value → Shared → Prop),i < n → J i ys l → P i v → NsObj oC m₂ → m₂ x = some v → Fr h₀ L h m → News h₀ L h ((I,oI) :: (C,oC) :: (D,lst ys) :: l) → Off3 I C D l → ((@Ne Nat I C) ∧ (@Ne Nat I D) ∧ (@Ne Nat C D)) →
      wpAny (model prog w) A (isTrue ct (compEnvC scope cl C env) (eval ct (compEnvC scope cl C env))) (fun ok s'=>if ok = true then
        wpAny (model prog w) A (eval elt (compEnvC scope cl C env)) (CompEnd h₀ L m { s with heap:=h,toks:=tk } I oI C oC D (lst ys) S (fun y l'=>J (i + 1) (ys ++ [y]) l')) E' s'
        else CompEnd h₀ L m { s with heap:=h,toks:=tk } I oI C oC D (lst ys) S (fun _ l'=>J (i + 1) ys l') Value.none s') E' { s with heap:=h,toks:=tk }) :
    CompRestT prog w A h₀ L m env ct elt x scope cl s S P Fin n 0 [] news:=by
  have main : ∀ (k i : Nat) (ys : List Value) (l : List (Addr × Obj)),i + k = n → J i ys l → CompRestT prog w A h₀ L m env ct elt x scope cl s S P Fin k i ys l:=by
    intro k
    induction k with
    | zero=>intro i ys l hk hj;exact CompRestT.zero (fin ys l (by rw [← hk];exact hj))
    | succ k ih =>
      intro i ys l hk hj
      refine CompRestT.succ fun v I oI C oC D m₂ h tk E' hP hC hx F N off ne=>?_
      refine wpAny_mono (turn i ys l v I oI C oC D m₂ h tk E' (by omega) hj hP hC hx F N off ne) (fun ok s' hs=>?_) fun _ _ e=>e
      cases ok with
      | true =>
        simp only [if_true] at hs ⊢
        exact wpAny_mono hs (fun y s'' hy=>compEnd_mono hy fun l' _ hj'=>ih (i + 1) _ _ (by omega) hj') fun _ _ e=>e
      | false =>
        simp only [Bool.false_eq_true,if_false] at hs ⊢
        exact compEnd_mono hs fun l' _ hj'=>ih (i + 1) _ _ (by omega) hj'
  exact main n 0 [] news (by omega) h0
theorem comp_ind {elt : Expr} {x : Str} {scope : Scope} {cl : List (Str × Addr)} {S : List (Addr × Obj) → Prop} {P : Nat → Value → Prop} {Fin : List Value → List (Addr × Obj) → Prop} {n : Nat} {news : List (Addr × Obj)} (J : Nat → List Value → List (Addr × Obj) → Prop) (h0 : J 0 [] news)
    (fin : ∀ ys l,J n ys l → Fin ys l)
    (turn : ∀ i ys l v I oI C oC D m₂ h tk (E' : Value → Shared → Prop),i < n → J i ys l → P i v → NsObj oC m₂ → m₂ x = some v → Fr h₀ L h m → News h₀ L h ((I,oI) :: (C,oC) :: (D,lst ys) :: l) → Off3 I C D l → ((@Ne Nat I C) ∧ (@Ne Nat I D) ∧ (@Ne Nat C D)) →
      wpAny (model prog w) A (eval elt (compEnvC scope cl C env)) (CompEnd h₀ L m { s with heap:=h,toks:=tk } I oI C oC D (lst ys) S (fun y l'=>J (i + 1) (ys ++ [y]) l')) E' { s with heap:=h,toks:=tk }) :
    CompRest prog w A h₀ L m env elt x scope cl s S P Fin n 0 [] news:=by
  have main : ∀ (k i : Nat) (ys : List Value) (l : List (Addr × Obj)),i + k = n → J i ys l → CompRest prog w A h₀ L m env elt x scope cl s S P Fin k i ys l:=by
    intro k
    induction k with
    | zero=>intro i ys l hk hj;exact CompRest.zero (fin ys l (by rw [← hk];exact hj))
    | succ k ih =>
      intro i ys l hk hj
      refine CompRest.succ fun v I oI C oC D m₂ h tk E' hP hC hx F N off ne=>?_
      exact wpAny_mono (turn i ys l v I oI C oC D m₂ h tk E' (by omega) hj hP hC hx F N off ne) (fun y s'' hy=>compEnd_mono hy fun l' _ hj'=>ih (i + 1) _ _ (by omega) hj') fun _ _ e=>e
  exact main n 0 [] news (by omega) h0
end
end
section
open PySem.Spec
section
variable {prog : Program} {w : World} {A₀ A : Around} {s : Shared} {base h₀ : Heap} {L : Addr} {m : Str → Option Value} {env : Env} {news : List (Addr × Obj)} {K : Frag} {p : Program} {loose : List Str} {mean : ExcName → Option Value} {mg mb : Str → Option Value}
    {R : Result → Shared → Prop} {name qual : Str} {params : Arguments} {body : List Stmt} {scope : Scope} {dV kV doc pm cdv ct oc : Value} {an od : Option Addr} {osl : Array (Option Value)} {f : Addr} {args : Args} {binds : List (Str × Value)}
theorem fr_mem {b : Addr} (hf : env.frame = some L) (hm : b ∈ [env].filterMap (·.frame)) : b = L:=by
  obtain ⟨e,he,hb⟩:=List.mem_filterMap.mp hm
  rw [List.mem_singleton.mp he,hf] at hb
  exact (Option.some.inj hb).symm
theorem code_defSX (B : Below A₀ base [] h₀) (F : Fr h₀ L s.heap m) (X₀ : K.In h₀) (N : News h₀ L s.heap news) (T : Top p loose mean mg mb h₀) (hA : A.frames = some [env]) (hf : env.frame = some L) (hke : env.scope.kind = .function)
    (ho : K.lookup f = some ⟨oc,od,.func (fnOf name qual params body scope dV kV doc pm an cdv ct),osl⟩) (hcd : codeIn K cdv qual = true) (hroom : A.depth < recursionLimit)
    (hbind : BindsTo s (fnOf name qual params body scope dV kV doc pm an cdv ct) args binds) (hloc : ∀ y ∈ binds,scope.names.lookup y.1 = some .local)
    (h : ∀ g L' h₁,Fr h₀ L g m → Fr g L' h₁ (fun y=>binds.reverse.lookup y) → News g L' h₁ news → Below A base [env] g → K.In g → Top p loose mean mg mb g → KtsDicts ([env].filterMap (·.frame)) g →
      wpAny (model prog w) (A.deeper (envOf qual scope L' f cdv)) (execs body (envOf qual scope L' f cdv))
        (fun fl s'=>LeaveS0 ([env].filterMap (·.frame)) h₀ L m g R (match fl with | .ret v=>v | _=>.none) s')
        (fun e s'=>wpAny (model prog w) (A.deeper (envOf qual scope L' f cdv)) (leaving (envOf qual scope L' f cdv) e) (fun _ s''=>R (.error e) s'') (fun e' s''=>R (.error e') s'') s')
        { s with heap:=h₁,toks:=s.toks + binds.length })
    (hco : scope.isCoroutine = false) (hgen : scope.isGenerator = false) (hk : scope.kind = .function)
    (hcell : ∀ x ∈ scope.names,x.2 ≠ .cell) : codeAny (model prog w) A (.call (.ref f) args) R s:=by
  have X:=X₀.keeps F.keep
  refine codeAny_call_def (fd:=fnOf name qual params body scope dV kV doc pm an cdv ct) (body:=body) (binds:=binds) hroom (X _ _ ho) rfl (T.nolimit.keeps F.keep) (codeRec_of X hcd) rfl hbind hcell hloc (fun h₁ hns hk₁=>?_) hco hgen hk
  have nm : ∀ b o,h₀.get? b = some o → b ∉ news.map (·.1):=fun b o e q=>by
    obtain ⟨p,hp,rfl⟩:=List.mem_map.mp q
    rw [(N p hp).2.2] at e;cases e
  have st : h₀.StaysIn (hideAll s.heap (news.map (·.1))):=fun b o e=>hideAll_get _ (F.keep b o e) (nm b o e)
  obtain ⟨oL,es,ep,hL,hLd,hLk,hLf⟩:=F.ns
  have nL : L ∉ news.map (·.1):=fun q=>by
    obtain ⟨p,hp,e⟩:=List.mem_map.mp q
    exact (N p hp).2.1 e
  have hLg:=hideAll_get (news.map (·.1)) hL nL
  have B₁:=pushX B F hf hke
  have B₂ : Below A base [env] (hideAll s.heap (news.map (·.1))):=⟨hA,fun b o e=>st b o (B.stays b o e),funFrames_hideAll B₁.frames fun env' he b hb hf'=>by
    rw [List.mem_singleton.mp he,hf] at hf'
    exact nL ((Option.some.inj hf') ▸ hb)⟩
  refine wpAny_mono (h _ s.heap.objs.size h₁ ⟨⟨oL,es,ep,hLg,hLd,hLk,hLf⟩,st,F.above⟩ ⟨hns,fun b o e=>hk₁ b o (of_hideAll _ e),Nat.le_of_eq (hideAll_size _ _)⟩
    (fun p hp=>⟨hk₁ _ _ (N p hp).1,Nat.ne_of_lt (Heap.lt_size (N p hp).1),hideAll_none _ (List.mem_map_of_mem hp)⟩) B₂ (X₀.keeps st) (T.keeps st) (fun b hb=>by
      rw [fr_mem hf hb]
      exact ⟨oL,es,ep,hLg,hLd⟩)) (fun fl s' hl=>?_) fun _ _ y=>y
  obtain ⟨g',L',m',news',T',F',N',k⟩:=hl
  have nL₀ : h₀.get? L = none:=kts_self F
  obtain ⟨sl,hs⟩:=T'.up hLg
  refine k ⟨⟨_,es,ep,F'.keep _ _ hs,hLd,hLk,hLf⟩,fun b o e=>F'.keep b o (T'.other b o (st b o e) (fun q=>by
    rw [fr_mem hf q,nL₀] at e
    cases e)),F.above⟩ fun p hp=>⟨(N' p hp).1,fun q=>?_,?_⟩
  · have:=(N' p hp).2.2;rw [q,hs] at this;cases this
  · cases q : h₀.get? p.1 with
    | none=>rfl
    | some o =>
      obtain ⟨sl',hs'⟩:=T'.up (st _ _ q)
      have:=(N' p hp).2.2
      rw [hs'] at this
      cases this
end
end
section
structure SI where
  p : Array Nat
  pend : Array (Nat × Nat × Nat)
  g : Nat
structure KI where
  κ : SortKind
  it : Nat → Keyed
noncomputable def siR (e : KI) (I : SI) : SortSt:=SortSt.mk' e.κ (I.p.map e.it) I.pend I.g none
noncomputable def cmpI (prog : Program) (w : World) (A : Around) (e : KI) (i j : Nat) (C : Bool → Shared → Prop) (s : Shared) : Prop :=
  wpAny (model prog w) A (keyLt' e.κ (e.it i).1 (e.it j).1) C (fun _ _=>False) s
noncomputable def Lv {α : Type} (N : Nat) (P : α → Prop) : KasT α → Prop
  | .ret a=>P a
  | .ask i j k=>i < N ∧ j < N ∧ ∀ b,Lv N P (k b)
noncomputable def Ref {α : Type} (m : KI → StateT SortSt Sem α) (I : SI) (t : KasT ((KI → α) × SI)) : Prop :=
  ∀ (prog : Program) (w : World) (A : Around) (E : Value → Shared → Prop) (e : KI) (Q : α → SortSt → Shared → Prop) (s : Shared),
    t.kasWp (cmpI prog w A e) (fun r s'=>Q (r.1 e) (siR e r.2) s') s → kasC (model prog w) A E (m e) Q (siR e I) s
noncomputable def Tot {α : Type} (N : Nat) (m : KI → StateT SortSt Sem α) (I : SI) (P : (KI → α) → SI → Prop) : Prop :=
  ∃ t : KasT ((KI → α) × SI),Lv N (fun r=>P r.1 r.2) t ∧ Ref m I t
theorem cmpI_mono {prog : Program} {w : World} {A : Around} {e : KI} {i j : Nat} {C C' : Bool → Shared → Prop} {s : Shared} (h : cmpI prog w A e i j C s) (hc : ∀ b s',C b s' → C' b s') : cmpI prog w A e i j C' s :=
  wpAny_mono h hc fun _ _ x=>x
section
variable {N : Nat} {I : SI} {α β : Type}
theorem Tot.mono {m : KI → StateT SortSt Sem α} {P P' : (KI → α) → SI → Prop} (h : Tot N m I P) (hp : ∀ r I',P r I' → P' r I') : Tot N m I P':=by
  obtain ⟨t,h1,h2⟩:=h
  refine ⟨t,?_,h2⟩
  clear h2
  induction t with
  | ret a=>exact hp _ _ h1
  | ask i j k ih=>exact ⟨h1.1,h1.2.1,fun b=>ih b (h1.2.2 b)⟩
theorem tot_pure {a : KI → α} {P : (KI → α) → SI → Prop} (h : P a I) : Tot N (fun e=>pure (a e)) I P :=
  ⟨.ret (a,I),h,fun _ _ _ _ _ _ _ h=>kasC_pure h⟩
theorem tot_bind {m : KI → StateT SortSt Sem α} {k : KI → α → StateT SortSt Sem β} {P : (KI → β) → SI → Prop}
    (h : Tot N m I (fun r I'=>Tot N (fun e=>k e (r e)) I' P)) : Tot N (fun e=>m e >>= k e) I P:=by
  obtain ⟨t,h1,h2⟩:=h
  have key : ∀ (t : KasT ((KI → α) × SI)),Lv N (fun (r : (KI → α) × SI)=>Tot N (fun e=>k e (r.1 e)) r.2 P) t → ∃ t',Lv N (fun (r : (KI → β) × SI)=>P r.1 r.2) t' ∧
      ∀ (prog : Program) (w : World) (A : Around) (E : Value → Shared → Prop) (e : KI) (Q : β → SortSt → Shared → Prop) (s : Shared),
        t'.kasWp (cmpI prog w A e) (fun r s'=>Q (r.1 e) (siR e r.2) s') s → t.kasWp (cmpI prog w A e) (fun r s'=>kasC (model prog w) A E (k e (r.1 e)) Q (siR e r.2) s') s:=by
    intro t
    induction t with
    | ret a=>rintro ⟨t',a1,a2⟩;exact ⟨t',a1,a2⟩
    | ask i j c ih =>
      rintro ⟨hi,hj,hb⟩
      have ⟨c',hc'⟩:=Classical.skolem.mp fun b=>ih b (hb b)
      exact ⟨.ask i j c',⟨hi,hj,fun b=>(hc' b).1⟩,fun prog w A E e Q s h=>cmpI_mono h fun b s' hb'=>(hc' b).2 prog w A E e Q s' hb'⟩
  obtain ⟨t',a1,a2⟩:=key t h1
  exact ⟨t',a1,fun prog w A E e Q s h=>kasC_bind (h2 prog w A E e _ s (a2 prog w A E e Q s h))⟩
theorem tot_lt {i j : Nat} {P : (KI → Option Bool) → SI → Prop} (hi : i < N) (hj : j < N) (h : ∀ b,P (fun _=>some b) I) : Tot N (fun e=>(sortPriv% PySem.Builtin.lt) (e.it i) (e.it j)) I P:=by
  refine ⟨.ask i j fun b=>.ret (fun _=>some b,I),⟨hi,hj,fun b=>h b⟩,fun prog w A E e Q s h=>?_⟩
  show kasC _ _ _ (lt' (e.it i) (e.it j)) _ _ _
  rw [lt'_eq]
  refine kasC_bind (kasC_get ?_)
  refine kasC_bind (kasC_lift (wpAny_attempt (wpAny_mono h (fun c s' hc=>?_) fun _ _ hF=>hF.elim)))
  exact kasC_pure hc
theorem tot_ltB {i j : Nat} {k : KI → Option Bool → StateT SortSt Sem β} {P : (KI → β) → SI → Prop} (hi : i < N) (hj : j < N) (h : ∀ b,Tot N (fun e=>k e (some b)) I P) :
    Tot N (fun e=>(sortPriv% PySem.Builtin.lt) (e.it i) (e.it j) >>= k e) I P:=tot_bind (tot_lt hi hj h)
theorem map_get {a : Array Nat} {e : KI} {i : Nat} (hi : i < a.size) : (a.map e.it)[i]? = some (e.it (a.getD i 0)):=by
  have e0 : a.getD i 0 = a[i]:=by simp [Array.getD,hi]
  rw [e0]
  simp [hi]
theorem tot_elemB {a : Array Nat} {i : Nat} {k : KI → Keyed → StateT SortSt Sem β} {P : (KI → β) → SI → Prop} (hi : i < a.size) (h : Tot N (fun e=>k e (e.it (a.getD i 0))) I P) :
    Tot N (fun e=>(sortPriv% PySem.Builtin.elem) (a.map e.it) i >>= k e) I P:=by
  refine tot_bind ⟨.ret (fun e=>e.it (a.getD i 0),I),h,fun prog w A E e Q s h=>?_⟩
  show kasC _ _ _ (elem' (a.map e.it) i) _ _ _
  rw [elem'_eq,map_get hi]
  exact kasC_pure h
theorem tot_getB {k : KI → SortSt → StateT SortSt Sem β} {P : (KI → β) → SI → Prop} (h : Tot N (fun e=>k e (siR e I)) I P) : Tot N (fun e=>get >>= k e) I P:=by
  obtain ⟨t,h1,h2⟩:=h
  exact ⟨t,h1,fun prog w A E e Q s h=>kasC_bind (kasC_get (h2 prog w A E e Q s h))⟩
theorem tot_modifyB {f : KI → SortSt → SortSt} {k : KI → PUnit → StateT SortSt Sem β} {P : (KI → β) → SI → Prop} (I' : SI) (hf : ∀ e,f e (siR e I) = siR e I') (h : Tot N (fun e=>k e ⟨⟩) I' P) : Tot N (fun e=>(modify (f e) : StateT SortSt Sem PUnit) >>= k e) I P:=by
  obtain ⟨t,h1,h2⟩:=h
  exact ⟨t,h1,fun prog w A E e Q s h=>kasC_bind (kasC_modify (by rw [hf];exact h2 prog w A E e Q s h))⟩
theorem tot_setB {f : KI → SortSt} {k : KI → PUnit → StateT SortSt Sem β} {P : (KI → β) → SI → Prop} (I' : SI) (hf : ∀ e,f e = siR e I') (h : Tot N (fun e=>k e ⟨⟩) I' P) : Tot N (fun e=>(set (f e) : StateT SortSt Sem PUnit) >>= k e) I P:=by
  obtain ⟨t,h1,h2⟩:=h
  exact ⟨t,h1,fun prog w A E e Q s h=>by
    refine kasC_bind ?_
    unfold kasC
    rw [StateT.run_set]
    exact wpAny_pure (by rw [hf];exact h2 prog w A E e Q s h)⟩
theorem tot_rule {x : String} {k : KI → Unit → StateT SortSt Sem β} {P : (KI → β) → SI → Prop} (h : Tot N (fun e=>k e ()) I P) : Tot N (fun e=>(liftM (rule x) : StateT SortSt Sem Unit) >>= k e) I P:=by
  obtain ⟨t,h1,h2⟩:=h
  exact ⟨t,h1,fun prog w A E e Q s h=>kasC_bind (kasC_lift (wpAny_rule (h2 prog w A E e Q s h)))⟩
theorem tot_list {γ : Type} {β : Type} {f : KI → γ → β → StateT SortSt Sem (ForInStep β)} {P : (KI → β) → SI → Prop} (n : Nat) (Inv : Nat → (KI → β) → SI → Prop)
    (step : ∀ i x b I,i < n → Inv i b I → Tot N (fun e=>f e x (b e)) I (fun r I'=>(∃ b',(r = fun e=>ForInStep.yield (b' e)) ∧ Inv (i + 1) b' I') ∨ (∃ b',(r = fun e=>ForInStep.done (b' e)) ∧ P b' I')))
    (fin : ∀ b I,Inv n b I → P b I) : ∀ (l : List γ) (i : Nat) (b : KI → β) (I : SI),i + l.length = n → Inv i b I → Tot N (fun e=>forIn l (b e) (f e)) I P
  | [],i,b,I,hl,h=>by
    simp only [List.forIn_nil]
    have e : i = n:=by simpa using hl
    exact tot_pure (fin b I (e ▸ h))
  | x :: l,i,b,I,hl,h=>by
    simp only [List.forIn_cons]
    have hl' : i + 1 + l.length = n:=by simp only [List.length_cons] at hl;omega
    refine tot_bind (k:=fun e r=>match r with | .done b=>pure b | .yield b=>forIn l b (f e)) (Tot.mono (step i x b I (by simp only [List.length_cons] at hl;omega) h) fun r I' hr=>?_)
    rcases hr with ⟨b',rfl,hI⟩ | ⟨b',rfl,hp⟩
    · exact tot_list n Inv step fin l (i + 1) b' I' hl' hI
    · exact tot_pure hp
theorem tot_range {β : Type} {a z : Nat} {f : KI → Nat → β → StateT SortSt Sem (ForInStep β)} {P : (KI → β) → SI → Prop} {b : KI → β} (Inv : Nat → (KI → β) → SI → Prop) (h0 : Inv 0 b I)
    (step : ∀ i x b I,i < z - a → Inv i b I → Tot N (fun e=>f e x (b e)) I (fun r I'=>(∃ b',(r = fun e=>ForInStep.yield (b' e)) ∧ Inv (i + 1) b' I') ∨ (∃ b',(r = fun e=>ForInStep.done (b' e)) ∧ P b' I')))
    (fin : ∀ b I,Inv (z - a) b I → P b I) : Tot N (fun e=>forIn [a:z] (b e) (f e)) I P:=by
  have h:=tot_list (z - a) Inv step fin (List.range' a (z - a)) 0 b I (by simp) h0
  refine h.imp fun t ht=>⟨ht.1,fun prog w A E e Q s hs=>kasC_range (ht.2 prog w A E e Q s hs)⟩
end
end
section
theorem tot_ite {α : Type} {N : Nat} {I : SI} {c : Prop} {d : KI → Decidable c} {x y : KI → StateT SortSt Sem α} {P : (KI → α) → SI → Prop} (h1 : c → Tot N x I P) (h2 : ¬ c → Tot N y I P) : Tot N (fun e=>@ite _ c (d e) (x e) (y e)) I P:=by
  by_cases hc : c
  · simp only [if_pos hc];exact h1 hc
  · simp only [if_neg hc];exact h2 hc
inductive L2 {γ : Type} (I : SI) (R R2 : Nat → Nat → Prop) : (KI → ForInStep (Option γ × Nat × Nat)) → SI → Prop
  | y {lo hi : Nat} (h : R lo hi) : L2 I R R2 (fun _=>.yield (none,lo,hi)) I
  | d {lo hi : Nat} (h : R2 lo hi) : L2 I R R2 (fun _=>.done (none,lo,hi)) I
inductive G2 {γ : Type} (I : SI) (R : Nat → Nat → Prop) : (KI → Option γ × Nat × Nat) → SI → Prop
  | g {lo hi : Nat} (h : R lo hi) : G2 I R (fun _=>(none,lo,hi)) I
theorem tot_loop2 {γ β : Type} {N : Nat} {I : SI} {a z lo0 hi0 : Nat} {f : KI → Nat → Option γ × Nat × Nat → StateT SortSt Sem (ForInStep (Option γ × Nat × Nat))} {k : KI → Option γ × Nat × Nat → StateT SortSt Sem β} {P : (KI → β) → SI → Prop} (R R2 : Nat → Nat → Prop) (h0 : R lo0 hi0)
    (step : ∀ x lo hi,R lo hi → Tot N (fun e=>f e x (none,lo,hi)) I (L2 I R R2)) (fin : ∀ lo hi,R lo hi → R2 lo hi) (hk : ∀ lo hi,R2 lo hi → Tot N (fun e=>k e (none,lo,hi)) I P) :
    Tot N (fun e=>forIn [a:z] (none,lo0,hi0) (f e) >>= k e) I P:=by
  refine tot_bind (Tot.mono (tot_range (b:=fun _=>(none,lo0,hi0)) (P:=G2 I R2) (fun _=>G2 I R) (.g h0) (fun i x b I' _ hI=>?_) fun b I' hI=>?_) fun b I' hI=>?_)
  · cases hI with
    | g h =>
      refine Tot.mono (step x _ _ h) fun r I' hr=>?_
      cases hr with
      | y h=>exact .inl ⟨_,rfl,.g h⟩
      | d h=>exact .inr ⟨_,rfl,.g h⟩
  · cases hI with | g h=>exact .g (fin _ _ h)
  · cases hI with | g h=>exact hk _ _ h
section
variable {lo n i s k a : Nat}
theorem crB (h : lo + n ≤ s) (hk : k < n) : lo + k < s:=Nat.lt_of_lt_of_le (Nat.add_lt_add_left hk lo) h
theorem crB1 (h : lo + n ≤ s) (hk : k < n) : lo + k - 1 < s:=Nat.lt_of_le_of_lt (Nat.sub_le _ _) (crB h hk)
theorem crB2 (h : lo + n ≤ s) (h1 : 1 ≤ k) (hk : k ≤ n) : lo + k - 1 < s:=Nat.lt_of_lt_of_le (Nat.sub_lt (Nat.lt_of_lt_of_le h1 (Nat.le_add_left _ _)) Nat.one_pos) (Nat.le_trans (Nat.add_le_add_left hk lo) h)
theorem crB0 (h : lo + n ≤ s) (h1 : 1 ≤ n) : lo < s:=Nat.lt_of_lt_of_le (Nat.lt_add_of_pos_right h1) h
theorem crK (hk : k = a + i) (hi : i < n - a) : k < n:=by subst hk;exact Nat.add_lt_of_lt_sub' hi
theorem crK1 (hk : k = a + i) (ha : 1 ≤ a) : 1 ≤ k:=hk ▸ Nat.le_trans ha (Nat.le_add_right _ _)
theorem crK2 (hk : k = a + i) : k + 1 = a + (i + 1):=by rw [hk,Nat.add_assoc]
theorem crK3 (hk : k = a + (n - a)) (ha : a ≤ n) : k ≤ n:=Nat.le_of_eq (hk.trans (Nat.add_sub_cancel' ha))
end
section
variable {lo hi n o hint : Nat}
theorem gA (h : ¬ o ≥ n - hint) : hint + o < n:=Nat.add_lt_of_lt_sub' (Nat.lt_of_not_le h)
theorem gB (hh : hint < n) : hint + min o (n - hint) ≤ n:=Nat.le_trans (Nat.add_le_add_left (Nat.min_le_right _ _) hint) (Nat.le_of_eq (Nat.add_sub_cancel' (Nat.le_of_lt hh)))
theorem gC (hl : ¬ lo ≥ hi) : lo + (hi - lo) / 2 < hi:=Nat.add_lt_of_lt_sub' (Nat.div_lt_self (Nat.sub_pos_of_lt (Nat.lt_of_not_le hl)) (by decide))
end
theorem tot_gallop {N : Nat} {I : SI} {left : Bool} {key : Nat} {a : Array Nat} {base n hint : Nat} {P : (KI → Option Nat) → SI → Prop} (hk : key < N) (ha : ∀ i,i < a.size → a.getD i 0 < N) (hb : base + n ≤ a.size) (hh : hint < n)
    (h : ∀ k,k ≤ n → P (fun _=>some k) I) : Tot N (fun e=>(sortPriv% PySem.Builtin.gallop) left (e.it key) (a.map e.it) base n hint) I P:=by
  have bey : ∀ (i : Nat) (P : (KI → Option Bool) → SI → Prop),i < n → (∀ b,P (fun _=>some b) I) → Tot N (fun e=>(do
      let x ← (sortPriv% PySem.Builtin.elem) (a.map e.it) (base + i)
      if left = true then (sortPriv% PySem.Builtin.lt) x (e.it key)
        else do
          let c ← (sortPriv% PySem.Builtin.lt) (e.it key) x
          pure (Option.map (fun x=>!x) c) : StateT SortSt Sem (Option Bool))) I P:=by
    intro i P hi hP
    refine tot_elemB (crB hb hi) ?_
    have hx:=ha (base + i) (crB hb hi)
    cases left with
    | true =>
      simp only [if_true]
      exact tot_lt hx hk hP
    | false =>
      simp only [Bool.false_eq_true,if_false]
      refine tot_ltB hk hx fun b=>?_
      exact tot_pure (hP (!b))
  have go : ∀ G,G = (sortPriv% PySem.Builtin.gallop) → Tot N (fun e=>G left (e.it key) (a.map e.it) base n hint) I P:=by
    intro G hG
    conv at hG=>rhs;whnf
    subst hG
    dsimp only
    refine tot_bind (bey _ _ hh fun right=>?_)
    cases right with
    | true =>
      simp only [if_true]
      refine tot_loop2 (fun _ _=>True) (fun _ _=>True) trivial (fun x l o _=>?_) (fun _ _ h=>h) fun l o _=>?_
      · dsimp only
        refine tot_ite (fun _=>tot_pure (.d trivial)) fun hl=>tot_bind (bey _ _ (gA hl) fun more=>?_)
        cases more
        · exact tot_pure (.d trivial)
        · exact tot_pure (.y trivial)
      dsimp only
      refine tot_loop2 (fun _ hi=>hi ≤ n) (fun _ hi=>hi ≤ n) (gB hh) (fun x lo hi hhi=>?_) (fun _ _ h=>h) fun lo hi hhi=>tot_pure (h _ hhi)
      dsimp only
      refine tot_ite (fun _=>tot_pure (.d hhi)) fun hl=>tot_bind (bey _ _ (Nat.lt_of_lt_of_le (gC hl) hhi) fun more=>?_)
      cases more
      · exact tot_pure (.y (Nat.le_trans (Nat.le_of_lt (gC hl)) hhi))
      · exact tot_pure (.y hhi)
    | false =>
      simp only [Bool.false_eq_true,if_false]
      refine tot_loop2 (fun _ _=>True) (fun _ _=>True) trivial (fun x l o _=>?_) (fun _ _ h=>h) fun l o _=>?_
      · dsimp only
        refine tot_ite (fun _=>tot_pure (.d trivial)) fun hl=>tot_bind (bey _ _ (Nat.lt_of_le_of_lt (Nat.sub_le _ _) hh) fun more=>?_)
        cases more
        · exact tot_pure (.y trivial)
        · exact tot_pure (.d trivial)
      refine tot_loop2 (fun _ hi=>hi ≤ n) (fun _ hi=>hi ≤ n) (Nat.le_trans (Nat.sub_le _ _) (Nat.le_of_lt hh)) (fun x lo hi hhi=>?_) (fun _ _ h=>h) fun lo hi hhi=>tot_pure (h _ hhi)
      dsimp only
      refine tot_ite (fun _=>tot_pure (.d hhi)) fun hl=>tot_bind (bey _ _ (Nat.lt_of_lt_of_le (gC hl) hhi) fun more=>?_)
      cases more
      · exact tot_pure (.y (Nat.le_trans (Nat.le_of_lt (gC hl)) hhi))
      · exact tot_pure (.y hhi)
  exact go _ rfl
end
section
noncomputable def AV (N : Nat) (a : Array Nat) : Prop:=∀ i,i < a.size → a.getD i 0 < N
section
variable {N : Nat} {a b : Array Nat} {k : Nat}
theorem av_mem : AV N a ↔ ∀ x ∈ a,x < N:=by
  constructor
  · intro h x hx
    obtain ⟨i,hi,rfl⟩:=Array.mem_iff_getElem.mp hx
    have:=h i hi
    simpa [Array.getD,hi] using this
  · intro h i hi
    have e : a.getD i 0 = a[i]:=by simp [Array.getD,hi]
    rw [e]
    exact h _ (Array.getElem_mem hi)
theorem av_push (h : AV N a) (hk : k < N) : AV N (a.push k):=by
  rw [av_mem] at h ⊢
  intro x hx
  rcases Array.mem_push.mp hx with hx | rfl
  · exact h x hx
  · exact hk
theorem av_append (h : AV N a) (h2 : AV N b) : AV N (a ++ b):=by
  rw [av_mem] at h h2 ⊢
  intro x hx
  rcases Array.mem_append.mp hx with hx | hx
  · exact h x hx
  · exact h2 x hx
theorem av_extract (h : AV N a) {i j : Nat} : AV N (a.extract i j):=by
  rw [av_mem] at h ⊢
  intro x hx
  obtain ⟨k,hk,rfl⟩:=Array.mem_iff_getElem.mp hx
  rw [Array.getElem_extract]
  exact h _ (Array.getElem_mem _)
theorem av_reverse (h : AV N a) : AV N a.reverse:=by
  rw [av_mem] at h ⊢
  intro x hx
  exact h x (Array.mem_reverse.mp hx)
theorem av_one (hk : k < N) : AV N #[k]:=by
  rw [av_mem]
  intro x hx
  rw [Array.mem_singleton.mp hx];exact hk
theorem map_one {e : KI} : #[e.it k] = (#[k]).map e.it:=by simp
theorem map_push {e : KI} : (a.map e.it).push (e.it k) = (a.push k).map e.it:=by simp
theorem map_app {e : KI} : a.map e.it ++ b.map e.it = (a ++ b).map e.it:=by simp
theorem map_ext {e : KI} {i j : Nat} : (a.map e.it).extract i j = (a.extract i j).map e.it:=by simp
theorem map_rev {e : KI} : (a.map e.it).reverse = a.reverse.map e.it:=by simp
end
theorem tot_setgB {β : Type} {N : Nat} {I : SI} {g : Nat} {k : KI → Unit → StateT SortSt Sem β} {P : (KI → β) → SI → Prop} (h : Tot N (fun e=>k e ()) { I with g:=g } P) : Tot N (fun e=>(sortPriv% PySem.Builtin.setMinGallop) g >>= k e) I P:=by
  obtain ⟨t,h1,h2⟩:=h
  exact ⟨t,h1,fun prog w A E e Q s h=>kasC_bind (kasC_modify (h2 prog w A E e Q s h))⟩
section
variable {α γ : Type} {N : Nat} {I : SI} {P : (KI → α) → SI → Prop}
theorem tot_itee {c : KI → Prop} {d : ∀ e,Decidable (c e)} {x y : KI → StateT SortSt Sem α} {c0 : Prop} (hc : ∀ e,c e ↔ c0) (h1 : c0 → Tot N x I P) (h2 : ¬ c0 → Tot N y I P) : Tot N (fun e=>@ite _ (c e) (d e) (x e) (y e)) I P:=by
  by_cases h : c0
  · simp only [if_pos ((hc _).mpr h)];exact h1 h
  · simp only [if_neg (fun g=>h ((hc _).mp g))];exact h2 h
noncomputable def IsV (N : Nat) (O : KI → Array Keyed) : Prop:=∃ o,AV N o ∧ O = fun e=>o.map e.it
theorem isV_map {o : Array Nat} (h : AV N o) : IsV N fun e=>o.map e.it:=⟨o,h,rfl⟩
theorem isV_one {k : Nat} (hk : k < N) : IsV N fun e=>#[e.it k]:=⟨#[k],av_one hk,funext fun e=>map_one⟩
theorem isV_push {O : KI → Array Keyed} {k : Nat} (h : IsV N O) (hk : k < N) : IsV N fun e=>(O e).push (e.it k):=by
  obtain ⟨o,ho,rfl⟩:=h
  exact ⟨_,av_push ho hk,funext fun e=>map_push⟩
theorem isV_app {O O2 : KI → Array Keyed} (h : IsV N O) (h2 : IsV N O2) : IsV N fun e=>O e ++ O2 e:=by
  obtain ⟨o,ho,rfl⟩:=h
  obtain ⟨o2,ho2,rfl⟩:=h2
  exact ⟨_,av_append ho ho2,funext fun e=>map_app⟩
theorem isV_ext {O : KI → Array Keyed} {i : Nat} {j : KI → Nat} {j0 : Nat} (h : IsV N O) (hj : ∀ e,j e = j0) : IsV N fun e=>(O e).extract i (j e):=by
  obtain ⟨o,ho,rfl⟩:=h
  exact ⟨_,av_extract (i:=i) (j:=j0) ho,funext fun e=>by rw [hj];exact map_ext⟩
theorem isV_rev {O : KI → Array Keyed} (h : IsV N O) : IsV N fun e=>(O e).reverse:=by
  obtain ⟨o,ho,rfl⟩:=h
  exact ⟨_,av_reverse ho,funext fun e=>map_rev⟩
theorem isV_app3 {O O2 O3 : KI → Array Keyed} (h : IsV N O) (h2 : IsV N O2) (h3 : IsV N O3) : IsV N fun e=>O e ++ O2 e ++ O3 e:=isV_app (isV_app h h2) h3
theorem tot_key1 {c : Nat → Prop} {d : Nat → KI → ∀ n,Decidable (c n)} {x : Nat → KI → StateT SortSt Sem α} {y : Nat → KI → StateT SortSt Sem α} (hy : ∀ n,Tot N (y n) I P) (hx : ∀ n,(∀ n,Tot N (y n) I P) → c n → Tot N (x n) I P) :
    ∀ n,Tot N (fun e=>@ite _ (c n) (d n e n) (x n e) (y n e)) I P:=fun n=>tot_ite (fun hc=>hx n hy hc) fun _=>hy n
theorem tot_key2 (C : Nat → Prop) {C' : Nat → Prop} {c : Prop} {d : KI → Decidable c} {x : (KI → Array Keyed) → Nat → KI → StateT SortSt Sem α} {y : (KI → Array Keyed) → Nat → KI → StateT SortSt Sem α}
    (hc : ∀ n,C' n → C n) (hy : ∀ O n,IsV N O → C n → Tot N (y O n) I P) (hx : ∀ O n,(∀ O n,IsV N O → C n → Tot N (y O n) I P) → IsV N O → C' n → c → Tot N (x O n) I P) :
    ∀ O n,IsV N O → C' n → Tot N (fun e=>@ite _ c (d e) (x O n e) (y O n e)) I P:=fun O n hO hC=>tot_ite (fun h=>hx O n hy hO hC h) fun _=>hy O n hO (hc n hC)
end
theorem tot_gallop' {N : Nat} {I : SI} {left : Bool} {key : Nat} {a : Array Nat} {base hint : Nat} {n : KI → Nat} {P : (KI → Option Nat) → SI → Prop} (n0 : Nat) (hn : ∀ e,n e = n0) (hk : key < N) (ha : ∀ i,i < a.size → a.getD i 0 < N) (hb : base + n0 ≤ a.size) (hh : hint < n0)
    (h : ∀ k,k ≤ n0 → P (fun _=>some k) I) : Tot N (fun e=>(sortPriv% PySem.Builtin.gallop) left (e.it key) (a.map e.it) base (n e) hint) I P:=by
  have e : n = fun _=>n0:=funext hn
  subst e
  exact tot_gallop hk ha hb hh h
theorem sz_eq {a : Array Nat} {i : Nat} (e : KI) : ((i == (a.map e.it).size) = true) ↔ i = a.size:=by simp
theorem sz_map {a : Array Nat} (e : KI) : (a.map e.it).size = a.size:=Array.size_map
theorem sz_sub {a : Array Nat} {i : Nat} (e : KI) : (a.map e.it).size - i = a.size - i:=by simp
theorem eq_c {i j : Nat} (_ : KI) : ((i == j) = true) ↔ i = j:=by simp
theorem tot_rangeZ {β : Type} {N : Nat} {I : SI} {z : KI → Nat} (z0 : Nat) {f : KI → Nat → β → StateT SortSt Sem (ForInStep β)} {P : (KI → β) → SI → Prop} {b : KI → β} (hz : ∀ e,z e = z0) (Inv : Nat → (KI → β) → SI → Prop) (h0 : Inv 0 b I)
    (step : ∀ i x b I,i < z0 → Inv i b I → Tot N (fun e=>f e x (b e)) I (fun r I'=>(∃ b',(r = fun e=>ForInStep.yield (b' e)) ∧ Inv (i + 1) b' I') ∨ (∃ b',(r = fun e=>ForInStep.done (b' e)) ∧ P b' I')))
    (fin : ∀ b I,Inv z0 b I → P b I) : Tot N (fun e=>forIn [:z e] (b e) (f e)) I P:=by
  have e : z = fun _=>z0:=funext hz
  subst e
  exact tot_range Inv h0 step fin
theorem sz_add {a b : Array Nat} (e : KI) : (a.map e.it).size + (b.map e.it).size = a.size + b.size:=by simp
inductive StepR {δ : Type} (N : Nat) (I : SI) (enc : (KI → Array Keyed) → Nat → Nat → Nat → Nat → Nat → KI → δ) (Inv Out : Nat → Nat → Prop) : (KI → ForInStep (Option (Array Keyed) × δ)) → SI → Prop
  | y {g i j m p q : Nat} {O : KI → Array Keyed} : IsV N O → Inv i j → StepR N I enc Inv Out (fun e=>ForInStep.yield (none,enc O i j m p q e)) { I with g:=g }
  | o {g i j m p q : Nat} {O : KI → Array Keyed} : IsV N O → Out i j → StepR N I enc Inv Out (fun e=>ForInStep.done (none,enc O i j m p q e)) { I with g:=g }
  | e {g : Nat} {O : KI → Array Keyed} {rest : KI → δ} : IsV N O → StepR N I enc Inv Out (fun e=>ForInStep.done (some (O e),rest e)) { I with g:=g }
inductive LoopI {δ : Type} (N : Nat) (I : SI) (enc : (KI → Array Keyed) → Nat → Nat → Nat → Nat → Nat → KI → δ) (Inv : Nat → Nat → Prop) : (KI → Option (Array Keyed) × δ) → SI → Prop
  | i {g i j m p q : Nat} {O : KI → Array Keyed} : IsV N O → Inv i j → LoopI N I enc Inv (fun e=>(none,enc O i j m p q e)) { I with g:=g }
inductive LoopO {δ : Type} (N : Nat) (I : SI) (enc : (KI → Array Keyed) → Nat → Nat → Nat → Nat → Nat → KI → δ) (Out : Nat → Nat → Prop) : (KI → Option (Array Keyed) × δ) → SI → Prop
  | o {g i j m p q : Nat} {O : KI → Array Keyed} : IsV N O → Out i j → LoopO N I enc Out (fun e=>(none,enc O i j m p q e)) { I with g:=g }
  | e {g : Nat} {O : KI → Array Keyed} {rest : KI → δ} : IsV N O → LoopO N I enc Out (fun e=>(some (O e),rest e)) { I with g:=g }
section
variable {δ γ : Type} {N g i j m p q : Nat} {I : SI} {enc : (KI → Array Keyed) → Nat → Nat → Nat → Nat → Nat → KI → δ} {Inv Out : Nat → Nat → Prop} {O : KI → Array Keyed}
theorem stepY (ho : IsV N O) (h : Inv i j) : Tot N (fun e=>pure (ForInStep.yield (none,enc O i j m p q e))) { I with g:=g } (StepR N I enc Inv Out):=tot_pure (.y ho h)
theorem stepO (ho : IsV N O) (h : Out i j) : Tot N (fun e=>pure (ForInStep.done (none,enc O i j m p q e))) { I with g:=g } (StepR N I enc Inv Out):=tot_pure (.o ho h)
theorem stepE {rest : KI → δ} (ho : IsV N O) : Tot N (fun e=>pure (ForInStep.done (some (O e),rest e))) { I with g:=g } (StepR N I enc Inv Out):=tot_pure (.e ho)
theorem tot_loopM {z : KI → Nat} (z0 : Nat) {f : KI → Nat → Option (Array Keyed) × δ → StateT SortSt Sem (ForInStep (Option (Array Keyed) × δ))} {k : KI → Option (Array Keyed) × δ → StateT SortSt Sem γ} {P : (KI → γ) → SI → Prop}
    (enc : (KI → Array Keyed) → Nat → Nat → Nat → Nat → Nat → KI → δ) (Inv : Nat → Nat → Nat → Prop) (Out : Nat → Nat → Prop) {b0 : KI → Option (Array Keyed) × δ} (hz : ∀ e,z e = z0) (hb : ∀ e,b0 e = (none,enc O i j m p q e)) (ho : IsV N O) (h0 : Inv 0 i j)
    (step : ∀ n x g O i j m p q,n < z0 → IsV N O → Inv n i j → Tot N (fun e=>f e x (none,enc O i j m p q e)) { I with g:=g } (StepR N I enc (Inv (n + 1)) Out))
    (fin : ∀ i j,Inv z0 i j → Out i j) (k1 : ∀ g O (rest : KI → δ),IsV N O → Tot N (fun e=>k e (some (O e),rest e)) { I with g:=g } P)
    (k2 : ∀ g O i j m p q,IsV N O → Out i j → Tot N (fun e=>k e (none,enc O i j m p q e)) { I with g:=g } P) :
    Tot N (fun e=>forIn [:z e] (b0 e) (f e) >>= k e) { I with g:=g } P:=by
  have hb':=funext hb
  subst hb'
  refine tot_bind (Tot.mono (tot_rangeZ z0 (b:=fun e=>(none,enc O i j m p q e)) (P:=LoopO N I enc Out) hz (fun n=>LoopI N I enc (Inv n)) (.i ho h0) (fun n x b I2 hn hI=>?_) (fun b I2 hI=>?_)) (fun b I2 hI=>?_))
  · cases hI with
    | i ho hi =>
      refine Tot.mono (step n x _ _ _ _ _ _ _ hn ho hi) fun r I' hs=>?_
      cases hs with
      | y ho hi=>exact .inl ⟨_,rfl,.i ho hi⟩
      | o ho hi=>exact .inr ⟨_,rfl,.o ho hi⟩
      | e ho=>exact .inr ⟨_,rfl,.e ho⟩
  · cases hI with
    | i ho hi=>exact .o ho (fin _ _ hi)
  · cases hI with
    | o ho hi=>exact k2 _ _ _ _ _ _ _ ho hi
    | e ho=>exact k1 _ _ _ ho
end
noncomputable def LoP (A B c i j : Nat) : Prop:=i + 1 < A ∧ j < B ∧ c ≤ i + j
noncomputable def HiP (A B c i j : Nat) : Prop:=1 ≤ i ∧ i ≤ A ∧ 2 ≤ j ∧ j ≤ B ∧ c + i + j ≤ A + B
section
variable {A B c i j k n : Nat}
theorem loW (h : LoP A B (c + 1) i j) : LoP A B c i j:=⟨h.1,h.2.1,Nat.le_of_succ_le h.2.2⟩
theorem loI (h : LoP A B c i j) (hq : ¬ i + 1 + 1 = A) : LoP A B (c + 1) (i + 1) j:=⟨Nat.lt_of_le_of_ne h.1 hq,h.2.1,Nat.le_trans (Nat.succ_le_succ h.2.2) (Nat.le_of_eq (Nat.succ_add i j).symm)⟩
theorem loJ (h : LoP A B c i j) (hq : ¬ j + 1 = B) : LoP A B (c + 1) i (j + 1):=⟨h.1,Nat.lt_of_le_of_ne h.2.1 hq,Nat.succ_le_succ h.2.2⟩
theorem sub_room (h : i ≤ A) (hk : k ≤ A - i) : i + k ≤ A:=Nat.le_trans (Nat.add_le_add_left hk i) (Nat.le_of_eq (Nat.add_sub_of_le h))
theorem loK (h : LoP A B c i j) (hk : k ≤ A - i) (hq : ¬ i + k + 1 = A) (hq2 : ¬ i + k = A) : LoP A B c (i + k) j :=
  ⟨Nat.lt_of_le_of_ne (Nat.lt_of_le_of_ne (sub_room (Nat.le_of_succ_le (Nat.le_of_lt h.1)) hk) hq2) hq,h.2.1,Nat.le_trans h.2.2 (Nat.add_le_add_right (Nat.le_add_right i k) j)⟩
theorem loL (h : LoP A B c i j) (hk : k ≤ B - j) (hq : ¬ j + k = B) : LoP A B c i (j + k) :=
  ⟨h.1,Nat.lt_of_le_of_ne (sub_room (Nat.le_of_lt h.2.1) hk) hq,Nat.le_trans h.2.2 (Nat.le_trans (Nat.le_add_right _ k) (Nat.le_of_eq (Nat.add_assoc i j k)))⟩
theorem hiW (h : HiP A B (c + 1) i j) : HiP A B c i j:=⟨h.1,h.2.1,h.2.2.1,h.2.2.2.1,Nat.le_trans (Nat.add_le_add_right (Nat.add_le_add_right (Nat.le_succ c) i) j) h.2.2.2.2⟩
theorem hiI (h : HiP A B c i j) (hq : ¬ i - 1 = 0) : HiP A B (c + 1) (i - 1) j:=by
  obtain ⟨a,b,c,d,e⟩:=h
  cases i with
  | zero=>omega
  | succ i=>exact ⟨Nat.pos_of_ne_zero hq,Nat.le_of_succ_le b,c,d,by show _ + 1 + i + j ≤ _;omega⟩
theorem hiJ (h : HiP A B c i j) (hq : ¬ j - 1 = 1) : HiP A B (c + 1) i (j - 1):=by
  obtain ⟨a,b,c,d,e⟩:=h
  cases j with
  | zero=>omega
  | succ j=>exact ⟨a,b,Nat.lt_of_le_of_ne (Nat.le_of_succ_le_succ c) (Ne.symm hq),Nat.le_of_succ_le d,by show _ + 1 + i + j ≤ _;omega⟩
theorem hiK (h : HiP A B c i j) (hk : k ≤ i) (hq : ¬ k = 0) : HiP A B c k j:=⟨Nat.pos_of_ne_zero hq,Nat.le_trans hk h.2.1,h.2.2.1,h.2.2.2.1,Nat.le_trans (Nat.add_le_add_right (Nat.add_le_add_left hk c) j) h.2.2.2.2⟩
theorem hiL (h : HiP A B c i j) (hk : k ≤ j) (hq : ¬ k = 1) (hq2 : ¬ k = 0) : HiP A B c i k:=⟨h.1,h.2.1,Nat.lt_of_le_of_ne (Nat.pos_of_ne_zero hq2) (Ne.symm hq),Nat.le_trans hk h.2.2.2.1,Nat.le_trans (Nat.add_le_add_left hk _) h.2.2.2.2⟩
theorem pre_lt (h : 1 ≤ i) (h2 : i ≤ A) : i - 1 < A:=Nat.lt_of_lt_of_le (Nat.sub_lt h Nat.one_pos) h2
theorem gal_a (h : i < A) : i + (A - i) ≤ A:=Nat.le_of_eq (Nat.add_sub_of_le (Nat.le_of_lt h))
end
theorem tot_mergeLo {N : Nat} {I : SI} {a b : Array Nat} {P : (KI → Array Keyed) → SI → Prop} (ha : AV N a) (hb : AV N b) (h1 : 1 ≤ a.size) (h2 : 1 ≤ b.size)
    (h : ∀ o g,AV N o → P (fun e=>o.map e.it) { I with g:=g }) : Tot N (fun e=>(sortPriv% PySem.Builtin.mergeLo) (a.map e.it) (b.map e.it)) I P:=by
  have h' : ∀ O g,IsV N O → P O { I with g:=g }:=by
    rintro _ g ⟨o,ho,rfl⟩;exact h o g ho
  have va:=isV_map ha
  have vb:=isV_map hb
  clear h
  have go : ∀ G,G = (sortPriv% PySem.Builtin.mergeLo) → Tot N (fun e=>G (a.map e.it) (b.map e.it)) I P:=by
    intro G hG
    conv at hG=>rhs;whnf
    subst hG
    refine tot_rule ?_
    refine tot_elemB h2 ?_
    refine tot_itee sz_eq (fun e1=>?_) fun e1=>tot_itee sz_eq (fun e2=>?_) fun e2=>?_
    · exact tot_pure (h' _ I.g (isV_app3 (isV_one (hb _ h2)) (isV_ext va sz_map) (isV_ext vb sz_map)))
    · exact tot_pure (h' _ I.g (isV_app3 (isV_one (hb _ h2)) (isV_ext vb sz_map) (isV_ext va sz_map)))
    refine tot_getB ?_
    refine tot_loopM (I:=I) (g:=I.g) (p:=0) (q:=0) (m:=I.g) (i:=0) (j:=1) (a.size + b.size) (fun O i j m _ _ e=>(O e,i,j,m)) (fun n i j=>LoP a.size b.size n i j) (fun _ _=>False) sz_add (fun _=>rfl) (isV_one (hb _ h2)) ⟨Nat.lt_of_le_of_ne h1 e2,Nat.lt_of_le_of_ne h2 e1,Nat.zero_le _⟩ ?_ (fun _ _ h=>by have h:=id h;unfold LoP at h;omega) (fun _ _ _ ho=>tot_pure (h' _ _ ho)) (fun _ _ _ _ _ _ _ _ hf=>hf.elim)
    clear h' e1 e2 h1 h2
    intro i x g o ia ib mg _ _ hi ho hx
    dsimp only
    refine tot_loopM (I:=I) (g:=g) (m:=0) (a.size + b.size) (fun O i j _ p q e=>(O e,i,j,p,q)) (fun n ia ib=>LoP a.size b.size i ia ib ∧ (0 < n → LoP a.size b.size (i + 1) ia ib)) (fun ia ib=>LoP a.size b.size (i + 1) ia ib) sz_add (fun _=>rfl) ho ⟨hx,fun h=>absurd h (Nat.lt_irrefl _)⟩ ?_ (fun _ _ h=>h.2 (Nat.add_pos_left (Nat.lt_of_le_of_lt (Nat.zero_le _) h.1.1) _)) (fun _ _ _ ho=>stepE ho) ?_
    · clear hx ho hi
      intro n x g o ia ib _ ac bc hn ho hx
      clear hn
      replace hx:=hx.1
      have y1 : ia < a.size:=Nat.lt_of_succ_lt hx.1
      dsimp only
      refine tot_elemB hx.2.1 (tot_elemB y1 (tot_ltB (hb _ hx.2.1) (ha _ y1) fun c=>?_))
      refine tot_ite (fun hc=>tot_elemB hx.2.1 ?_) fun hc=>tot_elemB y1 ?_
      · have ho2:=isV_push ho (hb _ hx.2.1)
        exact tot_itee sz_eq (fun hq=>stepE (isV_app3 ho2 (isV_ext va sz_map) (isV_ext vb sz_map))) fun hq=>tot_ite (fun hq2=>stepO (m:=0) ho2 (loJ hx hq)) fun hq2=>stepY (m:=0) ho2 ⟨loW (loJ hx hq),fun _=>loJ hx hq⟩
      · have ho2:=isV_push ho (ha _ y1)
        exact tot_itee sz_eq (fun hq=>stepE (isV_app3 ho2 (isV_ext vb sz_map) (isV_ext va sz_map))) fun hq=>tot_ite (fun hq2=>stepO (m:=0) ho2 (loI hx hq)) fun hq2=>stepY (m:=0) ho2 ⟨loW (loI hx hq),fun _=>loI hx hq⟩
    clear hx ho hi
    intro g o ia ib _ ac bc ho hx
    refine tot_rule ?_
    refine tot_loopM (I:=I) (g:=g) (a.size + b.size) (fun O i j m p q e=>(O e,i,j,m,p,q)) (fun _ ia ib=>LoP a.size b.size (i + 1) ia ib) (fun ia ib=>LoP a.size b.size (i + 1) ia ib) sz_add (fun _=>rfl) ho hx ?_ (fun _ _ h=>h) (fun _ _ _ ho=>stepE ho) ?_
    rotate_left
    · clear hx ho
      intro g o ia ib mg _ _ ho hx
      dsimp only
      exact tot_setgB (stepY (p:=0) (q:=0) ho hx)
    clear hx ho
    intro n x g o ia ib mg ac bc hn ho hx
    clear hn
    dsimp only
    revert mg
    refine tot_key1 (fun m9=>?_) fun _ hJ _=>hJ _
    refine tot_setgB (tot_elemB hx.2.1 ?_)
    have y0 : ia < a.size:=Nat.lt_of_succ_lt hx.1
    refine tot_bind (tot_gallop' (a.size - ia) sz_sub (hb _ hx.2.1) ha (gal_a y0) (Nat.sub_pos_of_lt y0) fun k hk=>?_)
    dsimp only
    have hC : LoP a.size b.size (i + 1) ia ib ∧ k ≤ a.size - ia:=⟨hx,hk⟩
    clear hx hk y0
    revert hC;revert ho;revert ia;revert o
    refine tot_key2 (fun ia=>LoP a.size b.size (i + 1) ia ib) (fun _ h=>h.1) ?_ ?_
    rotate_left
    · intro o ia hJ ho hC hk0
      have ho2:=isV_app ho (isV_ext (i:=ia) (j:=fun _=>ia + k) va fun _=>rfl)
      exact tot_itee sz_eq (fun hq=>stepE (isV_app3 ho2 (isV_ext vb sz_map) (isV_ext va sz_map))) fun hq=>tot_itee sz_eq (fun hq2=>stepE (isV_app3 ho2 (isV_ext va sz_map) (isV_ext vb sz_map))) fun hq2=>hJ _ _ ho2 (loK hC.1 hC.2 hq hq2)
    intro o ia ho hx
    have y1 : ia < a.size:=Nat.lt_of_succ_lt hx.1
    refine tot_elemB hx.2.1 ?_
    have ho2:=isV_push ho (hb _ hx.2.1)
    refine tot_itee sz_eq (fun hq=>stepE (isV_app3 ho2 (isV_ext va sz_map) (isV_ext vb sz_map))) fun hq=>tot_elemB y1 ?_
    have y2 : ib + 1 < b.size:=Nat.lt_of_le_of_ne hx.2.1 hq
    refine tot_bind (tot_gallop' (b.size - (ib + 1)) sz_sub (ha _ y1) hb (gal_a y2) (Nat.sub_pos_of_lt y2) fun k2 hk2=>?_)
    dsimp only
    have hC : LoP a.size b.size (i + 1) ia (ib + 1) ∧ k2 ≤ b.size - (ib + 1):=⟨loW (loJ hx hq),hk2⟩
    clear hx hk2 hq ho y2
    generalize hoe : (fun (e : KI)=>(o e).push (e.it (b.getD ib 0))) = o2 at ho2
    replace hoe:=fun e=>congrFun hoe e
    simp only [hoe]
    clear hoe o
    generalize ib + 1 = ib2 at hC ⊢
    revert hC;revert ho2;revert ib2;revert o2
    refine tot_key2 (fun ib=>LoP a.size b.size (i + 1) ia ib) (fun _ h=>h.1) ?_ ?_
    rotate_left
    · intro o ib hJ ho hC hk0
      have ho2:=isV_app ho (isV_ext (i:=ib) (j:=fun _=>ib + k2) vb fun _=>rfl)
      exact tot_itee sz_eq (fun hq=>stepE (isV_app3 ho2 (isV_ext va sz_map) (isV_ext vb sz_map))) fun hq=>hJ _ _ ho2 (loL hC.1 hC.2 hq)
    intro o ib ho hx
    refine tot_elemB y1 ?_
    have ho2:=isV_push ho (ha _ y1)
    exact tot_itee sz_eq (fun hq=>stepE (isV_app3 ho2 (isV_ext vb sz_map) (isV_ext va sz_map))) fun hq=>tot_ite (fun hq2=>stepO ho2 (loW (loI hx hq))) fun hq2=>stepY ho2 (loW (loI hx hq))
  exact go _ rfl
theorem tot_elemB' {β : Type} {N : Nat} {I : SI} {a : Array Nat} {i : KI → Nat} {i0 : Nat} {k : KI → Keyed → StateT SortSt Sem β} {P : (KI → β) → SI → Prop} (hi0 : ∀ e,i e = i0) (hi : i0 < a.size) (h : Tot N (fun e=>k e (e.it (a.getD i0 0))) I P) :
    Tot N (fun e=>(sortPriv% PySem.Builtin.elem) (a.map e.it) (i e) >>= k e) I P:=by
  have e : i = fun _=>i0:=funext hi0
  subst e
  exact tot_elemB hi h
theorem sz_c {a : Array Nat} {i j : Nat} (e : KI) : (((a.map e.it).size - i == j) = true) ↔ a.size - i = j:=by simp
theorem sz_d {a : Array Nat} {j : Nat} (e : KI) : (((a.map e.it).size == j) = true) ↔ a.size = j:=by simp
theorem tot_mergeHi {N : Nat} {I : SI} {a b : Array Nat} {P : (KI → Array Keyed) → SI → Prop} (ha : AV N a) (hb : AV N b) (h1 : 1 ≤ a.size) (h2 : 1 ≤ b.size)
    (h : ∀ o g,AV N o → P (fun e=>o.map e.it) { I with g:=g }) : Tot N (fun e=>(sortPriv% PySem.Builtin.mergeHi) (a.map e.it) (b.map e.it)) I P:=by
  have h' : ∀ O g,IsV N O → P O { I with g:=g }:=by
    rintro _ g ⟨o,ho,rfl⟩;exact h o g ho
  have va:=isV_map ha
  have vb:=isV_map hb
  clear h
  have hl : a.size - 1 < a.size:=by omega
  have done : ∀ {O} i j,IsV N O → IsV N fun e=>(a.map e.it).extract 0 i ++ (b.map e.it).extract 0 j ++ (O e).reverse:=fun i j ho=>isV_app3 (isV_ext va fun _=>rfl) (isV_ext vb fun _=>rfl) (isV_rev ho)
  have fob : ∀ {O} i j,IsV N O → IsV N fun e=>(b.map e.it).extract 0 j ++ (a.map e.it).extract 0 i ++ (O e).reverse:=fun i j ho=>isV_app3 (isV_ext vb fun _=>rfl) (isV_ext va fun _=>rfl) (isV_rev ho)
  have go : ∀ G,G = (sortPriv% PySem.Builtin.mergeHi) → Tot N (fun e=>G (a.map e.it) (b.map e.it)) I P:=by
    intro G hG
    conv at hG=>rhs;whnf
    subst hG
    refine tot_rule ?_
    refine tot_elemB' sz_sub hl ?_
    have v1:=isV_one (hb _ h2)
    have v0:=isV_one (ha _ hl)
    refine tot_itee sz_c (fun e1=>?_) fun e1=>tot_itee sz_d (fun e2=>?_) fun e2=>?_
    · exact tot_pure (h' _ I.g (isV_app3 (isV_ext va sz_sub) (isV_ext vb sz_map) (isV_rev v0)))
    · exact tot_pure (h' _ I.g (isV_app3 (isV_ext vb sz_map) (isV_ext va sz_sub) (isV_rev v0)))
    refine tot_getB ?_
    refine tot_loopM (I:=I) (g:=I.g) (p:=0) (q:=0) (m:=I.g) (i:=a.size - 1) (j:=b.size) (a.size + b.size) (fun O i j m _ _ e=>(i,j,O e,m)) (fun n i j=>HiP a.size b.size n i j) (fun _ _=>False) sz_add (fun _=>by rw [sz_map,sz_map];rfl) v0 (by unfold HiP;omega) ?_ (fun _ _ h=>by have h:=id h;unfold HiP at h;omega) (fun _ _ _ ho=>tot_pure (h' _ _ ho)) (fun _ _ _ _ _ _ _ _ hf=>hf.elim)
    clear h' e1 e2 h1 h2 hl v0 v1
    intro i x g o na nb mg _ _ hi ho hx
    dsimp only
    refine tot_loopM (I:=I) (g:=g) (m:=0) (a.size + b.size) (fun O i j _ p q e=>(i,j,O e,p,q)) (fun n na nb=>HiP a.size b.size i na nb ∧ (0 < n → HiP a.size b.size (i + 1) na nb)) (fun na nb=>HiP a.size b.size (i + 1) na nb) sz_add (fun _=>rfl) ho ⟨hx,fun h=>absurd h (Nat.lt_irrefl _)⟩ ?_ (fun _ _ h=>h.2 (Nat.add_pos_left (Nat.le_trans h.1.1 h.1.2.1) _)) (fun _ _ _ ho=>stepE ho) ?_
    · clear hx ho hi
      intro n x g o na nb _ ac bc hn ho hx
      clear hn
      replace hx:=hx.1
      have y1 : na - 1 < a.size:=pre_lt hx.1 hx.2.1
      have y2 : nb - 1 < b.size:=pre_lt (Nat.le_of_succ_le hx.2.2.1) hx.2.2.2.1
      dsimp only
      refine tot_elemB y2 (tot_elemB y1 (tot_ltB (hb _ y2) (ha _ y1) fun c=>?_))
      refine tot_ite (fun hc=>tot_elemB y1 ?_) fun hc=>tot_elemB y2 ?_
      · have ho2:=isV_push ho (ha _ y1)
        exact tot_itee eq_c (fun hq=>stepE (done _ _ ho2)) fun hq=>tot_ite (fun hq2=>stepO (m:=0) ho2 (hiI hx hq)) fun hq2=>stepY (m:=0) ho2 ⟨hiW (hiI hx hq),fun _=>hiI hx hq⟩
      · have ho2:=isV_push ho (hb _ y2)
        exact tot_itee eq_c (fun hq=>stepE (fob _ _ ho2)) fun hq=>tot_ite (fun hq2=>stepO (m:=0) ho2 (hiJ hx hq)) fun hq2=>stepY (m:=0) ho2 ⟨hiW (hiJ hx hq),fun _=>hiJ hx hq⟩
    clear hx ho hi
    intro g o na nb _ ac bc ho hx
    refine tot_rule ?_
    refine tot_loopM (I:=I) (g:=g) (a.size + b.size) (fun O i j m p q e=>(i,j,O e,m,p,q)) (fun _ na nb=>HiP a.size b.size (i + 1) na nb) (fun na nb=>HiP a.size b.size (i + 1) na nb) sz_add (fun _=>rfl) ho hx ?_ (fun _ _ h=>h) (fun _ _ _ ho=>stepE ho) ?_
    rotate_left
    · clear hx ho
      intro g o ia ib mg _ _ ho hx
      dsimp only
      exact tot_setgB (stepY (p:=0) (q:=0) ho hx)
    clear hx ho
    intro n x g o na nb mg ac bc hn ho hx
    clear hn
    dsimp only
    revert mg
    refine tot_key1 (fun m9=>?_) fun _ hJ _=>hJ _
    have y2 : nb - 1 < b.size:=pre_lt (Nat.le_of_succ_le hx.2.2.1) hx.2.2.2.1
    refine tot_setgB (tot_elemB y2 ?_)
    refine tot_bind (tot_gallop (hb _ y2) ha (Nat.le_trans (Nat.le_of_eq (Nat.zero_add na)) hx.2.1) (Nat.sub_lt hx.1 Nat.one_pos) fun k hk=>?_)
    dsimp +instances only
    generalize na - k = kk
    have hC : HiP a.size b.size (i + 1) na nb ∧ k ≤ na:=⟨hx,hk⟩
    clear hx hk
    revert hC;revert ho;revert na;revert o
    refine tot_key2 (fun na=>HiP a.size b.size (i + 1) na nb) (fun _ h=>h.1) ?_ ?_
    rotate_left
    · intro o na hJ ho hC hk0
      have ho2:=isV_app ho (isV_rev (isV_ext (i:=k) (j:=fun _=>na) va fun _=>rfl))
      exact tot_itee eq_c (fun hq=>stepE (done _ _ ho2)) fun hq=>hJ _ _ ho2 (hiK hC.1 hC.2 hq)
    intro o na ho hx
    have y1 : na - 1 < a.size:=pre_lt hx.1 hx.2.1
    refine tot_elemB y2 ?_
    have ho2:=isV_push ho (hb _ y2)
    refine tot_itee eq_c (fun hq=>stepE (fob _ _ ho2)) fun hq=>tot_elemB y1 ?_
    have y3 : 1 ≤ nb - 1:=Nat.le_sub_of_add_le hx.2.2.1
    refine tot_bind (tot_gallop (ha _ y1) hb (Nat.le_trans (Nat.le_of_eq (Nat.zero_add _)) (Nat.le_of_lt y2)) (Nat.sub_lt y3 Nat.one_pos) fun k2 hk2=>?_)
    dsimp +instances only
    have hC : HiP a.size b.size (i + 1) na (nb - 1) ∧ k2 ≤ nb - 1:=⟨hiW (hiJ hx hq),hk2⟩
    clear hx hk2 hq ho y3
    generalize hoe : (fun (e : KI)=>(o e).push (e.it (b.getD (nb - 1) 0))) = o2 at ho2
    replace hoe:=fun e=>congrFun hoe e
    simp only [hoe]
    clear hoe o y2
    generalize nb - 1 = nb2 at hC ⊢
    generalize nb2 - k2 = kk2
    revert hC;revert ho2;revert nb2;revert o2
    refine tot_key2 (fun nb=>HiP a.size b.size (i + 1) na nb) (fun _ h=>h.1) ?_ ?_
    rotate_left
    · intro o nb hJ ho hC hk0
      have ho2:=isV_app ho (isV_rev (isV_ext (i:=k2) (j:=fun _=>nb) vb fun _=>rfl))
      exact tot_itee eq_c (fun hq=>stepE (fob _ _ ho2)) fun hq=>tot_itee eq_c (fun hq2=>stepE (done _ _ ho2)) fun hq2=>hJ _ _ ho2 (hiL hC.1 hC.2 hq hq2)
    intro o nb ho hx
    refine tot_elemB y1 ?_
    have ho2:=isV_push ho (ha _ y1)
    exact tot_itee eq_c (fun hq=>stepE (done _ _ ho2)) fun hq=>tot_ite (fun hq2=>stepO ho2 (hiW (hiI hx hq))) fun hq2=>stepY ho2 (hiW (hiI hx hq))
  exact go _ rfl
end
section
noncomputable def Runs : Nat → List (Nat × Nat × Nat) → Nat → Prop
  | st,[],e=>st = e
  | st,(s,n,_) :: r,e=>s = st ∧ 1 ≤ n ∧ Runs (st + n) r e
theorem runs_le : ∀ {l : List (Nat × Nat × Nat)} {st e : Nat},Runs st l e → st ≤ e
  | [],_,_,h=>Nat.le_of_eq h
  | (s,n,p) :: r,st,e,⟨_,_,h⟩=>Nat.le_trans (Nat.le_add_right _ _) (runs_le h)
theorem runs_two : ∀ {l : List (Nat × Nat × Nat)} {st e i sa na p sb nb q : Nat},Runs st l e → l[i]? = some (sa,na,p) → l[i + 1]? = some (sb,nb,q) →
    1 ≤ na ∧ sb = sa + na ∧ 1 ≤ nb ∧ sb + nb ≤ e ∧ Runs st ((l.set i (sa,na + nb,p)).eraseIdx (i + 1)) e
  | (s,n,p0) :: (s2,n2,p2) :: r,st,e,0,sa,na,p,sb,nb,q,⟨h1,h2,h3,h4,h5⟩,a,b=>by
    simp only [List.getElem?_cons_zero,Option.some.injEq,Prod.mk.injEq,List.getElem?_cons_succ,Nat.zero_add] at a b
    obtain ⟨rfl,rfl,rfl⟩:=a
    obtain ⟨rfl,rfl,rfl⟩:=b
    have:=runs_le h5
    refine ⟨h2,by omega,h4,by omega,?_⟩
    simp only [List.set_cons_zero,List.eraseIdx_cons_succ,List.eraseIdx_cons_zero,Runs]
    exact ⟨h1,by omega,by rw [← Nat.add_assoc];exact h5⟩
  | (s,n,p0) :: r,st,e,i + 1,sa,na,p,sb,nb,q,⟨h1,h2,h3⟩,a,b=>by
    simp only [List.getElem?_cons_succ] at a b
    obtain ⟨x1,x2,x3,x4,x5⟩:=runs_two h3 a b
    refine ⟨x1,x2,x3,x4,?_⟩
    simp only [List.set_cons_succ,List.eraseIdx_cons_succ,Runs]
    exact ⟨h1,h2,x5⟩
  | [_],_,_,0,_,_,_,_,_,_,_,_,b=>by simp at b
theorem runs_push : ∀ {l : List (Nat × Nat × Nat)} {st e n p : Nat},Runs st l e → 1 ≤ n → Runs st (l ++ [(e,n,p)]) (e + n)
  | [],st,e,n,p,h,hn=>⟨h.symm,hn,by rw [show st = e from h];rfl⟩
  | (s,m,p0) :: r,st,e,n,p,⟨h1,h2,h3⟩,hn=>⟨h1,h2,runs_push h3 hn⟩
theorem runs_modify {f : Nat × Nat × Nat → Nat × Nat × Nat} (hf : ∀ a b c,∃ d,f (a,b,c) = (a,b,d)) : ∀ {l : List (Nat × Nat × Nat)} {st e i : Nat},Runs st l e → Runs st (l.modify i f) e
  | [],st,e,i,h=>by simpa using h
  | (s,n,p) :: r,st,e,0,⟨h1,h2,h3⟩=>by
    obtain ⟨d,hd⟩:=hf s n p
    rw [List.modify_zero_cons,hd]
    exact ⟨h1,h2,h3⟩
  | (s,n,p) :: r,st,e,i + 1,⟨h1,h2,h3⟩=>by
    rw [List.modify_succ_cons]
    exact ⟨h1,h2,runs_modify hf h3⟩

section
variable {N : Nat} {I : SI}
theorem av_swap {a : Array Nat} (h : AV N a) {i j : Nat} : AV N (a.swapIfInBounds i j):=by
  rw [av_mem] at h ⊢
  intro x hx
  rw [Array.swapIfInBounds_def] at hx
  split at hx
  · split at hx
    · exact h x ((Array.swap_perm _ _).mem_iff.mp hx)
    · exact h x hx
  · exact h x hx
theorem av_swaps {u v : Nat → Nat} : ∀ (l : List Nat) {a : Array Nat},AV N a → AV N (l.foldl (fun a k=>a.swapIfInBounds (u k) (v k)) a)
  | [],_,h=>h
  | _ :: l,_,h=>av_swaps l (av_swap h)
theorem sz_swaps {u v : Nat → Nat} : ∀ (l : List Nat) {a : Array Nat},(l.foldl (fun a k=>a.swapIfInBounds (u k) (v k)) a).size = a.size
  | [],_=>rfl
  | k :: l,a=>by rw [List.foldl_cons,sz_swaps l];simp
theorem tot_reverseB {β : Type} {i j : Nat} {k : KI → Unit → StateT SortSt Sem β} {P : (KI → β) → SI → Prop} (h0 : AV N I.p) (h : ∀ p',AV N p' → p'.size = I.p.size → Tot N (fun e=>k e ()) { I with p:=p' } P) :
    Tot N (fun e=>(sortPriv% PySem.Builtin.reverseSlice) i j >>= k e) I P:=by
  refine tot_modifyB (f:=fun _ s=>setArr s (mirror (arrOf s) i j ((j - i) / 2))) { I with p:=(List.range ((j - i) / 2)).foldl (fun a k=>a.swapIfInBounds (i + k) (j - 1 - k)) I.p } (fun e=>?_) (h _ (av_swaps _ h0) (sz_swaps _))
  show SortSt.mk' e.κ (mirror (I.p.map e.it) i j ((j - i) / 2)) I.pend I.g none = SortSt.mk' e.κ (((List.range ((j - i) / 2)).foldl (fun a k=>a.swapIfInBounds (i + k) (j - 1 - k)) I.p).map e.it) I.pend I.g none
  rw [← kas_swaps_map e.it (fun k=>i + k) (fun k=>j - 1 - k)]
  rfl
theorem tot_moveB {β : Type} {i j : Nat} {k : KI → Unit → StateT SortSt Sem β} {P : (KI → β) → SI → Prop} (h0 : AV N I.p) (h : ∀ p',AV N p' → p'.size = I.p.size → Tot N (fun e=>k e ()) { I with p:=p' } P) :
    Tot N (fun e=>(sortPriv% PySem.Builtin.moveDown) i j >>= k e) I P:=by
  refine tot_modifyB (f:=fun _ s=>setArr s (bubble (arrOf s) i (i - j))) { I with p:=(List.range (i - j)).foldl (fun a k=>a.swapIfInBounds (i - k) (i - k - 1)) I.p } (fun e=>?_) (h _ (av_swaps _ h0) (sz_swaps _))
  show SortSt.mk' e.κ (bubble (I.p.map e.it) i (i - j)) I.pend I.g none = SortSt.mk' e.κ (((List.range (i - j)).foldl (fun a k=>a.swapIfInBounds (i - k) (i - k - 1)) I.p).map e.it) I.pend I.g none
  rw [← kas_swaps_map e.it (fun k=>i - k) (fun k=>i - k - 1)]
  rfl
theorem tot_ltAtB {β : Type} {i j : Nat} {k : KI → Option Bool → StateT SortSt Sem β} {P : (KI → β) → SI → Prop} (h0 : AV N I.p) (hi : i < I.p.size) (hj : j < I.p.size) (h : ∀ b,Tot N (fun e=>k e (some b)) I P) :
    Tot N (fun e=>(sortPriv% PySem.Builtin.ltAt) i j >>= k e) I P:=by
  refine tot_bind ?_
  show Tot N (fun e=>ltAt' i j) I _
  simp only [ltAt'_eq]
  refine tot_getB ?_
  show Tot N (fun e=>(sortPriv% PySem.Builtin.elem) (I.p.map e.it) i >>= fun x=>(sortPriv% PySem.Builtin.elem) (I.p.map e.it) j >>= fun y=>(sortPriv% PySem.Builtin.lt) x y) I _
  exact tot_elemB hi (tot_elemB hj (tot_lt (h0 _ hi) (h0 _ hj) h))
end
end
section
theorem tot_range2 {N : Nat} {I : SI} {β : Type} {a z : Nat} {f : KI → Nat → β → StateT SortSt Sem (ForInStep β)} {P : (KI → β) → SI → Prop} {b : KI → β} (Inv : Nat → (KI → β) → SI → Prop) (h0 : Inv 0 b I)
    (step : ∀ i b I,i < z - a → Inv i b I → Tot N (fun e=>f e (a + i) (b e)) I (fun r I'=>(∃ b',(r = fun e=>ForInStep.yield (b' e)) ∧ Inv (i + 1) b' I') ∨ (∃ b',(r = fun e=>ForInStep.done (b' e)) ∧ P b' I')))
    (fin : ∀ b I,Inv (z - a) b I → P b I) : Tot N (fun e=>forIn [a:z] (b e) (f e)) I P:=by
  have main : ∀ (k i : Nat) (b : KI → β) (I : SI),i + k = z - a → Inv i b I → Tot N (fun e=>forIn (List.range' (a + i) k) (b e) (f e)) I P:=by
    intro k
    induction k with
    | zero =>
      intro i b I hl h
      simp only [List.range'_zero,List.forIn_nil]
      exact tot_pure (fin b I (by rw [← hl];exact h))
    | succ k ih =>
      intro i b I hl h
      simp only [List.range'_succ,List.forIn_cons]
      refine tot_bind (k:=fun e r=>match r with | .done b=>pure b | .yield b=>forIn (List.range' (a + i + 1) k) b (f e)) (Tot.mono (step i b I (by omega) h) fun r I' hr=>?_)
      rcases hr with ⟨b',rfl,hI⟩ | ⟨b',rfl,hp⟩
      · exact ih (i + 1) b' I' (by omega) hI
      · exact tot_pure hp
  have h:=main (z - a) 0 b I (by omega) h0
  refine h.imp fun t ht=>⟨ht.1,fun prog w A E e Q s hs=>kasC_range (ht.2 prog w A E e Q s hs)⟩
theorem tot_join {α : Type} {N : Nat} {I : SI} {c : Prop} {d : KI → Decidable c} {x T : KI → StateT SortSt Sem α} {P : (KI → α) → SI → Prop} (h0 : AV N I.p) (hx : c → (∀ p1,AV N p1 → p1.size = I.p.size → Tot N T { I with p:=p1 } P) → Tot N x I P)
    (ht : ∀ p1,AV N p1 → p1.size = I.p.size → Tot N T { I with p:=p1 } P) : Tot N (fun e=>@ite _ c (d e) (x e) (T e)) I P:=tot_ite (fun h=>hx h ht) fun _=>ht I.p h0 rfl
inductive LJ {γ δ : Type} (enc : Nat → Nat → δ) (R R2 : Nat → Nat → SI → Prop) : (KI → ForInStep (Option γ × δ)) → SI → Prop
  | y {k q : Nat} {J : SI} (h : R k q J) : LJ enc R R2 (fun _=>.yield (none,enc k q)) J
  | d {k q : Nat} {J : SI} (h : R2 k q J) : LJ enc R R2 (fun _=>.done (none,enc k q)) J
inductive GJ {γ δ : Type} (enc : Nat → Nat → δ) (R : Nat → Nat → SI → Prop) : (KI → Option γ × δ) → SI → Prop
  | g {k q : Nat} {J : SI} (h : R k q J) : GJ enc R (fun _=>(none,enc k q)) J
theorem tot_loopJ {γ δ β : Type} {N : Nat} {I : SI} {a z k0 q0 : Nat} {f : KI → Nat → Option γ × δ → StateT SortSt Sem (ForInStep (Option γ × δ))} {K : KI → Option γ × δ → StateT SortSt Sem β} {P : (KI → β) → SI → Prop} (enc : Nat → Nat → δ) (R : Nat → Nat → Nat → SI → Prop) (R2 : Nat → Nat → SI → Prop) (h0 : R 0 k0 q0 I)
    (step : ∀ i k q J,i < z - a → R i k q J → Tot N (fun e=>f e (a + i) (none,enc k q)) J (LJ enc (R (i + 1)) R2)) (fin : ∀ k q J,R (z - a) k q J → R2 k q J) (hk : ∀ k q J,R2 k q J → Tot N (fun e=>K e (none,enc k q)) J P) :
    Tot N (fun e=>forIn [a:z] (none,enc k0 q0) (f e) >>= K e) I P:=by
  refine tot_bind (Tot.mono (tot_range2 (b:=fun _=>(none,enc k0 q0)) (P:=GJ enc R2) (fun i=>GJ enc (R i)) (.g h0) (fun i b I' hi hI=>?_) fun b I' hI=>?_) fun b I' hI=>?_)
  · cases hI with
    | g h =>
      refine Tot.mono (step i _ _ _ hi h) fun r I' hr=>?_
      cases hr with
      | y h=>exact .inl ⟨_,rfl,.g h⟩
      | d h=>exact .inr ⟨_,rfl,.g h⟩
  · cases hI with | g h=>exact .g (fin _ _ _ h)
  · cases hI with | g h=>exact hk _ _ _ h
structure CR (N : Nat) (I J : SI) : Prop where
  av : AV N J.p
  sz : J.p.size = I.p.size
  eq : J = { I with p:=J.p }
theorem CR.set {N : Nat} {I J : SI} {p : Array Nat} (c : CR N I J) (h : AV N p) (hs : p.size = J.p.size) : CR N I { J with p:=p }:=⟨h,hs.trans c.sz,by show { J with p:=p } = { I with p:=p };rw [c.eq]⟩
theorem CR.room {N lo n : Nat} {I J : SI} (c : CR N I J) (h : lo + n ≤ I.p.size) : lo + n ≤ J.p.size:=Nat.le_trans h (Nat.le_of_eq c.sz.symm)
theorem tot_countRun {N : Nat} {I : SI} {lo n : Nat} {P : (KI → Option Nat) → SI → Prop} (h0 : AV N I.p) (h1 : 1 ≤ n) (h2 : lo + n ≤ I.p.size)
    (h : ∀ k p',1 ≤ k → k ≤ n → AV N p' → p'.size = I.p.size → P (fun _=>some k) { I with p:=p' }) : Tot N (fun _=>(sortPriv% PySem.Builtin.countRun) lo n) I P:=by
  have go : ∀ G,G = (sortPriv% PySem.Builtin.countRun) → Tot N (fun _=>G lo n) I P:=by
    intro G hG
    conv at hG=>rhs;whnf
    subst hG
    have hP : ∀ {k : Nat} {J : SI},CR N I J → 1 ≤ k → k ≤ n → P (fun _=>some k) J:=fun c a b=>by have x:=h _ _ a b c.av c.sz;rw [← c.eq] at x;exact x
    refine tot_loopJ (q0:=0) (fun k _=>k) (fun i k _ J=>CR N I J ∧ k = 1 + i) (fun k _ J=>CR N I J ∧ 1 ≤ k ∧ k ≤ n) ⟨⟨h0,rfl,rfl⟩,rfl⟩ (fun i k _ J hi hR=>?_) (fun k _ J hR=>⟨hR.1,crK1 hR.2 (Nat.le_refl _),crK3 hR.2 h1⟩) fun k _ J hR=>?_
    · have hm:=hR.1.room h2
      refine tot_ltAtB hR.1.av (crB hm (crK hR.2 hi)) (crB1 hm (crK hR.2 hi)) fun c=>?_
      exact tot_ite (fun hc=>tot_pure (.d (q:=0) ⟨hR.1,crK1 hR.2 (Nat.le_refl _),Nat.le_of_lt (crK hR.2 hi)⟩)) fun hc=>tot_pure (.y (q:=0) ⟨hR.1,crK2 hR.2⟩)
    refine tot_ite (fun hq=>tot_pure (hP hR.1 hR.2.1 hR.2.2)) fun hq=>?_
    simp only [beq_iff_eq] at hq
    have hm:=hR.1.room h2
    refine tot_join hR.1.av (fun hk tl=>?_) fun p1 hp1 hs1=>?_
    · refine tot_ltAtB hR.1.av (crB0 hm h1) (crB2 hm hR.2.1 hR.2.2) fun c=>?_
      exact tot_ite (fun hc=>tot_pure (hP hR.1 hR.2.1 hR.2.2)) fun hc=>tot_reverseB hR.1.av fun p1 hp1 hs1=>tl p1 hp1 hs1
    refine tot_rule ?_
    have hkn : k + 1 ≤ n:=Nat.lt_of_le_of_ne hR.2.2 hq
    have hk1 : 1 ≤ k + 1:=Nat.succ_le_succ (Nat.zero_le k)
    refine tot_loopJ (q0:=0) (fun k q=>(k,q)) (fun i k3 _ J=>CR N I J ∧ k3 = k + 1 + i) (fun k3 _ J=>CR N I J ∧ 1 ≤ k3 ∧ k3 ≤ n) ⟨hR.1.set hp1 hs1,rfl⟩ (fun i k3 q3 J hi hR=>?_) (fun k _ J hR=>⟨hR.1,crK1 hR.2 hk1,crK3 hR.2 hkn⟩) fun k3 q3 J hR=>?_
    · have hm:=hR.1.room h2
      have h3:=crK hR.2 hi
      refine tot_ltAtB hR.1.av (crB hm h3) (crB1 hm h3) fun c=>?_
      refine tot_ite (fun hc=>tot_ite (fun hq3=>tot_reverseB hR.1.av fun p4 hp4 hs4=>tot_pure (.y ⟨hR.1.set hp4 hs4,crK2 hR.2⟩)) fun hq3=>tot_pure (.y ⟨hR.1,crK2 hR.2⟩)) fun hc=>?_
      refine tot_ltAtB hR.1.av (crB1 hm h3) (crB hm h3) fun c=>?_
      exact tot_ite (fun hc=>tot_pure (.d ⟨hR.1,crK1 hR.2 hk1,Nat.le_of_lt h3⟩)) fun hc=>tot_pure (.y ⟨hR.1,crK2 hR.2⟩)
    refine tot_join hR.1.av (fun hq3 tl=>tot_reverseB hR.1.av fun p4 hp4 hs4=>tl p4 hp4 hs4) fun p4 hp4 hs4=>?_
    refine tot_reverseB hp4 fun p5 hp5 hs5=>?_
    refine tot_loopJ (q0:=0) (fun k _=>k) (fun i k _ J=>CR N I J ∧ k = k3 + i) (fun k _ J=>CR N I J ∧ 1 ≤ k ∧ k ≤ n) ⟨(hR.1.set hp4 hs4).set hp5 hs5,rfl⟩ (fun i k _ J hi hS=>?_) (fun k _ J hS=>⟨hS.1,crK1 hS.2 hR.2.1,crK3 hS.2 hR.2.2⟩) fun k _ J hS=>tot_pure (hP hS.1 hS.2.1 hS.2.2)
    have hm:=hS.1.room h2
    have h3:=crK hS.2 hi
    refine tot_ltAtB hS.1.av (crB hm h3) (crB1 hm h3) fun c=>?_
    exact tot_ite (fun hc=>tot_pure (.d (q:=0) ⟨hS.1,crK1 hS.2 hR.2.1,Nat.le_of_lt h3⟩)) fun hc=>tot_pure (.y (q:=0) ⟨hS.1,crK2 hS.2⟩)
  exact go _ rfl
end
section
theorem biM {l r k : Nat} (h : ¬ l ≥ r) (hr : r ≤ k) : (l + r) / 2 < k:=Nat.div_lt_of_lt_mul (by rw [Nat.two_mul];exact Nat.add_lt_add_of_lt_of_le (Nat.lt_of_lt_of_le (Nat.lt_of_not_le h) hr) hr)
theorem tot_binary {N : Nat} {I : SI} {lo n ok : Nat} {P : (KI → Bool) → SI → Prop} (h0 : AV N I.p) (h2 : lo + n ≤ I.p.size)
    (h : ∀ p',AV N p' → p'.size = I.p.size → P (fun _=>true) { I with p:=p' }) : Tot N (fun _=>(sortPriv% PySem.Builtin.binarySort) lo n ok) I P:=by
  have go : ∀ G,G = (sortPriv% PySem.Builtin.binarySort) → Tot N (fun _=>G lo n ok) I P:=by
    intro G hG
    conv at hG=>rhs;whnf
    subst hG
    refine tot_loopJ (k0:=0) (q0:=0) (fun _ _=>()) (fun _ _ _ J=>CR N I J) (fun _ _ J=>CR N I J) ⟨h0,rfl,rfl⟩ (fun i _ _ J hi hR=>?_) (fun _ _ _ h=>h) fun _ _ J hR=>tot_pure (by have x:=h _ hR.av hR.sz;rw [← hR.eq] at x;exact x)
    refine tot_loopJ (fun l r=>(l,r)) (fun _ _ r J=>CR N I J ∧ r ≤ max ok 1 + i) (fun _ _ J=>CR N I J) ⟨hR,Nat.le_refl _⟩ (fun j l r J hj hS=>?_) (fun _ _ _ h=>h.1) fun l r J hS=>?_
    · refine tot_ite (fun hlr=>tot_pure (.d hS.1)) fun hlr=>?_
      have hm:=hS.1.room h2
      have hk:=crK rfl hi
      refine tot_ltAtB hS.1.av (crB hm hk) (crB hm (Nat.lt_trans (biM hlr hS.2) hk)) fun c=>?_
      exact tot_ite (fun hc=>tot_pure (.y ⟨hS.1,Nat.le_of_lt (biM hlr hS.2)⟩)) fun hc=>tot_pure (.y ⟨hS.1,hS.2⟩)
    exact tot_moveB hS.av fun p4 hp4 hs4=>tot_pure (.y (k:=0) (q:=0) (hS.set hp4 hs4))
  exact go _ rfl
theorem put_map {a : Array Nat} {e : KI} {sa : Nat} : ∀ (l : List (Nat × Nat)),(l.map (fun x=>(e.it x.1,x.2))).foldl (fun a x=>a.setIfInBounds (sa + x.2) x.1) (a.map e.it) = (l.foldl (fun a x=>a.setIfInBounds (sa + x.2) x.1) a).map e.it:=by
  intro l
  induction l generalizing a with
  | nil=>rfl
  | cons x l ih =>
    rw [List.map_cons,List.foldl_cons,List.foldl_cons,← ih]
    congr 1
    simp
theorem put_size {sa : Nat} : ∀ (l : List (Nat × Nat)) (a : Array Nat),(l.foldl (fun a x=>a.setIfInBounds (sa + x.2) x.1) a).size = a.size
  | [],_=>rfl
  | x :: l,a=>by rw [List.foldl_cons,put_size l];simp
theorem put_av {N sa : Nat} : ∀ (l : List (Nat × Nat)) (a : Array Nat),AV N a → (∀ x ∈ l,x.1 < N) → AV N (l.foldl (fun a x=>a.setIfInBounds (sa + x.2) x.1) a)
  | [],_,h,_=>h
  | x :: l,a,h,hl=>by
    rw [List.foldl_cons]
    refine put_av l _ ?_ fun y hy=>hl y (.tail _ hy)
    rw [av_mem] at h ⊢
    intro y hy
    rcases Array.mem_or_eq_of_mem_setIfInBounds hy with hy | rfl
    · exact h y hy
    · exact hl x (.head _)
section
variable {sa na sb nb k s : Nat}
theorem mA1 (h2 : sb = sa + na) (h3 : 1 ≤ nb) (h4 : sb + nb ≤ s) (hk : k ≤ na) : sa + k + (na - k) - 1 < s:=by rw [Nat.add_assoc,Nat.add_sub_cancel' hk,← h2];exact Nat.lt_of_le_of_lt (Nat.sub_le _ _) (crB0 h4 h3)
theorem mA2 (h2 : sb = sa + na) (h4 : sb + nb ≤ s) (hz : ¬ na - k = 0) : 1 ≤ min sb s - (sa + k):=by rw [Nat.min_eq_left (Nat.le_trans (Nat.le_add_right sb nb) h4),h2,Nat.add_sub_add_left];exact Nat.pos_of_ne_zero hz
theorem mA3 (h4 : sb + nb ≤ s) (hk : k ≤ nb) (hz : ¬ k = 0) : 1 ≤ min (sb + k) s - sb:=by rw [Nat.min_eq_left (Nat.le_trans (Nat.add_le_add_left hk sb) h4),Nat.add_sub_cancel_left];exact Nat.pos_of_ne_zero hz
theorem mA4 (h2 : sb = sa + na) (h4 : sb + nb ≤ s) : sa + na ≤ s:=h2 ▸ Nat.le_trans (Nat.le_add_right sb nb) h4
end
theorem tot_mergeAt {N : Nat} {I : SI} {i sa na pw sb nb pw2 : Nat} {P : (KI → Bool) → SI → Prop} (h0 : AV N I.p) (hp : I.pend[i]? = some (sa,na,pw)) (hq : I.pend[i + 1]? = some (sb,nb,pw2)) (h1 : 1 ≤ na) (h2 : sb = sa + na) (h3 : 1 ≤ nb) (h4 : sb + nb ≤ I.p.size)
    (h : ∀ p' g,AV N p' → p'.size = I.p.size → P (fun _=>true) ⟨p',(I.pend.setIfInBounds i (sa,na + nb,pw)).eraseIdxIfInBounds (i + 1),g⟩) : Tot N (fun _=>(sortPriv% PySem.Builtin.mergeAt) i) I P:=by
  have go : ∀ G,G = (sortPriv% PySem.Builtin.mergeAt) → Tot N (fun _=>G i) I P:=by
    intro G hG
    conv at hG=>rhs;whnf
    subst hG
    refine tot_getB ?_
    dsimp only [siR]
    simp only [hp,hq]
    refine tot_setB { I with pend:=(I.pend.setIfInBounds i (sa,na + nb,pw)).eraseIdxIfInBounds (i + 1) } (fun e=>rfl) ?_
    refine tot_elemB (crB0 h4 h3) ?_
    refine tot_bind (tot_gallop (h0 _ (crB0 h4 h3)) h0 (mA4 h2 h4) h1 fun k hk=>?_)
    refine tot_ite (fun hz=>?_) fun hz=>?_
    · exact tot_pure (h _ _ h0 rfl)
    simp only [beq_iff_eq] at hz
    refine tot_elemB (mA1 h2 h3 h4 hk) ?_
    refine tot_bind (tot_gallop (h0 _ (mA1 h2 h3 h4 hk)) h0 h4 (Nat.sub_lt h3 Nat.one_pos) fun nb' hk2=>?_)
    refine tot_ite (fun hz2=>?_) fun hz2=>?_
    · exact tot_pure (h _ _ h0 rfl)
    simp only [beq_iff_eq] at hz2
    simp only [map_ext]
    have s1 : 1 ≤ (I.p.extract (sa + k) sb).size:=by rw [Array.size_extract];exact mA2 h2 h4 hz
    have s2 : 1 ≤ (I.p.extract sb (sb + nb')).size:=by rw [Array.size_extract];exact mA3 h4 hk2 hz2
    have fin : ∀ (o : Array Nat) (g : Nat),AV N o → Tot N (fun e=>(modify (fun s=>SortSt.mk' (kindOf s) (List.foldl (fun a x=>a.setIfInBounds (sa + k + x.snd) x.fst) (arrOf s) (o.map e.it).toList.zipIdx) (pendingOf s) (gallopOf s) (failedOf s)) >>= fun _=>get >>= fun s=>pure (failedOf s).isNone : StateT SortSt Sem Bool))
        { p:=I.p,pend:=(I.pend.setIfInBounds i (sa,na + nb,pw)).eraseIdxIfInBounds (i + 1),g:=g } P:=by
      intro o g ho
      refine tot_modifyB ⟨o.toList.zipIdx.foldl (fun a x=>a.setIfInBounds (sa + k + x.2) x.1) I.p,(I.pend.setIfInBounds i (sa,na + nb,pw)).eraseIdxIfInBounds (i + 1),g⟩ (fun e=>?_) (tot_getB (tot_pure (h _ _ ?_ ?_)))
      · show SortSt.mk' e.κ (List.foldl (fun a x=>a.setIfInBounds (sa + k + x.snd) x.fst) (I.p.map e.it) (o.map e.it).toList.zipIdx) _ g none = SortSt.mk' e.κ _ _ g none
        rw [← put_map]
        congr 2
        rw [Array.toList_map,List.zipIdx_map]
        rfl
      · exact put_av _ _ h0 fun x hx=>(av_mem.mp ho) _ (by
          have:=List.fst_mem_of_mem_zipIdx hx
          simpa using this)
      · exact put_size _ _
    refine tot_ite (fun hle=>?_) fun hle=>?_
    · exact tot_bind (tot_mergeLo (av_extract h0) (av_extract h0) s1 s2 fun o g ho=>fin o g ho)
    · exact tot_bind (tot_mergeHi (av_extract h0) (av_extract h0) s1 s2 fun o g ho=>fin o g ho)
  exact go _ rfl
end
section
theorem tot_merge {N : Nat} {I : SI} {i lo : Nat} {P : (KI → Bool) → SI → Prop} (h0 : AV N I.p) (hr : Runs 0 I.pend.toList lo) (hlo : lo ≤ I.p.size) (hi : i + 1 < I.pend.size)
    (h : ∀ I',AV N I'.p → I'.p.size = I.p.size → Runs 0 I'.pend.toList lo → P (fun _=>true) I') : Tot N (fun _=>(sortPriv% PySem.Builtin.mergeAt) i) I P:=by
  obtain ⟨⟨sa,na,pw⟩,e1⟩ : ∃ x,I.pend[i]? = some x:=⟨I.pend[i],by simp⟩
  obtain ⟨⟨sb,nb,pw2⟩,e2⟩ : ∃ x,I.pend[i + 1]? = some x:=⟨I.pend[i + 1],by simp⟩
  obtain ⟨x1,x2,x3,x4,x5⟩:=runs_two hr (by rw [Array.getElem?_toList];exact e1) (by rw [Array.getElem?_toList];exact e2)
  refine tot_mergeAt h0 e1 e2 x1 x2 x3 (by omega) fun p' g hp hs=>h _ hp hs ?_
  have e : ((I.pend.setIfInBounds i (sa,na + nb,pw)).eraseIdxIfInBounds (i + 1)).toList = (I.pend.toList.set i (sa,na + nb,pw)).eraseIdx (i + 1):=by
    unfold Array.eraseIdxIfInBounds
    rw [dif_pos (by simpa using hi)]
    simp
  show Runs 0 ((I.pend.setIfInBounds i (sa,na + nb,pw)).eraseIdxIfInBounds (i + 1)).toList lo
  rw [e]
  exact x5
theorem tot_mergeX {N : Nat} {I : SI} {idx : KI → Nat} {lo : Nat} {P : (KI → Bool) → SI → Prop} (i : Nat) (hx : ∀ e,idx e = i) (h0 : AV N I.p) (hr : Runs 0 I.pend.toList lo) (hlo : lo ≤ I.p.size) (hi : i + 1 < I.pend.size)
    (h : ∀ I',AV N I'.p → I'.p.size = I.p.size → Runs 0 I'.pend.toList lo → P (fun _=>true) I') : Tot N (fun e=>(sortPriv% PySem.Builtin.mergeAt) (idx e)) I P:=by
  simp only [hx]
  exact tot_merge h0 hr hlo hi h
theorem tot_joinN {α : Type} {N : Nat} {I : SI} {A B c : Nat → Prop} {d : Nat → KI → ∀ n,Decidable (c n)} {x T : Nat → KI → StateT SortSt Sem α} {P : (KI → α) → SI → Prop} (h0 : AV N I.p) (hx : ∀ n,A n → B n → c n → (∀ n p1,A n → B n → AV N p1 → p1.size = I.p.size → Tot N (T n) { I with p:=p1 } P) → Tot N (x n) I P)
    (ht : ∀ n p1,A n → B n → AV N p1 → p1.size = I.p.size → Tot N (T n) { I with p:=p1 } P) : ∀ n,A n → B n → Tot N (fun e=>@ite _ (c n) (d n e n) (x n e) (T n e)) I P:=fun n a b=>tot_ite (fun h=>hx n a b h ht) fun _=>ht n I.p a b h0 rfl
section
variable {lo n s z x y : Nat}
theorem srA (hl : ¬ lo ≥ s) : 1 ≤ s - lo:=Nat.sub_pos_of_lt (Nat.lt_of_not_le hl)
theorem srB (hs : z = s) (hl : ¬ lo ≥ s) : lo + (s - lo) ≤ z:=by rw [hs,Nat.add_sub_cancel' (Nat.le_of_lt (Nat.lt_of_not_le hl))];exact Nat.le_refl _
theorem srC (n1 : 1 ≤ n) (hm : n < x) (hl : 1 ≤ y) : 1 ≤ min y x:=Nat.le_min.mpr ⟨hl,Nat.le_trans n1 (Nat.le_of_lt hm)⟩
theorem srD (hs : z = s) (hlo : lo ≤ s) : lo + min (s - lo) x ≤ z:=Nat.le_trans (Nat.add_le_add_left (Nat.min_le_left _ _) lo) (Nat.le_of_eq ((Nat.add_sub_cancel' hlo).trans hs.symm))
theorem srE (n2 : n ≤ s - lo) (hlo : lo ≤ s) : lo + n ≤ s:=Nat.le_trans (Nat.add_le_add_left n2 lo) (Nat.le_of_eq (Nat.add_sub_cancel' hlo))
theorem srF : ∀ {s : Nat},s > 1 → s - 2 + 1 < s
  | t + 2,_=>Nat.lt_succ_self (t + 1)
theorem srG : ∀ (c : Bool) (x : Nat),(if c = true then x - 1 else x) ≤ x:=by intro c x;cases c <;> simp
end
structure SR (N : Nat) (I J : SI) (lo : Nat) : Prop where
  av : AV N J.p
  sz : J.p.size = I.p.size
  le : lo ≤ I.p.size
  runs : Runs 0 J.pend.toList lo
theorem tot_sortRuns {N : Nat} {I : SI} {P : (KI → Unit) → SI → Prop} (h0 : AV N I.p) (hp : I.pend = #[]) (h : ∀ I',AV N I'.p → I'.p.size = I.p.size → P (fun _=>()) I') : Tot N (fun _=>(sortPriv% PySem.Builtin.sortRuns)) I P:=by
  have go : ∀ G,G = (sortPriv% PySem.Builtin.sortRuns) → Tot N (fun _=>G) I P:=by
    intro G hG
    have hG' : G = sortRuns':=hG
    clear hG
    rw [sortRuns'_eq] at hG'
    subst hG'
    refine tot_getB ?_
    have hsz : ∀ e : KI,(arrOf (siR e I)).size = I.p.size:=fun e=>by show (I.p.map e.it).size = _;simp
    simp only [hsz]
    refine tot_loopJ (k0:=0) (q0:=0) (fun lo _=>lo) (fun _ lo _ J=>SR N I J lo) (fun lo _ J=>SR N I J lo) ⟨h0,rfl,Nat.zero_le _,by rw [hp];rfl⟩ (fun i lo _ J hi hR=>?_) (fun _ _ _ h=>h) fun lo _ J hR=>?_
    · refine tot_ite (fun hl=>tot_pure (.d (q:=0) hR)) fun hl=>?_
      refine tot_bind (tot_countRun hR.av (srA hl) (srB hR.sz hl) fun n p3 n1 n2 hp3 hs3=>?_)
      have hs4 : p3.size = I.p.size:=hs3.trans hR.sz
      revert n
      refine tot_joinN (I:={ J with p:=p3 }) hp3 (fun n n1 n2 hm tl=>?_) fun n p7 n1 n2 hp7 hs7=>?_
      · refine tot_rule (tot_bind (tot_binary hp3 (srD hs4 hR.le) fun p7 hp7 hs7=>?_))
        refine tot_ite (fun hx=>by simp at hx) fun _=>?_
        exact tl _ p7 (srC n1 hm (srA hl)) (Nat.min_le_left _ _) hp7 hs7
      have hs8 : p7.size = I.p.size:=hs7.trans hs4
      refine tot_getB ?_
      dsimp only [siR,pendingOf,SortSt.mk']
      cases hb : J.pend.back? with
      | none =>
        refine tot_modifyB { J with p:=p7,pend:=J.pend.push (lo,n,0) } (fun e=>rfl) ?_
        exact tot_pure (.y (q:=0) ⟨hp7,hs8,srE n2 hR.le,by rw [Array.toList_push];exact runs_push hR.runs n1⟩)
      | some top =>
        refine tot_loopJ (k0:=0) (q0:=0) (fun _ _=>()) (fun _ _ _ J=>SR N I J lo) (fun _ _ J=>SR N I J lo) ⟨hp7,hs8,hR.le,hR.runs⟩ (fun i _ _ J hi hS=>?_) (fun _ _ _ h=>h) fun _ _ J hS=>?_
        · refine tot_getB ?_
          dsimp only [siR,pendingOf,SortSt.mk']
          by_cases hc : J.pend.size > 1
          · obtain ⟨⟨a1,a2,a3⟩,ea⟩ : ∃ y,J.pend[J.pend.size - 2]? = some y:=⟨J.pend[J.pend.size - 2],by simp⟩
            simp only [hc,if_true,ea]
            refine tot_ite (fun _=>tot_pure (.d (k:=0) (q:=0) hS)) fun _=>?_
            refine tot_bind (tot_merge hS.av hS.runs (Nat.le_trans hS.le (Nat.le_of_eq hS.sz.symm)) (srF hc) fun I6 hp6 hs6 hr6=>?_)
            refine tot_ite (fun hx=>by simp at hx) fun _=>?_
            exact tot_pure (.y (k:=0) (q:=0) ⟨hp6,hs6.trans hS.sz,hS.le,hr6⟩)
          · simp only [hc,if_false]
            exact tot_pure (.d (k:=0) (q:=0) hS)
        refine tot_modifyB { J with pend:=J.pend.modify (J.pend.size - 1) (fun x=>(x.1,x.2.1,power' I.p.size (2 * top.1 + top.2.1) (2 * top.1 + top.2.1 + top.2.1 + n) I.p.size)) } (fun e=>rfl) ?_
        refine tot_modifyB { J with pend:=(J.pend.modify (J.pend.size - 1) (fun x=>(x.1,x.2.1,power' I.p.size (2 * top.1 + top.2.1) (2 * top.1 + top.2.1 + top.2.1 + n) I.p.size))).push (lo,n,0) } (fun e=>rfl) ?_
        exact tot_pure (.y (q:=0) ⟨hS.av,hS.sz,srE n2 hR.le,by rw [Array.toList_push,Array.toList_modify];refine runs_push (runs_modify ?_ hS.runs) n1;exact fun a b c=>⟨_,rfl⟩⟩)
    refine tot_loopJ (k0:=0) (q0:=0) (fun _ _=>()) (fun _ _ _ J=>SR N I J lo) (fun _ _ J=>SR N I J lo) hR (fun i _ _ J hi hS=>?_) (fun _ _ _ h=>h) fun _ _ J hS=>tot_pure (h _ hS.av hS.sz)
    refine tot_getB ?_
    dsimp only [siR,pendingOf,SortSt.mk']
    refine tot_ite (fun hc=>tot_pure (.d (k:=0) (q:=0) hS)) fun hc=>?_
    refine tot_bind (tot_mergeX (if Option.any (fun x=>decide (x < J.pend[J.pend.size - 2 + 1]?.elim 0 fun x=>x.snd.fst)) (if J.pend.size - 2 > 0 then Option.map (fun x=>x.snd.fst) J.pend[J.pend.size - 2 - 1]? else none) = true then J.pend.size - 2 - 1 else J.pend.size - 2) (fun e=>rfl) hS.av hS.runs (Nat.le_trans hS.le (Nat.le_of_eq hS.sz.symm)) (Nat.lt_of_le_of_lt (Nat.succ_le_succ (srG _ _)) (srF (Nat.lt_of_not_le hc))) fun I6 hp6 hs6 hr6=>?_)
    refine tot_ite (fun hx=>by simp at hx) fun _=>?_
    exact tot_pure (.y (k:=0) (q:=0) ⟨hp6,hs6.trans hS.sz,hS.le,hr6⟩)
  exact go _ rfl
end
section
noncomputable def runT {α : Type} (f : Nat → Nat → Bool) : KasT α → α
  | .ret a=>a
  | .ask i j k=>runT f (k (f i j))
theorem runT_lv {α : Type} {N : Nat} {P : α → Prop} (f : Nat → Nat → Bool) : ∀ {t : KasT α},Lv N P t → P (runT f t)
  | .ret _,h=>h
  | .ask i j k,h=>runT_lv (t:=k (f i j)) f (h.2.2 (f i j))
theorem runT_wp {α : Type} {N : Nat} {P : α → Prop} {f : Nat → Nat → Bool} {prog : Program} {w : World} {A : Around} {e : KI} {s : Shared} (hc : ∀ i j (C : Bool → Shared → Prop),i < N → j < N → C (f i j) s → cmpI prog w A e i j C s) {Q : α → Shared → Prop} :
    ∀ {t : KasT α},Lv N P t → Q (runT f t) s → t.kasWp (cmpI prog w A e) Q s
  | .ret _,_,h=>h
  | .ask i j k,hl,h=>hc i j _ hl.1 hl.2.1 (runT_wp (t:=k (f i j)) hc (hl.2.2 _) h)
theorem srt_ex (N : Nat) : ∃ t : KasT ((KI → Unit) × SI),Lv N (fun r=>AV N r.2.p ∧ r.2.p.size = N) t ∧ Ref (fun _=>sortRuns') ⟨List.toArray (List.range N),#[],7⟩ t:=by
  refine tot_sortRuns (P:=fun _ I'=>AV N I'.p ∧ I'.p.size = N) ?_ rfl fun I' h1 h2=>⟨h1,by rw [h2];simp⟩
  rw [av_mem]
  intro x hx
  simpa using hx
noncomputable def permN (N : Nat) (f : Nat → Nat → Bool) : Array Nat:=(runT f (srt_ex N).choose).2.p
theorem permN_size {N : Nat} {f : Nat → Nat → Bool} : (permN N f).size = N:=(runT_lv f (srt_ex N).choose_spec.1).2
theorem permN_lt {N : Nat} {f : Nat → Nat → Bool} {x : Nat} (h : x ∈ permN N f) : x < N:=av_mem.mp (runT_lv f (srt_ex N).choose_spec.1).1 x h
theorem srt_run {N : Nat} {f : Nat → Nat → Bool} {prog : Program} {w : World} {A : Around} {E : Value → Shared → Prop} {e : KI} {s : Shared} (hc : ∀ i j (C : Bool → Shared → Prop),i < N → j < N → C (f i j) s → cmpI prog w A e i j C s) {Q : Unit → SortSt → Shared → Prop}
    (h : ∀ I,I.p = permN N f → Q () (siR e I) s) : kasC (model prog w) A E sortRuns' Q (siR e ⟨List.toArray (List.range N),#[],7⟩) s :=
  (srt_ex N).choose_spec.2 prog w A E e Q s (runT_wp hc (srt_ex N).choose_spec.1 (h _ rfl))
section
variable {prog : Program} {w : World} {A : Around} {E : Value → Shared → Prop} {s : Shared}
noncomputable def srtV (f : Nat → Nat → Bool) (vs : List Value) : List Value:=(permN vs.length f).toList.map fun i=>vs.getD i .none
theorem srt_list {a : Addr} {vs : List Value} {n : Nat} {κ : SortKind} {f : Nat → Nat → Bool} {P : PySem.Fin → Shared → Prop} (ho : s.heap.get? a = some (seqObj "list" vs.toArray n)) (hz : vs.length ≤ 100000)
    (hk : ∀ h' (Q' : SortKind → Shared → Prop),(∀ b o,b ≠ a → s.heap.get? b = some o → h'.get? b = some o) → 2 ≤ vs.length → Q' κ { s with heap:=h' } → wpAny (model prog w) A (keyKind' vs.toArray) Q' E { s with heap:=h' })
    (hc : ∀ h' i j (C : Bool → Shared → Prop),(∀ b o,b ≠ a → s.heap.get? b = some o → h'.get? b = some o) → i < vs.length → j < vs.length → C (f i j) { s with heap:=h' } → wpAny (model prog w) A (keyLt' κ (vs.getD i .none) (vs.getD j .none)) C (fun _ _=>False) { s with heap:=h' })
    (h : P (.done (.ret .none)) { s with heap:=sortedHeap s.heap a vs (srtV f vs).toArray }) :
    wpAny (model prog w) A (Builtin.«list.sort» ⟨[.ref a],[]⟩) P E s:=by
  rw [list_sort_plain]
  have ha : a < s.heap.objs.size:=Heap.lt_size ho
  have hz1 : vs.length ≤ sizeLine:=by rw [sizeLine_eq];omega
  have zs : vs.toArray.size = vs.length:=by simp
  refine wpAny_bind (listItems_at ho rfl ?_)
  refine wpAny_bind (listUpdate_at ho rfl ?_ (by rw [zs];exact hz1) (Nat.zero_le _))
  obtain ⟨e1,ho1⟩ : ∃ e1,(s.heap.update a (Obj.mapSeq fun _=>(#[] : Array Value))).get? a = some (seqObj "list" #[] e1):=⟨_,get?_update_seq ho (fun _=>#[])⟩
  refine wpAny_bind (seqEpoch_at ho1 rfl ?_)
  refine wpAny_bind (wpAny_newTuple ?_ hz1)
  refine wpAny_bind (wpAny_newList ?_ (Nat.zero_le _))
  refine wpAny_holding ?_
  show wpAny (model prog w) A _ P E { s with heap:=((s.heap.update a (Obj.mapSeq fun _=>(#[] : Array Value))).push (seqObj "tuple" vs.toArray 0)).push (seqObj "list" #[] 0) }
  have ho6 : (((s.heap.update a (Obj.mapSeq fun _=>(#[] : Array Value))).push (seqObj "tuple" vs.toArray 0)).push (seqObj "list" #[] 0)).get? a = some (seqObj "list" #[] e1) :=
    Heap.get?_push_of_some _ (Heap.get?_push_of_some _ ho1)
  have old : ∀ b o,b ≠ a → s.heap.get? b = some o → (((s.heap.update a (Obj.mapSeq fun _=>(#[] : Array Value))).push (seqObj "tuple" vs.toArray 0)).push (seqObj "list" #[] 0)).get? b = some o:=fun b o hb hq =>
    Heap.get?_push_of_some _ (Heap.get?_push_of_some _ (by rw [Heap.get?_update_ne _ _ _ _ hb];exact hq))
  have hsv : (srtV f vs).toArray.size ≤ sizeLine + 1:=by
    simp only [srtV,List.size_toArray,List.length_map,Array.length_toList,permN_size];omega
  by_cases h2 : vs.toArray.size < 2
  · have hp : ∀ N,N < 2 → (permN N f).toList = List.range N:=by
      intro N hN
      have hs:=permN_size (N:=N) (f:=f)
      match N,hN with
      | 0,_=>simpa using hs
      | 1,_ =>
        obtain ⟨x,hx⟩ : ∃ x,(permN 1 f).toList = [x]:=by
          have : (permN 1 f).toList.length = 1:=by simpa using hs
          exact List.length_eq_one_iff.mp this
        have hx1 : x < 1:=permN_lt (f:=f) (by rw [Array.mem_def,hx];simp)
        rw [hx]
        have : x = 0:=by omega
        rw [this];rfl
    rw [if_pos h2,if_pos h2]
    refine wpAny_bind (wpAny_pure ?_)
    dsimp only
    rw [StateT.run_pure]
    refine wpAny_bind (wpAny_pure ?_)
    have e2 : srtV f vs = vs:=by
      unfold srtV
      rw [hp _ (by rw [zs] at h2;exact h2)]
      match vs with
      | []=>rfl
      | [v]=>rfl
      | _ :: _ :: _=>simp at h2;omega
    have e3 : (arrOf (SortSt.mk' general' (vs.toArray.zip vs.toArray) #[] 7 none)).map (·.2) = (srtV f vs).toArray:=by
      rw [e2]
      show (vs.toArray.zip vs.toArray).map (·.2) = _
      exact Array.ext (by simp) fun i i1 i2=>by simp
    dsimp only
    refine wpAny_bind (seqEpoch_at ho6 rfl ?_)
    rw [e3]
    refine wpAny_bind (listUpdate_at ho6 rfl ?_ (Nat.zero_le _) hsv)
    simp only [bne_self_eq_false,Bool.false_eq_true,if_false]
    exact wpAny_pure h
  · rw [if_neg h2,if_neg h2]
    rw [zs] at h2
    refine wpAny_bind (hk _ _ old (by omega) ?_)
    have est : SortSt.mk' κ (vs.toArray.zip vs.toArray) #[] 7 none = siR ⟨κ,fun i=>(vs.getD i .none,vs.getD i .none)⟩ ⟨List.toArray (List.range vs.length),#[],7⟩:=by
      show SortSt.mk' κ (vs.toArray.zip vs.toArray) #[] 7 none = SortSt.mk' κ ((List.toArray (List.range vs.length)).map fun i=>(vs.getD i Value.none,vs.getD i Value.none)) #[] 7 none
      congr 1
      refine Array.ext (by simp) fun i i1 i2=>?_
      have hi : i < vs.length:=by simpa using i1
      simp [hi]
    dsimp only
    rw [est]
    refine wpAny_bind (wpAny_mono (srt_run (f:=f) (e:=⟨κ,fun i=>(vs.getD i .none,vs.getD i .none)⟩) (E:=E) (Q:=fun _ st' s'=>s' = { s with heap:=((s.heap.update a (Obj.mapSeq fun _=>(#[] : Array Value))).push (seqObj "tuple" vs.toArray 0)).push (seqObj "list" #[] 0) } ∧ (arrOf st').map (·.2) = (srtV f vs).toArray ∧ failedOf st' = none)
      (fun i j C hi hj hC=>hc _ i j C old hi hj hC) fun I hI=>⟨rfl,?_,rfl⟩) ?_ fun _ _ x=>x)
    · show ((I.p.map fun i=>(vs.getD i Value.none,vs.getD i Value.none)).map (·.2)) = _
      rw [hI]
      apply Array.toList_inj.mp
      simp [srtV]
    · rintro ⟨⟨⟩,st'⟩ s' ⟨rfl,a1,a2⟩
      dsimp only
      refine wpAny_bind (seqEpoch_at ho6 rfl ?_)
      rw [a1]
      refine wpAny_bind (listUpdate_at ho6 rfl ?_ (Nat.zero_le _) hsv)
      rw [a2]
      simp only [bne_self_eq_false,Bool.false_eq_true,if_false]
      exact wpAny_pure h
theorem srt_sorted {l : Addr} {vs : List Value} {κ : SortKind} {f : Nat → Nat → Bool} {Q : Value → Shared → Prop} (hl : s.heap.IsList l vs.toArray) (hz : vs.length ≤ 100000)
    (hk : ∀ h' (Q' : SortKind → Shared → Prop),(∀ b o,s.heap.get? b = some o → h'.get? b = some o) → 2 ≤ vs.length → Q' κ { s with heap:=h' } → wpAny (model prog w) A.in1.in1 (keyKind' vs.toArray) Q' (fun _ _=>False) { s with heap:=h' })
    (hc : ∀ h' i j (C : Bool → Shared → Prop),(∀ b o,s.heap.get? b = some o → h'.get? b = some o) → i < vs.length → j < vs.length → C (f i j) { s with heap:=h' } → wpAny (model prog w) A.in1.in1 (keyLt' κ (vs.getD i .none) (vs.getD j .none)) C (fun _ _=>False) { s with heap:=h' })
    (h : Q (.ref (s.heap.objs.size + 1)) { s with heap:=sortedAll s.heap vs (srtV f vs).toArray }) :
    wpAny (model prog w) A (call (.builtin "sorted") [.ref l]) Q E s:=by
  have hz1 : vs.length ≤ sizeLine:=by rw [sizeLine_eq];omega
  refine Calls.call_function_entry kind_sorted plain_sorted entry_sorted (args_sorted1 _) ?_
  unfold Builtin.«sorted»
  refine wpAny_bind (m:=checkCount "sorted" 1 1 _) (wpAny_pure ?_)
  refine wpAny_bind (collect_list hl ?_ hz1)
  refine wpAny_bind (wpAny_newList ?_ hz1)
  have hsz : ((s.heap.push (seqObj "list" #[] 0)).update s.heap.objs.size (Obj.mapSeq (· ++ vs.toArray))).objs.size = s.heap.objs.size + 1:=by
    rw [Heap.size_update,size_push']
  have hoL : (((s.heap.push (seqObj "list" #[] 0)).update s.heap.objs.size (Obj.mapSeq (· ++ vs.toArray))).push (seqObj "list" vs.toArray 0)).get? (s.heap.objs.size + 1) = some (seqObj "list" vs.toArray 0):=by
    rw [← hsz];exact Heap.get?_push_size _ rfl
  have keep : ∀ b o,s.heap.get? b = some o → (((s.heap.push (seqObj "list" #[] 0)).update s.heap.objs.size (Obj.mapSeq (· ++ vs.toArray))).push (seqObj "list" vs.toArray 0)).get? b = some o:=fun b o q=>by
    have hlt : b < s.heap.objs.size:=Heap.lt_size q
    exact Heap.get?_push_of_some _ (by rw [Heap.get?_update_ne _ _ _ _ (Nat.ne_of_lt hlt)];exact Heap.get?_push_of_some _ q)
  have keep2 : ∀ h' : Heap,(∀ b o,b ≠ s.heap.objs.size + 1 → (((s.heap.push (seqObj "list" #[] 0)).update s.heap.objs.size (Obj.mapSeq (· ++ vs.toArray))).push (seqObj "list" vs.toArray 0)).get? b = some o → h'.get? b = some o) → ∀ b o,s.heap.get? b = some o → h'.get? b = some o :=
    fun h' hh b o q=>hh b o (Nat.ne_of_lt (Nat.lt_succ_of_lt (Heap.lt_size q))) (keep b o q)
  show wpAny _ _ _ _ _ { s with heap:=((s.heap.push (seqObj "list" #[] 0)).update s.heap.objs.size (Obj.mapSeq (· ++ vs.toArray))).push (seqObj "list" vs.toArray 0) }
  rw [hsz]
  refine wpAny_bind (wpAny_holding (wpAny_call_entry slot_list_sort ⟨_,hoL,rfl⟩ entry_list_sort (wpAny_mono (srt_list (κ:=κ) (f:=f) (E:=fun _ _=>False) hoL hz (fun h' Q' hh h2 hq=>hk h' Q' (keep2 h' hh) h2 hq) (fun h' i j C hh hi hj hC=>hc h' i j C (keep2 h' hh) hi hj hC) ⟨_,rfl,wpAny_pure ⟨_,rfl,h⟩⟩) (fun _ _ x=>x) fun _ _ x=>x.elim) (args_list_sort _)))
end
end
section
noncomputable abbrev tup2 (p : Int × Int) (t u : Tok) : Obj:={ cls:=.type "tuple",data:=.seq #[.int p.1 t,.int p.2 u] }
noncomputable def TupAt (l : List (Addr × Obj)) (v : Value) (p : Int × Int) : Prop:=∃ a t u,v = .ref a ∧ (a,tup2 p t u) ∈ l
structure TupsL (l : List (Addr × Obj)) (vs : List Value) (ps : List (Int × Int)) : Prop where
  len : vs.length = ps.length
  item : ∀ i,i < ps.length → TupAt l (vs.getD i .none) (ps.getD i (0,0))
theorem TupsL.mono {l l' : List (Addr × Obj)} {vs : List Value} {ps : List (Int × Int)} (h : TupsL l vs ps) (hl : ∀ p ∈ l,p ∈ l') : TupsL l' vs ps :=
  ⟨h.len,fun i hi=>by obtain ⟨a,t,u,e,m⟩:=h.item i hi;exact ⟨a,t,u,e,hl _ m⟩⟩
noncomputable def lexF (ps : List (Int × Int)) (i j : Nat) : Bool :=
  if (ps.getD i (0,0)).1 == (ps.getD j (0,0)).1 then (if (ps.getD i (0,0)).2 == (ps.getD j (0,0)).2 then false else decide ((ps.getD i (0,0)).2 < (ps.getD j (0,0)).2)) else decide ((ps.getD i (0,0)).1 < (ps.getD j (0,0)).1)
noncomputable def srtI (ps : List (Int × Int)) : List (Int × Int):=(permN ps.length (lexF ps)).toList.map fun i=>ps.getD i (0,0)
theorem srt_tupsL {l : List (Addr × Obj)} {vs : List Value} {ps : List (Int × Int)} (h : TupsL l vs ps) : TupsL l (srtV (lexF ps) vs) (srtI ps):=by
  refine ⟨by simp [srtV,srtI,permN_size,h.len],fun i hi=>?_⟩
  have hi2 : i < ps.length:=by simpa [srtI,permN_size] using hi
  have hp : i < (permN ps.length (lexF ps)).toList.length:=by simpa [permN_size] using hi2
  have hx : (permN ps.length (lexF ps)).toList[i] < ps.length:=permN_lt (f:=lexF ps) (by rw [Array.mem_def];exact List.getElem_mem _)
  obtain ⟨a,t,u,e,m⟩:=h.item _ hx
  refine ⟨a,t,u,?_,?_⟩
  · unfold srtV
    rw [h.len]
    rw [List.getD_eq_getElem?_getD,List.getElem?_map,List.getElem?_eq_getElem hp]
    exact e
  · unfold srtI
    rw [List.getD_eq_getElem?_getD,List.getElem?_map,List.getElem?_eq_getElem hp]
    exact m
section
variable {prog : Program} {w : World} {A : Around} {E : Value → Shared → Prop} {s : Shared} {h₀ : Heap} {L : Addr} {m : Str → Option Value} {news : List (Addr × Obj)}
theorem katTups_of {h : Heap} : ∀ {vs : List Value} {ps : List (Int × Int)},vs.length = ps.length → (∀ i,i < ps.length → ∃ a t u,vs.getD i .none = .ref a ∧ h.get? a = some (tup2 (ps.getD i (0,0)) t u)) → ∃ fs,KatTups h vs fs ∧ fs.length = ps.length ∧ ∀ v ∈ fs,∃ k t,v = .int k t
  | [],[],_,_=>⟨[],trivial,rfl,fun _ h=>nomatch h⟩
  | v :: vs,p :: ps,hl,hi=>by
    obtain ⟨a,t,u,e,g⟩:=hi 0 (by simp)
    obtain ⟨fs,k1,k2,k3⟩:=katTups_of (vs:=vs) (ps:=ps) (by simpa using hl) fun i h'=>by
      have:=hi (i + 1) (by simpa using h')
      simpa using this
    have e' : v = .ref a:=by simpa using e
    subst e'
    refine ⟨.int p.1 t :: fs,KatTups.cons g rfl rfl (by simp) k1,by simp [k2],fun v hv=>?_⟩
    rcases List.mem_cons.mp hv with rfl | hv
    · exact ⟨_,_,rfl⟩
    · exact k3 v hv
  | [],_ :: _,h,_=>by simp at h
  | _ :: _,[],h,_=>by simp at h
theorem srt_tups {l : Addr} {vs : List Value} {ps : List (Int × Int)} {Q : Value → Shared → Prop} (F : Fr h₀ L s.heap m) (N : News h₀ L s.heap news) (hl : s.heap.IsList l vs.toArray) (T : TupsL news vs ps) (hz : ps.length ≤ 100000)
    (h : ∀ D h' e,Fr h₀ L h' m → News h₀ L h' ((D,seqObj "list" (srtV (lexF ps) vs).toArray e) :: news) → (∀ p ∈ news,p.1 < D) → Q (.ref D) { s with heap:=h' }) :
    wpAny (model prog w) A (call (.builtin "sorted") [.ref l]) Q E s:=by
  have hT : ∀ (h' : Heap),(∀ b o,s.heap.get? b = some o → h'.get? b = some o) → ∀ i,i < ps.length → ∃ a t u,vs.getD i .none = .ref a ∧ h'.get? a = some (tup2 (ps.getD i (0,0)) t u):=fun h' hh i hi=>by
    obtain ⟨a,t,u,e,m⟩:=T.item i hi
    exact ⟨a,t,u,e,hh _ _ (N _ m).1⟩
  refine srt_sorted (κ:=tuples' (Value.type "int" != Value.type "tuple")) (f:=lexF ps) hl (by rw [T.len];exact hz) (fun h' Q' hh h2 hq=>?_) (fun h' i j C hh hi hj hC=>?_) ?_
  · obtain ⟨fs,k1,k2,k3⟩:=katTups_of (h:=h') T.len (hT h' hh)
    refine kat_kind k1 (by rw [k2,← T.len];omega) (fun v hv=>?_) (by rfl) hq
    obtain ⟨k,t,rfl⟩:=k3 v hv
    exact .now
  · rw [T.len] at hi hj
    obtain ⟨a,t,u,e,g⟩:=hT h' hh i hi
    obtain ⟨a2,t2,u2,e2,g2⟩:=hT h' hh j hj
    rw [e,e2]
    refine kat_lt g rfl g2 rfl ?_
    show KatLex prog w A.in1.in1 _ _ C [(.int _ t,.int _ t2),(.int _ u,.int _ u2)] 0 _
    unfold lexF at hC
    refine kat_cons (wpAny_eqBool_int ?_)
    cases c1 : (ps.getD i (0,0)).1 == (ps.getD j (0,0)).1 with
    | false =>
      rw [c1] at hC
      exact kat_no (oneLt_int hC)
    | true =>
      rw [c1] at hC
      refine kat_yes (kat_cons (wpAny_eqBool_int ?_))
      cases c2 : (ps.getD i (0,0)).2 == (ps.getD j (0,0)).2 with
      | false =>
        rw [c2] at hC
        exact kat_no (kat_one _ _ (lt_int hC))
      | true =>
        rw [c2] at hC
        exact kat_yes (kat_nil hC)
  · obtain ⟨e,he⟩:=sortedAll_at s.heap vs (srtV (lexF ps) vs).toArray
    exact h _ _ e (F.kept fun _ _=>sortedAll_old) (N.kept_cons F (fun _ _=>sortedAll_old) (Nat.le_succ _) he) (fun p hp=>Nat.lt_succ_of_lt (Heap.lt_size (N p hp).1))
end
end
example (w : World) (h : Heap) (X : (heapK w.params).In h) (_ : PySem.Challenge.rw_qd0115_01.foot = PySem.Challenge.rw_qd0115_01.foot) : True:=by
  revert X
  have : ∀ (_ : PySem.Challenge.rw_qd0115_01.foot = PySem.Challenge.rw_qd0115_01.foot),(heapK w.params).In h → True:=by
    k_fill
    intros;trivial
  exact fun _=>trivial
local macro_rules | `(tactic| k_room) => `(tactic| ktr_room)
local macro_rules | `(tactic| ktr_room) => `(tactic| (dsimp +zetaDelta only; ktr_room))
local macro_rules | `(tactic| ktr_units) => `(tactic| (dsimp +zetaDelta only; ktr_units))
local macro_rules | `(tactic| ktr_room) => `(tactic| k_extra "m ktr_room")
example : True:=by (k_with "m ktr_room"=>((first | exact rm0 (by assumption) (by rfl) | exact rmA (by assumption) (by rfl) | exact rmB (by assumption) (by rfl) | exact rmz (by assumption))));trivial
local macro_rules | `(tactic| ktr_units) => `(tactic| k_extra "m ktr_units")
example : True:=by (k_with "m ktr_units"=>((first | exact rm0 (by assumption) (by rfl) | exact rmA (by assumption) (by rfl) | exact rmB (by assumption) (by rfl) | exact rmz (by assumption))));trivial
example : True:=by (k_with "om"=>(first | with_reducible assumption | omega));trivial
local macro_rules | `(tactic| omega) => `(tactic| k_extra "m omega")
example : True:=by (k_with "m omega"=>((first | with_reducible assumption | decide | with_reducible exact i_le1 (by assumption) (by decide) | with_reducible exact n_le1 (by assumption) (by decide) | with_reducible exact i_le2 (by assumption) (by decide) | with_reducible exact i_lt1 (by assumption) (by decide) | with_reducible exact n_lt1 (by assumption) (by decide) | with_reducible exact i_lt2 (by assumption) (by decide) | with_reducible exact n_lt2 (by assumption) (by decide) | with_reducible exact i_ge1 (by assumption) (by decide) | with_reducible exact i_ge2 (by assumption) (by decide) | with_reducible exact i_gt1 (by assumption) (by decide) | with_reducible exact i_mul0 (by assumption) (by decide) | with_reducible exact nad1 (by assumption) (by decide) | with_reducible exact nad2 (by assumption) (by decide) | with_reducible exact nad3 (by assumption) (by decide) | with_reducible exact nai (by assumption) (by assumption) (by decide) | with_reducible exact z4a (by assumption) | with_reducible exact z4b (by assumption) | with_reducible exact z4c (by assumption) | with_reducible exact il16 (by assumption) (by assumption) | fail "omega: no row")));trivial
example : True:=by (k_with "dh"=>(dsimp only [afM_22_0,bfM_22_0,sfM_22_0,afM_22_1,bfM_22_1,sfM_22_1,afM_22_2,bfM_22_2,sfM_22_2,afM_22_3,bfM_22_3,sfM_22_3,afM_22_5,bfM_22_5,sfM_22_5,afM_2_0,bfM_2_0,sfM_2_0,afM_33_0,bfM_33_0,sfM_33_0,afM_40_0,bfM_40_0,sfM_40_0,afM_40_1,bfM_40_1,sfM_40_1,afM_40_10,bfM_40_10,sfM_40_10,afM_40_11,bfM_40_11,sfM_40_11,afM_40_2,bfM_40_2,sfM_40_2,afM_40_3,bfM_40_3,sfM_40_3,afM_40_4,bfM_40_4,sfM_40_4,afM_40_7,bfM_40_7,sfM_40_7,afM_43_0,bfM_43_0,sfM_43_0,afM_43_1,bfM_43_1,sfM_43_1,afM_43_10,bfM_43_10,sfM_43_10,afM_43_11,bfM_43_11,sfM_43_11,afM_43_12,bfM_43_12,sfM_43_12,afM_43_13,bfM_43_13,sfM_43_13,afM_43_2,bfM_43_2,sfM_43_2,afM_43_3,bfM_43_3,sfM_43_3,afM_43_5,bfM_43_5,sfM_43_5,afM_43_6,bfM_43_6,sfM_43_6,afM_43_7,bfM_43_7,sfM_43_7,afM_43_8,bfM_43_8,sfM_43_8,afM_43_9,bfM_43_9,sfM_43_9,afM_47_0,bfM_47_0,sfM_47_0,afM_48_0,bfM_48_0,sfM_48_0,afM_49_0,bfM_49_0,sfM_49_0,afM_50_0,bfM_50_0,sfM_50_0,afM_51_0,bfM_51_0,sfM_51_0,afS_100,bfS_100,sfS_100,afS_101,bfS_101,sfS_101,afS_102,bfS_102,sfS_102,bfS_103,sfS_103,afS_26,bfS_26,sfS_26,afS_27,bfS_27,sfS_27,afS_34,bfS_34,sfS_34,afS_36,bfS_36,sfS_36,afS_41,bfS_41,sfS_41,afS_44,bfS_44,sfS_44,afS_45,bfS_45,sfS_45,afS_5,bfS_5,sfS_5,afS_54,bfS_54,sfS_54,afS_6,bfS_6,sfS_6,afS_68,bfS_68,sfS_68,afS_69,bfS_69,sfS_69,afS_7,bfS_7,sfS_7,afS_70,bfS_70,sfS_70,afS_71,bfS_71,sfS_71,afS_72,bfS_72,sfS_72,afS_76,bfS_76,sfS_76,afS_77,bfS_77,sfS_77,afS_78,bfS_78,sfS_78,afS_8,bfS_8,sfS_8,afS_80,bfS_80,sfS_80,afS_81,bfS_81,sfS_81,afS_9,bfS_9,sfS_9,afS_94,bfS_94,sfS_94,afS_95,bfS_95,sfS_95,afS_97,bfS_97,sfS_97,afS_98,bfS_98,sfS_98,afS_99,bfS_99,sfS_99]));trivial
example : True:=by (k_with "ks"=>((case k1=>k_asm);(case k2=>k_asm);(case k3=>k_asm);(case k4=>k_asm);(case k5=>k_asm);(case kK=>first | exact rfl | assumption);(case kd=>ktr_room);(case ku=>ktr_units)));trivial
example : True:=by (k_with "zip"=>((case kb=>first | exact rfl | (refine (?_ : _ = List.zip _ [_]);exact rfl) | (refine (?_ : _ = List.zip _ [_,_]);exact rfl) | (refine (?_ : _ = List.zip _ [_,_,_]);exact rfl) | (refine (?_ : _ = List.zip _ [_,_,_,_]);exact rfl) | (refine (?_ : _ = List.zip _ [_,_,_,_,_]);exact rfl) | (refine (?_ : _ = List.zip _ [_,_,_,_,_,_]);exact rfl) | (refine (?_ : _ = List.zip _ [_,_,_,_,_,_,_]);exact rfl) | (refine (?_ : _ = List.zip _ [_,_,_,_,_,_,_,_]);exact rfl))));trivial
local macro_rules | `(tactic| k_enter) => `(tactic| k_extra "k_enter")
example : True:=by (k_with "k_enter"=>((refine' code_defL ?k1 ?k2 ?k3 ?k4 ?k5 ?kA ?kF ?kK ?k6 ?k7 ?k8 ?k9 ?kb ?kB ?_ ?c2 ?c3 ?c4 ?c5;(case kA=>exact rfl);(case kF=>exact rfl);(case kK=>first | exact rfl | assumption);(case k1=>k_asm);(case k2=>k_asm);(case k3=>k_asm);(case k4=>k_asm);(case k5=>k_asm);(case k6=>k_is);(case k7=>k_is);(case k8=>ktr_room);(case k9=>first | exact bindsPos rfl | exact BindsTo.of_eq rfl | exact binds_K (by k_in) rfl (by k_is) rfl rfl rfl | fail "k_enter: no rule for these arguments");(case c5=>decide);walk_at "zip";(case kB=>exact locs rfl);(case c2=>exact rfl);(case c3=>exact rfl);(case c4=>exact rfl);k_whole;intro g' L' h' tk' FG' F' N' B' X' T' TR' env' A';(try walk_at "dh");(try k_lift B');(try k_unmd);(try k_fold))));trivial
local macro_rules | `(tactic| ktr_enter) => `(tactic| k_extra "ktr_enter")
example : True:=by (k_with "ktr_enter"=>(k_dflt (refine' code_defK _ ?kS ?k1 ?k2 ?k3 ?k4 ?k5 ?kA ?kF ?kK ?k6 ?k7 ?k8 ?k9 ?kb ?kB ?_ ?c2 ?c3 ?c4 ?c5;(case kA=>exact rfl);(case kF=>exact rfl);(case kK=>first | exact rfl | assumption);(case k1=>k_asm);(case k2=>k_asm);(case k3=>k_asm);(case k4=>k_asm);(case kS=>assumption);(case k5=>k_asm);(case k6=>k_is);(case k7=>k_is);(case k8=>ktr_room);(case k9=>first | exact bindsPos rfl | exact BindsTo.of_eq rfl | exact binds_K (by k_in) rfl (by k_is) rfl rfl rfl | fail "k_enter: no rule for these arguments");(case c5=>decide);walk_at "zip";(case kB=>exact locs rfl);(case c2=>exact rfl);(case c3=>exact rfl);(case c4=>exact rfl);k_whole;intro g' L' h' tk' FG' F' N' B' X' T' TR' l1' hG' env' A';(try k_lt l1');(try walk_at "dh");(try k_lift B');(try k_unmd);(try k_fold))));trivial
local macro_rules | `(tactic| walk_at $s:str) => `(tactic| k_extra $s)
local macro_rules | `(tactic| k_ne) => `(tactic| k_extra "k_ne")
example : True:=by (k_with "k_ne"=>(first | exact off_ne (by assumption) (by k_mem) | exact Ne.symm (off_ne (by assumption) (by k_mem)) | fail "k_ne: no row"));trivial
example : True:=by (k_with "ite"=>(k_closed;first | (refine' iteT ?ic ?_;(case ic=>decide +kernel)) | (refine' iteF ?ic ?_;(case ic=>decide +kernel)) | fail "ite: no row"));trivial
example : True:=by (k_with "eval Constant int"=>(k_dflt (refine' constV ?v ?_;(case v=>exact rfl);k_whole)));trivial
example : True:=by (k_with "eval Constant str"=>(k_dflt (refine' constV ?v ?_;(case v=>exact rfl);k_whole)));trivial
example : True:=by (k_with "eval List"=>(k_here;k_dflt (refine' listV ?F ?X ?T ?k ?N ?v ?z ?_;(case F=>k_asm);(case X=>k_asm);(case T=>k_asm);(case k=>exact rfl);(case N=>k_asm);(case v=>exact rfl);(case z=>first | size_fits | kmk_size);k_whole);intro l' h' tk' F' N' lt9;(try k_lt lt9);(try k_sweep)));trivial
example : True:=by (k_with "eval Tuple"=>(k_here;k_dflt (refine' tupV ?F ?X ?T ?k ?N ?v ?z ?_;(case F=>k_asm);(case X=>k_asm);(case T=>k_asm);(case k=>exact rfl);(case N=>k_asm);(case v=>exact rfl);(case z=>first | size_fits | kmk_size);k_whole);intro l' h' tk' F' N' lt9;(try k_lt lt9);(try k_sweep)));trivial
example : True:=by (k_with "setAttr ref"=>(k_here;k_dflt (refine' setV ?F ?N ?X ?I ?d ?s ?p ?t ?h ?l ?e ?U ?z ?_;(case F=>k_asm);(case N=>k_asm);(case X=>k_asm);(case I=>k_inst);(case d=>exact rfl);(case s=>k_is);(case p=>k_is);(case t=>k_is);(case h=>k_is);(case l=>k_get);(case e=>k_put);(case U=>k_upd);(case z=>exact Nat.le_of_ble_eq_true rfl);k_whole;intro h' tk' F' N';(try k_sweep))));trivial
example : True:=by (k_with "newList"=>(k_here;k_dflt (refine' newListV ?F ?N ?z ?_;(case F=>k_asm);(case N=>k_asm);(case z=>first | size_fits | kmk_size);k_whole);intro l' h' F' N' lt9;(try k_lt lt9);(try k_sweep)));trivial
example : True:=by (k_with "newTuple"=>(k_here;k_dflt (refine' newTupV ?F ?N ?z ?_;(case F=>k_asm);(case N=>k_asm);(case z=>first | size_fits | kmk_size);k_whole);intro l' h' F' N' lt9;(try k_lt lt9);(try k_sweep)));trivial
example : True:=by (k_with "execs cons"=>(k_here;(try dsimp only);first | k_gentoks | (with_reducible refine' exAsN ?hs ?_;(case hs=>with_unfolding_all rfl)) | ((fail_if_success (fail_if_success (with_reducible show wpAny _ _ (execs (PySem.Stmt.Assign [PySem.Expr.Attribute _ _ _] _ _ :: _) _) _ _ _)));first | (k_dflt (refine' exSetI ?F ?N ?X ?T ?k ?a ?b ?hw ?I ?d ?s ?p ?t ?h ?l ?e ?U ?z ?_;(case F=>k_asm);(case N=>k_asm);(case X=>k_asm);(case T=>k_asm);(case k=>exact rfl);(case a=>exact rfl);(case b=>exact rfl);(case hw=>with_unfolding_all rfl);(case I=>k_inst);(case d=>exact rfl);(case s=>k_is);(case p=>k_is);(case t=>k_is);(case h=>k_is);(case l=>k_get);(case e=>k_put);(case U=>k_upd);(case z=>exact Nat.le_of_ble_eq_true rfl);k_whole;intro h' tk' F' N';(try k_sweep))) | (k_dflt (refine' exSetV ?F ?X ?T ?k ?a ?b ?hs ?_;(case F=>k_asm);(case X=>k_asm);(case T=>k_asm);(case k=>exact rfl);(case a=>exact rfl);(case b=>exact rfl);(case hs=>with_unfolding_all rfl);k_whole))) | ((fail_if_success (fail_if_success (with_reducible show wpAny _ _ (execs (PySem.Stmt.Return (some _) _ :: _) _) _ _ _)));(k_dflt (refine' exRetV ?F ?X ?T ?k ?a ?_;(case F=>k_asm);(case X=>k_asm);(case T=>k_asm);(case k=>exact rfl);(case a=>exact rfl);k_whole))) | (with_reducible refine' exAsA ?hs ?_;(case hs=>with_unfolding_all rfl)) | with_reducible refine exRet ?_ | with_reducible refine exOne ?_));trivial
example : True:=by (k_with "eval Call Name"=>(k_here;k_dflt (refine' callC ?F ?X ?T ?n ?g ?f ?e ?v ?_;(case F=>k_asm);(case X=>k_asm);(case T=>k_asm);(case n=>k_is);(case g=>exact rfl);(case f=>k_is);(case e=>exact rfl);(case v=>exact fun _=>rfl);k_whole)));trivial
example : True:=by (k_with "eval Call Name"=>(k_here;k_dflt (refine' callNV ?F ?X ?T ?n ?g ?f ?v ?_;(case F=>k_asm);(case X=>k_asm);(case T=>k_asm);(case n=>k_is);(case g=>exact rfl);(case f=>k_is);(case v=>exact rfl);k_whole)));trivial
example : True:=by (k_with "callWith ref"=>(k_here;k_dflt (refine' callV ?F ?X ?T ?k ?f ?v ?_;(case F=>k_asm);(case X=>k_asm);(case T=>k_asm);(case k=>exact rfl);(case f=>k_is);(case v=>exact rfl);k_whole;(try dsimp only [List.nil_append,List.cons_append]))));trivial
example : True:=by (k_with "eval Call Attribute"=>(k_here;k_dflt (refine' callMV ?F ?X ?T ?k ?o ?I ?g ?m ?t ?l ?f ?q ?v ?_;(case F=>k_asm);(case X=>k_asm);(case T=>k_asm);(case k=>exact rfl);(case o=>exact rfl);(case I=>k_inst);(case g=>k_is);(case m=>k_is);(case t=>k_is);(case l=>k_get);(case f=>k_is);(case q=>exact rfl);(case v=>exact rfl);k_whole)));trivial
example : True:=by (k_with "eval Attribute Name"=>(k_here;k_dflt (refine' attrV ?F ?X ?T ?k ?o ?I ?g ?h ?a ?n ?l ?v ?_;(case F=>k_asm);(case X=>k_asm);(case T=>k_asm);(case k=>exact rfl);(case o=>exact rfl);(case I=>k_inst);(case g=>k_is);(case h=>k_is);(case a=>k_is);(case n=>k_is);(case l=>k_get);(case v=>k_handed);k_whole)));trivial
example : True:=by (k_with "isTrue Compare"=>(k_here;k_dflt (refine' cmpV ?F ?X ?T ?k ?l ?r ?m ?_;(case F=>k_asm);(case X=>k_asm);(case T=>k_asm);(case k=>exact rfl);(case l=>exact rfl);(case r=>exact rfl);(case m=>with_unfolding_all rfl);k_whole)));trivial
example : True:=by (k_with "spliced"=>(k_here;k_dflt (refine' svs_ok ?k ?F ?X ?T ?v ?_;(case F=>k_asm);(case X=>k_asm);(case T=>k_asm);(case k=>exact rfl);(case v=>exact rfl);k_whole)));trivial
example : True:=by (k_with "getMethod ref"=>(k_here;k_dflt (refine' getMC ?F ?X ?T ?k ?I ?g ?m ?t ?l ?f ?e ?v ?_;(case F=>k_asm);(case X=>k_asm);(case T=>k_asm);(case k=>exact rfl);(case I=>k_inst);(case g=>k_is);(case m=>k_is);(case t=>k_is);(case l=>k_get);(case f=>k_is);(case e=>exact rfl);(case v=>exact fun _=>rfl);k_whole)));trivial
example : True:=by (k_with "getMethod ref"=>(k_here;k_dflt (refine' getMV ?F ?X ?T ?k ?I ?g ?m ?t ?l ?f ?v ?_;(case F=>k_asm);(case X=>k_asm);(case T=>k_asm);(case k=>exact rfl);(case I=>k_inst);(case g=>k_is);(case m=>k_is);(case t=>k_is);(case l=>k_get);(case f=>k_is);(case v=>exact rfl);k_whole)));trivial
example : True:=by (k_with "isTrue Compare"=>(k_here;k_dflt (first | ((fail_if_success (fail_if_success (with_reducible show wpAny _ _ (isTrue (PySem.Expr.Compare _ [PySem.CmpOp.Eq] [_] _) _ _) _ _ _)));first | (refine' cmpS ?F ?X ?T ?k ?l ?r ?m ?_;(case F=>k_asm);(case X=>k_asm);(case T=>k_asm);(case k=>exact rfl);(case l=>exact rfl);(case r=>exact rfl);(case m=>with_unfolding_all rfl);k_whole) | (refine' cmpZ ?F ?X ?T ?k ?l ?r ?m ?_;(case F=>k_asm);(case X=>k_asm);(case T=>k_asm);(case k=>exact rfl);(case l=>exact rfl);(case r=>exact rfl);(case m=>with_unfolding_all rfl);k_whole)) | ((fail_if_success (fail_if_success (with_reducible show wpAny _ _ (isTrue (PySem.Expr.Compare _ [PySem.CmpOp.NotEq] [_] _) _ _) _ _ _)));(refine' cmpSn ?F ?X ?T ?k ?l ?r ?m ?_;(case F=>k_asm);(case X=>k_asm);(case T=>k_asm);(case k=>exact rfl);(case l=>exact rfl);(case r=>exact rfl);(case m=>with_unfolding_all rfl);k_whole)))));trivial
example : True:=by (k_with "And"=>((with_reducible show Fr _ _ _ _ ∧ _);k_dflt (refine ⟨by k_asm,?_⟩);(try dsimp only)));trivial
example : True:=by (k_with "eval BinOp"=>(k_here;k_dflt (refine' binV ?F ?X ?T ?k ?l ?r ?_;(case F=>k_asm);(case X=>k_asm);(case T=>k_asm);(case k=>exact rfl);(case l=>exact rfl);(case r=>exact rfl);k_whole)));trivial
example : True:=by (k_with "storeName"=>(k_here;k_dflt (refine' storeV ?F ?N ?l ?_;(case F=>k_asm);(case N=>k_asm);(case l=>exact rfl);k_whole;intro h' tk' F' N';(try k_sweep))));trivial
example : True:=by (k_with "InvEndN"=>((delta Mine.mS at *);(try dsimp only)));trivial
example : True:=by (k_with "KswEnd"=>((delta Mine.mS at *);(try dsimp only)));trivial
example : True:=by (k_with "hs all"=>((repeat' (first | exact hs_nil | refine hs_cons ?_ ?_)) <;> first | exact fun h=>absurd rfl h | exact fun _ h=>absurd rfl h | exact fun _ _ h=>absurd rfl h | (intros;k_mem)));trivial
example : True:=by (k_with "hs sub"=>((first | exact (fun _ h=>h) | (repeat (first | exact hsi_nil | refine hsi_cons (by k_mem) ?_)))));trivial
example : True:=by (k_with "cls"=>((first | exact c_il | exact c_dl | exact c_tl | exact c_i | exact c_ld | exact c_td | exact c_tL | exact c_dL | (intro h;cases h;done) | (intro h;injection h with h;revert h;decide))));trivial
example : True:=by (k_with "nn"=>((first | k_asm | exact fun q hq=>(by k_asm : News _ _ _ (_ :: _)) q (.tail _ hq) | exact fun q hq=>(by k_asm : News _ _ _ (_ :: _ :: _)) q (.tail _ (.tail _ hq)))));trivial
example : True:=by (k_with "hs in"=>(repeat (first | exact hsi_nil | refine hsi_cons (by assumption) ?_)));trivial
local macro_rules | `(tactic| k_mem) => `(tactic| first | with_reducible assumption | k_extra "kmem0" | k_extra "k_mem")
local macro_rules | `(tactic| k_updF) => `(tactic| first | with_reducible assumption | k_extra "k_updF")
local macro_rules | `(tactic| k_upd) => `(tactic| k_extra "k_upd")
local macro_rules | `(tactic| k_all) => `(tactic| assumption)
section
variable {w : World} {loose : List Str} {mean : ExcName → Option Value} {mg mb : Str → Option Value} {dp un : Nat} {gd : Option (List Code)} {cn : Str} {cs : Scope} {a : Addr} {ccd : Value} {cl : List (Str × Addr)} {outer : List Env} {A₀ : Around} {base h₀ : Heap} {L : Addr} {m : Str → Option Value} {news : List (Addr × Obj)} {hpS : Heap} {gnS : Array GenState} {drS : Drawn} {tkS : Nat} {osS : OsState} {Q E : Value → Shared → Prop}
theorem wrap_c {x n : Int} {t t' : Tok} (B : Below A₀ base outer h₀) (F : Fr h₀ L hpS m) (X : (heapK w.params).In h₀) (N : News h₀ L hpS news) (T : Top viewK loose mean mg mb h₀) (hk : cs.kind = .function)
  (hd : dp + 2 < recursionLimit) (hu : un + 8 * 2 < cLine) (hn : 0 ≤ n) (hn2 : n ≤ 128)
  (ret : ∀ t h' tk',Fr h₀ L h' m → News h₀ L h' news → Q (.int (wrapI x n) t) ⟨h',gnS,drS,tk',osS⟩) :
  wpAny (model PySem.Challenge.rw_qd0115_01.row.prog w) (ktrTop dp un gd cn cs L a ccd cl outer) (call (.ref 87) [.int x t,.int n t']) Q E ⟨hpS,gnS,drS,tkS,osS⟩:=by
  have hS : ∀ q ∈ ([] : List (Addr × Obj)),q ∈ news:=fun q h=>nomatch h
  refine wpAny_call ?_
  ktr_enter
  k_steps
  refine withKept_ok fun hK=>?_
  show Q _ _
  exact ret _ _ _ (by k_asm) (news_same N hK hS (nn:=[]) (fun _ h=>nomatch h) (fun _ h=>nomatch h))

example : True:=by (k_with "call ref"=>(k_here;(with_reducible show wpAny _ _ (call (Value.ref 87) _ _) _ _ _);k_dflt (refine' wrap_c ?k1 ?k2 ?k3 ?k4 ?k5 ?kK ?kd ?ku ?n1 ?n2 ?_;walk_at "ks";(case n1=>walk_at "om");(case n2=>walk_at "om");k_whole;intro t' h' tk' F' N';(try k_sweep))));trivial

theorem octet_c (B : Below A₀ base outer h₀) (F : Fr h₀ L hpS m) (X : (heapK w.params).In h₀) (N : News h₀ L hpS news) (T : Top viewK loose mean mg mb h₀) (hk : cs.kind = .function)
  {me md held : Addr} {o : Obj} {D : List (Int × Int)} {t t1 : Tok} {place : Int}
  (hd : dp + 4 < recursionLimit) (hu : un + 8 * 4 < cLine)
  (h1 : (me,instObj 394 md) ∈ news) (h2 : (md,dictOf [ent w "held" t1 (.ref held)] 1) ∈ news) (h3 : (held,o) ∈ news) (h4 : IsMem w o D) (h5 : (held == sysModules) = false) (hO : OkD D)
  (ret : ∀ t h' tk',Fr h₀ L h' m → News h₀ L h' news → 0 ≤ octI D place → octI D place < 256 → Q (.int (octI D place) t) ⟨h',gnS,drS,tk',osS⟩) :
  wpAny (model PySem.Challenge.rw_qd0115_01.row.prog w) (ktrTop dp un gd cn cs L a ccd cl outer) (call (.ref 325) [.ref me,.int place t]) Q E ⟨hpS,gnS,drS,tkS,osS⟩:=by
  have hS : ∀ q ∈ [(me,instObj 394 md),(md,dictOf [ent w "held" t1 (.ref held)] 1),(held,o)],q ∈ news:=by
    walk_at "hs in"
  refine wpAny_call ?_
  ktr_enter
  k_with "getMethod ref"=>((fail_if_success have:=off10);refine getm_mem (by k_asm) (by k_mem) (by k_asm) ?_)
  k_with "call builtin:dict.get"=>((fail_if_success have:=off10);refine get_mem (by k_asm) (by k_mem) (by k_asm) (by k_asm) ?_;intro t')
  k_steps
  refine withKept_ok fun hK=>?_
  show Q _ _
  exact ret _ _ _ (by k_asm) (news_same N hK hS (by k_asm) (fun _ h=>h)) (octI_bounds hO _).1 (octI_bounds hO _).2
example : True:=by (k_with "call ref"=>(k_here;(with_reducible show wpAny _ _ (call (Value.ref 325) _ _) _ _ _);k_dflt (refine' octet_c ?k1 ?k2 ?k3 ?k4 ?k5 ?kK ?kd ?ku ?m1 ?m2 ?m3 ?m4 ?m5 ?m6 ?_;walk_at "ks";(case m1=>k_mem);(case m2=>k_mem);(case m3=>k_mem);(case m4=>k_asm);(case m5=>k_asm);(case m6=>k_asm);k_whole;intro t' h' tk' F' N' hb1' hb2';(try k_sweep))));trivial

theorem set_octet_c (B : Below A₀ base outer h₀) (F : Fr h₀ L hpS m) (X : (heapK w.params).In h₀) (N : News h₀ L hpS news) (T : Top viewK loose mean mg mb h₀) (hk : cs.kind = .function)
  {me md held : Addr} {o : Obj} {g : Obj → List (Addr × Obj)} {D : List (Int × Int)} {t t1 t2 : Tok} {place x : Int}
  (hd : dp + 4 < recursionLimit) (hu : un + 8 * 4 < cLine)
  (h1 : (me,instObj 394 md) ∈ news) (h2 : (md,dictOf [ent w "held" t1 (.ref held)] 1) ∈ news) (U : UpdF held o news g) (h4 : IsMem w o D) (h5 : (held == sysModules) = false) (hne : md ≠ held) (hne2 : me ≠ held) (hsz : D.length ≤ 4096)
  (ret : ∀ o' h' tk',Fr h₀ L h' m → News h₀ L h' (g o') → IsMem w o' (memStore D (wrapI place 64) x) → Q .none ⟨h',gnS,drS,tk',osS⟩) :
  wpAny (model PySem.Challenge.rw_qd0115_01.row.prog w) (ktrTop dp un gd cn cs L a ccd cl outer) (call (.ref 332) [.ref me,.int place t,.int x t2]) Q E ⟨hpS,gnS,drS,tkS,osS⟩:=by
  have h3:=upd_in U
  have hS : ∀ q ∈ [(me,instObj 394 md),(md,dictOf [ent w "held" t1 (.ref held)] 1),(held,o)],q ∈ news:=by
    walk_at "hs in"
  refine wpAny_call ?_
  ktr_enter
  k_with "setItem ref int"=>((fail_if_success have:=off10);refine' set_mem ?k1 ?k2 ?k3 ?k4 ?k5 ?_;(case k1=>k_asm);(case k2=>k_asm);(case k3=>k_updF);(case k4=>k_asm);(case k5=>(rw [sizeLine_eq];omega));intro h' o' F' N' hM';(try dsimp only at N');(try k_sweep))
  k_steps
  refine withKept_ok fun hK=>?_
  show Q _ _
  exact ret _ _ _ (by k_asm) (news_upd1 U N hK hS (by k_asm) (by k_mem) (by walk_at "hs all")) (by assumption)
theorem off10 : True:=trivial
theorem read_c (B : Below A₀ base outer h₀) (F : Fr h₀ L hpS m) (X : (heapK w.params).In h₀) (N : News h₀ L hpS news) (T : Top viewK loose mean mg mb h₀) (hk : cs.kind = .function)
  {me md held : Addr} {o : Obj} {D : List (Int × Int)} {t t1 t2 : Tok} {place n : Int}
  (hd : dp + 6 < recursionLimit) (hu : un + 8 * 6 < cLine)
  (h1 : (me,instObj 394 md) ∈ news) (h2 : (md,dictOf [ent w "held" t1 (.ref held)] 1) ∈ news) (h3 : (held,o) ∈ news) (h4 : IsMem w o D) (h5 : (held == sysModules) = false) (hO : OkD D) (hn : 0 ≤ n) (hn2 : n ≤ 16)
  (ret : ∀ t h' tk',Fr h₀ L h' m → News h₀ L h' news → Q (.int (readI D place n) t) ⟨h',gnS,drS,tk',osS⟩) :
  wpAny (model PySem.Challenge.rw_qd0115_01.row.prog w) (ktrTop dp un gd cn cs L a ccd cl outer) (call (.ref 339) [.ref me,.int place t,.int n t2]) Q E ⟨hpS,gnS,drS,tkS,osS⟩:=by
  have hS : ∀ q ∈ [(me,instObj 394 md),(md,dictOf [ent w "held" t1 (.ref held)] 1),(held,o)],q ∈ news:=by
    walk_at "hs in"
  refine wpAny_call ?_
  ktr_enter
  k_steps
  refine withKept_ok fun hK=>?_
  show Q _ _
  have e : (fun (a' k' : Int)=>if 0 ≤ octI D (place + k') ∧ octI D (place + k') < 256 then a' + octI D (place + k') * 2 ^ (8 * k').toNat else a') = fun acc k=>acc + octI D (place + k) * 2 ^ (8 * k).toNat:=by
    funext a' k'
    exact if_pos (octI_bounds hO _)
  rw [e,Int.sub_zero]
  exact ret _ _ _ (by k_asm) (news_same N hK hS (by k_asm) (fun _ h=>h))
example : True:=by (k_with "call ref"=>(k_here;(with_reducible show wpAny _ _ (call (Value.ref 339) _ _) _ _ _);k_dflt (refine' read_c ?k1 ?k2 ?k3 ?k4 ?k5 ?kK ?kd ?ku ?m1 ?m2 ?m3 ?m4 ?m5 ?m6 ?m7 ?m8 ?_;walk_at "ks";(case m1=>k_mem);(case m2=>k_mem);(case m3=>k_mem);(case m4=>k_asm);(case m5=>k_asm);(case m6=>k_asm);(case m7=>walk_at "om");(case m8=>walk_at "om");k_whole;intro t' h' tk' F' N';(try k_sweep))));trivial
example : True:=by (k_with "call ref"=>(k_here;(with_reducible show wpAny _ _ (call (Value.ref 332) _ _) _ _ _);k_dflt (refine' set_octet_c ?k1 ?k2 ?k3 ?k4 ?k5 ?kK ?kd ?ku ?m1 ?m2 ?m3 ?m4 ?m5 ?m6 ?m7 ?m8 ?_;walk_at "ks";(case m1=>k_mem);(case m2=>k_mem);(case m3=>k_updF);(case m4=>k_asm);(case m5=>k_asm);(case m6=>k_ne);(case m7=>k_ne);(case m8=>walk_at "om");k_whole;intro o' h' tk' F' N' hM';(try dsimp only at N');(try k_sweep))));trivial

theorem write_c (B : Below A₀ base outer h₀) (F : Fr h₀ L hpS m) (X : (heapK w.params).In h₀) (N : News h₀ L hpS news) (T : Top viewK loose mean mg mb h₀) (hk : cs.kind = .function)
  {me md held : Addr} {o : Obj} {g : Obj → List (Addr × Obj)} {D : List (Int × Int)} {t t1 t2 t3 : Tok} {place n x : Int}
  (hd : dp + 6 < recursionLimit) (hu : un + 8 * 6 < cLine)
  (h1 : (me,instObj 394 md) ∈ news) (h2 : (md,dictOf [ent w "held" t1 (.ref held)] 1) ∈ news) (U : UpdF held o news g) (h4 : IsMem w o D) (h5 : (held == sysModules) = false) (hne : md ≠ held) (hne2 : me ≠ held) (hO : OkD D) (hn : 0 ≤ n) (hn2 : n ≤ 16) (hsz : D.length ≤ 4000)
  (ret : ∀ o' h' tk',Fr h₀ L h' m → News h₀ L h' (g o') → IsMem w o' (writeI D place n x) → OkD (writeI D place n x) → (writeI D place n x).length ≤ D.length + 16 → Q .none ⟨h',gnS,drS,tk',osS⟩) :
  wpAny (model PySem.Challenge.rw_qd0115_01.row.prog w) (ktrTop dp un gd cn cs L a ccd cl outer) (call (.ref 346) [.ref me,.int place t,.int n t2,.int x t3]) Q E ⟨hpS,gnS,drS,tkS,osS⟩:=by
  have h3:=upd_in U
  have hS : ∀ q ∈ [(me,instObj 394 md),(md,dictOf [ent w "held" t1 (.ref held)] 1),(held,o)],q ∈ news:=by
    walk_at "hs in"
  refine wpAny_call ?_
  ktr_enter
  k_with "exec For Name Call cons nil"=>((fail_if_success have:=off11);(rename Fr _ _ _ _=>lF');(with_unfolding_all refine' For_invVF lF' ?k1 ?k2 ?_;(case k1=>exact rfl);(case k2=>exact rfl);k_whole))
  k_with "pyIter ref"=>(
    (fail_if_success have:=off11)
    rename Fr _ _ _ _=>lF'
    rename News _ _ _ _=>lN'
    rename IsRange _ _ _ _ _ _ _ _=>rgX
    with_unfolding_all refine' rangeT (σ:=List (Int × Int)) (fun m₀ i D' m' nx=>(∃ o',nx = [(me,instObj 394 md),(md,dictOf [ent w "held" t1 (.ref held)] 1),(held,o')] ∧ IsMem w o' D') ∧ OkD D' ∧ D'.length ≤ D.length + i ∧ SameBut ["at"] m' m₀) (fun D k=>memStore D (wrapI (place + k) 64) (byteI x k)) D (by rfl) rgX (by exact small_one (by omega) (by omega) (by omega) (by omega)) (rangeSize_nat _ _) lF' lN' ⟨⟨_,rfl,h4⟩,hO,by omega,fun _ _=>rfl⟩ ?turn ?done
    all_goals first
      | (rintro i k t a m₁ nx h tk own hk1 hk2 - hi - hoff ⟨⟨o',rfl,hM⟩,hO',hln,hm⟩ F' N';rw [same_ite hm] at F';clear hm lF' lN';simp only [List.cons_append,List.nil_append] at N')
      | (rintro m₁ nx h tk ⟨⟨o',rfl,hM⟩,hO',hln,hm⟩ F' N';rw [← same_done hm] at F';clear hm lF' lN'))
  k_steps
  · have:=memStore_length a (wrapI (place + k) 64) (byteI x k)
    rename News _ _ _ _=>nE
    rename IsMem _ _ _=>mE
    exact turnS_next (by k_asm) nE ⟨⟨_,rfl,mE⟩,memStore_ok hO' (byteI_bounds _ _).1 (byteI_bounds _ _).2,by omega,fun z hz=>if_neg (by simpa using hz)⟩ rfl (by simp) (fun p hp=>by simp [hp])
  · refine withKept_ok fun hK=>?_
    show Q _ _
    rw [Int.sub_zero] at hM hln hO'
    exact ret _ _ _ (by k_asm) (news_upd1 U N hK hS (by k_asm) (by k_mem) (by walk_at "hs all")) hM hO' (Nat.le_trans hln (by omega))
example : True:=by (k_with "call ref"=>(k_here;(with_reducible show wpAny _ _ (call (Value.ref 346) _ _) _ _ _);k_dflt (refine' write_c ?k1 ?k2 ?k3 ?k4 ?k5 ?kK ?kd ?ku ?m1 ?m2 ?m3 ?m4 ?m5 ?m6 ?m7 ?m8 ?m9 ?m10 ?m11 ?_;walk_at "ks";(case m1=>k_mem);(case m2=>k_mem);(case m3=>k_updF);(case m4=>k_asm);(case m5=>k_asm);(case m6=>k_ne);(case m7=>k_ne);(case m8=>k_asm);(case m9=>walk_at "om");(case m10=>walk_at "om");(case m11=>walk_at "om");k_whole;intro o' h' tk' F' N' hM' hO' hl';(try dsimp only at N');(try k_sweep))));trivial
theorem off11 : True:=trivial
theorem isMem_ne {o : Obj} {D : List (Int × Int)} (h : IsMem w o D) {n : Str} {t : Tok} {v : Value} {es : List DictEntry} {k : Nat} : dictOf (ent w n t v :: es) k ≠ o:=by
  rintro rfl
  obtain ⟨kvs,⟨es',ep,_,hd,hK,hP,_⟩,hI,rfl⟩:=h
  simp only [Data.dict.injEq] at hd
  obtain ⟨rfl,rfl⟩:=hd
  obtain ⟨k',hk',_⟩:=hK (ent w n t v) (by simp)
  simp [intKind,Value.isInt] at hk'

theorem isMem_cls {o : Obj} {D : List (Int × Int)} (h : IsMem w o D) : o.cls = .type "dict":=by
  obtain ⟨kvs,⟨es',ep,hc,_⟩,hI,rfl⟩:=h
  exact hc.1
theorem isMem_inst {o o₂ : Obj} {D : List (Int × Int)} (h : IsMem w o D) (hc : o₂.cls ≠ .type "dict") : o₂ ≠ o:=fun e=>hc (by rw [e];exact isMem_cls h)
theorem isMem_list {o o₂ : Obj} {D : List (Int × Int)} (h : IsMem w o D) (hc : o₂.cls ≠ .type "dict") : o ≠ o₂:=fun e=>isMem_inst h hc e.symm
theorem item_any {value slice : PySem.Expr} {l : Addr} {vs : List Value} {k : Int} {u : Tok} {A : Around} {Q : Value → Shared → Prop} (hl : hpS.IsList l vs.toArray) (h0 : 0 ≤ k) (hk : k < (vs.length : Int)) (hhi : k < 2 ^ 63) (h : ∀ v,v ∈ vs → Q v ⟨hpS,gnS,drS,tkS,osS⟩)
    (hs : subscripted slice false (.ref l) (.int k u) = operate [.ref l,.int k u] (getItem (.ref l) (.int k u))) :
    wpAny (model PySem.Challenge.rw_qd0115_01.row.prog w) A (subscriptTail value slice (.ref l) (.int k u)) Q E ⟨hpS,gnS,drS,tkS,osS⟩:=by
  have hlt : k.toNat < vs.length:=by omega
  have hx : vs[k.toNat]? = some vs[k.toNat]:=by simp [hlt]
  exact tail_any hl.typeIs slot_list_getitem.lookup (wpAny_getItem_list hl h0 hhi (by simpa using hx) (h _ (List.getElem_mem hlt))) hs
theorem item_i {value slice : PySem.Expr} {l : Addr} {vs : List Value} {k : Int} {u : Tok} {A : Around} {Q : Value → Shared → Prop} {ep : Nat} {nn : List (Addr × Obj)} {R : Int → Prop} (N : News h₀ L hpS ((l,W.listOf vs.toArray ep) :: nn)) (h0 : 0 ≤ k) (hk : k < (vs.length : Int)) (hhi : k < 2 ^ 63)
    (hv : ∀ v,v ∈ vs → ∃ n t,v = .int n t ∧ R n) (h : ∀ n t,R n → News h₀ L hpS nn → Q (.int n t) ⟨hpS,gnS,drS,tkS,osS⟩) (hs : subscripted slice false (.ref l) (.int k u) = operate [.ref l,.int k u] (getItem (.ref l) (.int k u))) :
    wpAny (model PySem.Challenge.rw_qd0115_01.row.prog w) A (subscriptTail value slice (.ref l) (.int k u)) Q E ⟨hpS,gnS,drS,tkS,osS⟩ :=
  item_any (News.isList N (.head _)) h0 hk hhi (fun v hm=>by obtain ⟨n,t,rfl,r⟩:=hv v hm;exact h n t r (fun q hq=>N q (.tail _ hq))) hs
theorem item_s {value slice : PySem.Expr} {l : Addr} {vs : List Value} {k : Int} {u : Tok} {A : Around} {Q : Value → Shared → Prop} {ep : Nat} {nn : List (Addr × Obj)} {R : Str → Prop} (N : News h₀ L hpS ((l,W.listOf vs.toArray ep) :: nn)) (h0 : 0 ≤ k) (hk : k < (vs.length : Int)) (hhi : k < 2 ^ 63)
    (hv : ∀ v,v ∈ vs → ∃ n t,v = .str n t ∧ R n) (h : ∀ n t,R n → News h₀ L hpS nn → Q (.str n t) ⟨hpS,gnS,drS,tkS,osS⟩) (hs : subscripted slice false (.ref l) (.int k u) = operate [.ref l,.int k u] (getItem (.ref l) (.int k u))) :
    wpAny (model PySem.Challenge.rw_qd0115_01.row.prog w) A (subscriptTail value slice (.ref l) (.int k u)) Q E ⟨hpS,gnS,drS,tkS,osS⟩ :=
  item_any (News.isList N (.head _)) h0 hk hhi (fun v hm=>by obtain ⟨n,t,rfl,r⟩:=hv v hm;exact h n t r (fun q hq=>N q (.tail _ hq))) hs
theorem item_r {value slice : PySem.Expr} {l : Addr} {vs : List Value} {k : Int} {u : Tok} {A : Around} {Q : Value → Shared → Prop} {ep : Nat} {nn : List (Addr × Obj)} {R : Addr → Prop} (N : News h₀ L hpS ((l,W.listOf vs.toArray ep) :: nn)) (h0 : 0 ≤ k) (hk : k < (vs.length : Int)) (hhi : k < 2 ^ 63)
    (hv : ∀ v,v ∈ vs → ∃ n,v = .ref n ∧ R n) (h : ∀ n,R n → News h₀ L hpS nn → Q (.ref n) ⟨hpS,gnS,drS,tkS,osS⟩) (hs : subscripted slice false (.ref l) (.int k u) = operate [.ref l,.int k u] (getItem (.ref l) (.int k u))) :
    wpAny (model PySem.Challenge.rw_qd0115_01.row.prog w) A (subscriptTail value slice (.ref l) (.int k u)) Q E ⟨hpS,gnS,drS,tkS,osS⟩ :=
  item_any (News.isList N (.head _)) h0 hk hhi (fun v hm=>by obtain ⟨n,rfl,r⟩:=hv v hm;exact h n r (fun q hq=>N q (.tail _ hq))) hs
structure FlT where
  (a b c d e f g h i j k l m n : Tok)
structure Fl where
  (cf pf af zf sf of df : Int)
noncomputable abbrev flDict (w : World) (τ : FlT) (f : Fl) : Obj :=
  dictOf [ent w "cf" τ.a (.int f.cf τ.b),ent w "pf" τ.c (.int f.pf τ.d),ent w "af" τ.e (.int f.af τ.f),ent w "zf" τ.g (.int f.zf τ.h),ent w "sf" τ.i (.int f.sf τ.j),ent w "of" τ.k (.int f.of τ.l),ent w "df" τ.m (.int f.df τ.n)] 7
noncomputable def bitI (x k : Int) : Int:=Builtin.bitAnd (Int.fdiv x (2 ^ k.toNat)) 1
noncomputable def onesF : Nat → Int → Int
  | 0,_=>0
  | k + 1,r=>if 0 < r then onesF k (Builtin.bitAnd r (r - 1)) + 1 else 0
theorem toN_pos {r : Int} (h : r.toNat ≤ 0) : ¬ 0 < r:=by omega
theorem toN_lt {r b : Int} (h : 0 < r) (hb : 0 ≤ b) (h2 : b ≤ r - 1) : b.toNat < r.toNat:=by omega
theorem ones_lt {r : Int} (h : 0 < r) : (Builtin.bitAnd r (r - 1)).toNat < r.toNat :=
  have hb:=bitAnd_bounds r (y:=r - 1) (Int.sub_nonneg_of_le h)
  toN_lt h hb.1 hb.2
theorem onesF_two : ∀ (k j : Nat) (r : Int),r.toNat ≤ k → r.toNat ≤ j → onesF k r = onesF j r
  | 0,0,_,_,_=>rfl
  | 0,j + 1,r,h,_=>(if_neg (toN_pos h)).symm
  | k + 1,0,r,_,h=>if_neg (toN_pos h)
  | k + 1,j + 1,r,h,h2=>by
    show (if 0 < r then onesF k (Builtin.bitAnd r (r - 1)) + 1 else 0) = if 0 < r then onesF j (Builtin.bitAnd r (r - 1)) + 1 else 0
    by_cases h0 : 0 < r
    · rw [onesF_two k j _ (Nat.le_of_lt_succ (Nat.lt_of_lt_of_le (ones_lt h0) h)) (Nat.le_of_lt_succ (Nat.lt_of_lt_of_le (ones_lt h0) h2))]
    · rw [if_neg h0,if_neg h0]
noncomputable def onesI (r : Int) : Int:=onesF r.toNat r
theorem onesI_step {r : Int} (h : 0 < r) : onesI r = onesI (Builtin.bitAnd r (r - 1)) + 1:=by
  have hb:=ones_lt h
  unfold onesI
  generalize r.toNat = z at hb
  cases z with
  | zero=>exact absurd hb (Nat.not_lt_zero _)
  | succ i=>exact (if_pos h).trans (congrArg (· + 1) (onesF_two _ _ _ (Nat.le_of_lt_succ hb) (Nat.le_refl _)))
theorem onesI_zero {r : Int} (h : ¬ 0 < r) : onesI r = 0:=by
  have hr : r.toNat = 0:=by omega
  unfold onesI
  rw [hr];rfl
noncomputable def parityI (x : Int) : Int:=1 - Int.fmod (onesI (wrapI x 8)) 2
noncomputable def szpF (f : Fl) (r size : Int) : Fl:={ f with sf:=bitI (wrapI r size) (size - 1),zf:=if wrapI r size = 0 then 1 else 0,pf:=parityI (wrapI r size) }
noncomputable def subF (f : Fl) (a b size : Int) : Fl :=
  let one:=wrapI a size
  let two:=wrapI b size
  let rest:=one - two - 0
  { szpF f rest size with
    cf:=if rest < 0 then 1 else 0
    af:=if Builtin.bitAnd one 15 - Builtin.bitAnd two 15 - 0 < 0 then 1 else 0
    of:=bitI (Builtin.bitAnd (Builtin.bitXor one two) (Builtin.bitXor one (wrapI rest size))) (size - 1) }

noncomputable def IsFl (w : World) (o : Obj) (f : Fl) : Prop:=∃ τ,o = flDict w τ f
theorem isFl_of {w : World} {x : Fl} {a b c d e f g h i j k l m n : Tok} {v1 v2 v3 v4 v5 v6 v7 : Int} (h1 : v1 = x.cf) (h2 : v2 = x.pf) (h3 : v3 = x.af) (h4 : v4 = x.zf) (h5 : v5 = x.sf) (h6 : v6 = x.of) (h7 : v7 = x.df) :
    IsFl w (dictOf [ent w "cf" a (.int v1 b),ent w "pf" c (.int v2 d),ent w "af" e (.int v3 f),ent w "zf" g (.int v4 h),ent w "sf" i (.int v5 j),ent w "of" k (.int v6 l),ent w "df" m (.int v7 n)] 7) x:=by
  subst h1 h2 h3 h4 h5 h6 h7
  exact ⟨⟨a,b,c,d,e,f,g,h,i,j,k,l,m,n⟩,rfl⟩
noncomputable def goI (ns : List Int) (number width df : Int) : List Int:=ns.set number.toNat (wrapI (ns.getD number.toNat 0 + (if df = 0 then width else -width)) 64)
theorem goI_length {ns : List Int} {number width df : Int} (h : ns.length = 16) : (goI ns number width df).length = 16:=by
  unfold goI;rw [List.length_set];exact h

noncomputable def dSz (o : Obj) : Nat:=match o.data with | .dict es _=>es.size | _=>0
theorem fl_ne2 {w : World} {τ : StT} {σ : StA} {rip beg : Int} {τf : FlT} {f : Fl} : stDict w τ σ rip beg ≠ flDict w τf f:=fun h=>absurd (show (9 : Nat) = 7 from congrArg dSz h) (by decide)
theorem fl_ne3 {w : World} {n : Str} {t : Tok} {v : Value} {k : Nat} {τf : FlT} {f : Fl} : dictOf [ent w n t v] k ≠ flDict w τf f:=fun h=>absurd (show (1 : Nat) = 7 from congrArg dSz h) (by decide)
theorem isMem_fl {w : World} {o : Obj} {D : List (Int × Int)} (h : IsMem w o D) {τf : FlT} {f : Fl} : o ≠ flDict w τf f:=fun e=>isMem_ne h e.symm
example : True:=by (k_with "k_upd"=>exact upd_of (by with_reducible assumption));trivial
example : True:=by (k_with "kmem0"=>assumption);trivial
noncomputable def Does (w : World) (loose : List Str) (mean : ExcName → Option Value) (mg mb : Str → Option Value) (depth units : Nat) (addr : Addr) (args : List Value) (v : Value) (news : List (Addr × Obj)) {ι : Type} (post : ι → List (Addr × Obj)) (Pf : ι → Prop) : Prop :=
  ∀ {dp un : Nat} {gd : Option (List Code)} {cn : Str} {cs : Scope} {L a : Addr} {ccd : Value} {cl : List (Str × Addr)} {outer : List Env} {A₀ : Around} {base h₀ : Heap} {m : Str → Option Value} {hpS : Heap} {gnS : Array GenState} {drS : Drawn} {tkS : Nat} {osS : OsState} {Q E : Value → Shared → Prop},
    Below A₀ base outer h₀ → Fr h₀ L hpS m → (heapK w.params).In h₀ → News h₀ L hpS news → Top viewK loose mean mg mb h₀ → cs.kind = .function → dp + depth < recursionLimit → un + 8 * units < cLine →
    (∀ i h' tk',Pf i → Fr h₀ L h' m → News h₀ L h' (post i) → Q v ⟨h',gnS,drS,tk',osS⟩) →
    wpAny (model PySem.Challenge.rw_qd0115_01.row.prog w) (ktrTop dp un gd cn cs L a ccd cl outer) (call (.ref addr) args) Q E ⟨hpS,gnS,drS,tkS,osS⟩
theorem does_use {depth units : Nat} {addr : Addr} {args : List Value} {v : Value} {ι : Type} {post : ι → List (Addr × Obj)} {Pf : ι → Prop} (D : Does w loose mean mg mb depth units addr args v news post Pf)
    (B : Below A₀ base outer h₀) (F : Fr h₀ L hpS m) (X : (heapK w.params).In h₀) (N : News h₀ L hpS news) (T : Top viewK loose mean mg mb h₀) (hk : cs.kind = .function) (hd : dp + depth < recursionLimit) (hu : un + 8 * units < cLine)
    (ret : ∀ i h' tk',Pf i → Fr h₀ L h' m → News h₀ L h' (post i) → Q v ⟨h',gnS,drS,tk',osS⟩) :
    wpAny (model PySem.Challenge.rw_qd0115_01.row.prog w) (ktrTop dp un gd cn cs L a ccd cl outer) (call (.ref addr) args) Q E ⟨hpS,gnS,drS,tkS,osS⟩:=D B F X N T hk hd hu ret
noncomputable def Adr (news nn : List (Addr × Obj)) : Prop:=∀ p ∈ nn,∃ o,(p.1,o) ∈ news
theorem does_end {h h' g : Heap} {L' : Addr} {nn : List (Addr × Obj)} (N : News h₀ L h news) (hK : Kept h h' news) (hA : Adr news nn) (N' : News g L' h' nn) : News h₀ L h' nn:=fun p hp=>by
  obtain ⟨o,ho⟩:=hA p hp
  exact ⟨(N' _ hp).1,(N _ ho).2⟩
theorem adr_refl : Adr news news:=fun p hp=>⟨p.2,hp⟩
theorem adr_upd {d : Addr} {o o' : Obj} {g : Obj → List (Addr × Obj)} (U : UpdF d o news g) : Adr news (g o'):=fun p hp=>by
  rcases upd_mem U hp with rfl | ⟨hp,_⟩
  · exact ⟨_,upd_in U⟩
  · exact ⟨_,hp⟩
theorem adr_trans {n1 n2 : List (Addr × Obj)} (h : Adr news n1) (h2 : Adr n1 n2) : Adr news n2:=fun p hp=>by
  obtain ⟨o,ho⟩:=h2 p hp
  exact h (p.1,o) ho
theorem hs_self : ∀ q ∈ news,q ∈ news:=fun _ h=>h
theorem upd_new {d : Addr} {o o' : Obj} {g : Obj → List (Addr × Obj)} (U : UpdF d o news g) : (d,o') ∈ g o':=by
  obtain ⟨pre,post,rfl,hg,a,b⟩:=U.split
  rw [hg];exact List.mem_append_right _ (.head _)
theorem upd_keep {d : Addr} {o o' : Obj} {g : Obj → List (Addr × Obj)} {p : Addr × Obj} (U : UpdF d o news g) (hp : p ∈ news) (hne : p.1 ≠ d) : p ∈ g o':=by
  obtain ⟨pre,post,rfl,hg,a,b⟩:=U.split
  rw [hg]
  rcases List.mem_append.mp hp with h | h
  · exact List.mem_append_left _ h
  · rcases List.mem_cons.mp h with rfl | h
    · exact absurd rfl hne
    · exact List.mem_append_right _ (.tail _ h)
theorem updF_of {d : Addr} {o : Obj} {g : Obj → List (Addr × Obj)} {pre post : List (Addr × Obj)} (hg : ∀ o',g o' = pre ++ (d,o') :: post) (a : ∀ p ∈ pre,p.1 ≠ d) (b : ∀ p ∈ post,p.1 ≠ d) : UpdF d o (pre ++ (d,o) :: post) g:=by
  have e : g = fun o'=>pre ++ (d,o') :: post:=funext hg
  subst e;clear hg
  induction pre with
  | nil=>exact .head b
  | cons p r ih=>exact .tail (a p (.head _)) (ih fun q hq=>a q (.tail _ hq))
theorem upd_again {d : Addr} {o o' : Obj} {g : Obj → List (Addr × Obj)} (U : UpdF d o news g) : UpdF d o' (g o') g:=by
  obtain ⟨pre,post,rfl,hg,a,b⟩:=U.split
  rw [hg]
  exact updF_of hg a b
theorem upd_self {d : Addr} {o : Obj} {g : Obj → List (Addr × Obj)} (U : UpdF d o news g) : g o = news:=by
  obtain ⟨pre,post,rfl,hg,a,b⟩:=U.split
  exact hg o
noncomputable def updAt (d : Addr) (o : Obj) (p : Addr × Obj) : Addr × Obj:=if p.1 = d then (d,o) else p
theorem updAt_off {d : Addr} {o : Obj} : ∀ {l : List (Addr × Obj)},(∀ p ∈ l,p.1 ≠ d) → l.map (updAt d o) = l
  | [],_=>rfl
  | p :: r,h=>by rw [List.map_cons,updAt_off fun q hq=>h q (.tail _ hq)];simp only [updAt,if_neg (h p (.head _))]
theorem upd_map {d : Addr} {o o' : Obj} {g : Obj → List (Addr × Obj)} (U : UpdF d o news g) : g o' = news.map (updAt d o'):=by
  obtain ⟨pre,post,rfl,hg,a,b⟩:=U.split
  rw [hg,List.map_append,List.map_cons,updAt_off a,updAt_off b]
  simp only [updAt,if_true]
theorem map_off {d1 d2 : Addr} {o2 : Obj} {l : List (Addr × Obj)} (h : ∀ p ∈ l,p.1 ≠ d1) : ∀ p ∈ l.map (updAt d2 o2),p.1 ≠ d1:=fun p hp=>by
  obtain ⟨q,hq,rfl⟩:=List.mem_map.mp hp
  unfold updAt
  split
  · rename_i e;exact e ▸ h q hq
  · exact h q hq
section
variable {d1 d2 : Addr} {o1 o2 o1' o2' : Obj} {g1 : Obj → List (Addr × Obj)} {g2 : Obj → Obj → List (Addr × Obj)}
theorem upd_swap (U1 : UpdF d1 o1 news g1) (U2 : ∀ o,UpdF d2 o2 (g1 o) (g2 o)) : UpdF d2 o2 news (fun o=>g2 o1 o):=by
  have h:=U2 o1
  rw [upd_self U1] at h
  exact h
theorem upd_swap2 (U1 : UpdF d1 o1 news g1) (U2 : ∀ o,UpdF d2 o2 (g1 o) (g2 o)) (hne : d1 ≠ d2) : UpdF d1 o1' (g2 o1' o2') (fun o=>g2 o o2'):=by
  obtain ⟨pre,post,rfl,hg,a,b⟩:=U1.split
  have e : ∀ o,g2 o o2' = pre.map (updAt d2 o2') ++ (d1,o) :: post.map (updAt d2 o2'):=fun o=>by
    rw [upd_map (U2 o),hg,List.map_append,List.map_cons]
    simp only [updAt,if_neg hne]
  rw [e]
  exact updF_of e (map_off a) (map_off b)
theorem adr_upd2 (U1 : UpdF d1 o1 news g1) (U2 : ∀ o,UpdF d2 o2 (g1 o) (g2 o)) : Adr news (g2 o1' o2'):=adr_trans (adr_upd U1) (adr_upd (U2 _))
end
theorem upd_of {d : Addr} {o o' : Obj} {g : Obj → List (Addr × Obj)} (U : UpdF d o news g) : Upd d o o' news (g o'):=by
  obtain ⟨pre,post,rfl,hg,a,b⟩:=U.split
  rw [hg];clear U hg
  induction pre with
  | nil=>exact .head b
  | cons p r ih=>exact .tail (a p (.head _)) (ih fun q hq=>a q (.tail _ hq))
theorem off_lt0 {l : List (Addr × Obj)} {a : Addr} (h : ∀ p ∈ l,p.1 < a) : Off l a:=fun p hp=>Nat.ne_of_lt (h p hp)
section
variable {prog : Program} {A : Around} {value slice : PySem.Expr} {x y : Str} {t : Tok}
theorem slice_eq {j : Int} {uj : Tok} (e : Txt.slice x none (some j) = y) (hF : Fr h₀ L hpS m) (hN : News h₀ L hpS news) (hsz : x.length ≤ sizeLine)
    (hs : subscripted slice false (.str x t) (.ref hpS.objs.size) = operate [.ref hpS.objs.size,.str x t] (getItem (.str x t) (.ref hpS.objs.size)))
    (ht : ∀ r,letTemporaryGo value (.str x t) r = pure ()) (h : ∀ h' t' k,Fr h₀ L h' m → News h₀ L h' news → Q (.str y t') ⟨h',gnS,drS,k,osS⟩) :
    wpAny (model prog w) A (subscriptTail value slice (.str x t) (.ref hpS.objs.size)) Q E ⟨(hpS.push { cls:=.type "slice",data:=.fields #[.none,.int j uj,.none] }),gnS,drS,tkS,osS⟩ :=
  slice_strN_ns (s:=⟨hpS,gnS,drS,tkS,osS⟩) hF hN (fun h' t' k a b=>by rw [e];exact h h' t' k a b) hs ht hsz
theorem item_eq {i : Int} {u : Tok} (e : Txt.item x i = y) (hr : fitsSsize i = true) (h1 : -(x.length : Int) ≤ i) (h2 : i < x.length)
    (hs : subscripted slice false (.str x t) (.int i u) = operate [.str x t,.int i u] (getItem (.str x t) (.int i u)))
    (ht : ∀ r,letTemporaryGo value (.str x t) r = pure ()) (h : ∀ t',Q (.str y t') ⟨hpS,gnS,drS,tkS + 1,osS⟩) :
    wpAny (model prog w) A (subscriptTail value slice (.str x t) (.int i u)) Q E ⟨hpS,gnS,drS,tkS,osS⟩:=item_str (s:=⟨hpS,gnS,drS,tkS,osS⟩) hr h1 h2 (fun _=>by rw [e];exact h _) hs ht
end
structure NoMS (iname l0 : Str) : Prop where
  c9 : 0 < iname.length
  c0 : Txt.item iname 0 = l0
  c1 : (l0 == ("j" : Str)) = false
  c2 : (iname == ("call" : Str)) = false
  c3 : (iname == ("ret" : Str)) = false
  c4 : (["loop","loope","loopne"] : List Str).any (· == iname) = false
  n0 : (iname == ("nop" : Str)) = false
  n1 : (iname == ("mov" : Str)) = false
  n2 : (iname == ("lea" : Str)) = false
  n3 : (iname == ("xchg" : Str)) = false
  s0 : (iname == ("push" : Str)) = false
  s1 : (iname == ("pop" : Str)) = false
  s2 : (iname == ("pushfq" : Str)) = false
  s3 : (iname == ("popfq" : Str)) = false
  s4 : (iname == ("leave" : Str)) = false
structure StrNm (iname sort letter : Str) (size place : Int) : Prop where
  q1 : Txt.slice iname none (some 4) = sort
  q2 : (["movs","cmps","stos","lods","scas"] : List Str).any (· == sort) = true
  q3 : iname.length = 5
  q4 : Txt.item iname 4 = letter
  q5 : (Txt.find "bwdq" letter : Int) = place
  q6 : 0 ≤ place ∧ place ≤ 3
  q7 : 8 * 2 ^ place.toNat = size
  q8 : (sort == ("" : Str)) = false
theorem not_of_false {b : Bool} (h : b = false) : ¬ b = true:=by rw [h];decide
theorem bne_of {a b : Str} (h : (a == b) = false) : (a != b) = true:=by rw [bne,h];rfl
theorem get_c (B : Below A₀ base outer h₀) (F : Fr h₀ L hpS m) (X : (heapK w.params).In h₀) (N : News h₀ L hpS news) (T : Top viewK loose mean mg mb h₀) (hk : cs.kind = .function)
  {σ : StA} {τ : StT} {rip beg : Int} {vs : List Value} {ns : List Int} {ep : Nat} {τ' : StT} {rg rd : Addr} {rn : Value} {number size : Int}
  (hd : dp + 4 < recursionLimit) (hu : un + 8 * 4 < cLine)
  (h1 : (σ.x,instObj 511 σ.dx) ∈ news) (h2 : (σ.dx,stDict w τ σ rip beg) ∈ news) (h3 : (σ.regs,W.listOf vs.toArray ep) ∈ news) (hI : IntsAre vs ns) (hlen : ns.length = 16) (h4 : (rg,instObj 279 rd) ∈ news) (h5 : (rd,rgDict w τ' rn number size) ∈ news) (hnb : 0 ≤ number) (hnb2 : number < 16) (hsz : 0 ≤ size) (hsz2 : size ≤ 128)
  (ret : ∀ t h' tk',Fr h₀ L h' m → News h₀ L h' (news) → Q (.int (getI ns number size) t) ⟨h',gnS,drS,tk',osS⟩) :
  wpAny (model PySem.Challenge.rw_qd0115_01.row.prog w) (ktrTop dp un gd cn cs L a ccd cl outer) (call (.ref 426) [.ref σ.x,.ref rg]) Q E ⟨hpS,gnS,drS,tkS,osS⟩:=by
  have hS : ∀ q ∈ news,q ∈ news:=hs_self
  refine wpAny_call ?_
  ktr_enter
  k_steps
  all_goals (refine withKept_ok fun hK=>?_)
  all_goals (show Q _ _)
  all_goals (exact ret _ _ _ (by k_asm) (does_end N hK adr_refl (by k_asm)))
example : True:=by (k_with "call ref"=>(k_here;(with_reducible show wpAny _ _ (call (Value.ref 426) _ _) _ _ _);k_dflt (refine' get_c ?k1 ?k2 ?k3 ?k4 ?k5 ?kK ?kd ?ku ?m0 ?m1 ?m2 ?m3 ?m4 ?m5 ?m6 ?m7 ?m8 ?m9 ?m10 ?_;walk_at "ks";(case m0=>k_mem);(case m1=>k_mem);(case m2=>k_mem);(case m3=>k_asm);(case m4=>k_asm);(case m5=>k_mem);(case m6=>k_mem);(case m7=>walk_at "om");(case m8=>walk_at "om");(case m9=>walk_at "om");(case m10=>walk_at "om");k_whole;intro t' h' tk' F' N';(try k_sweep))));trivial

theorem joined_c (B : Below A₀ base outer h₀) (F : Fr h₀ L hpS m) (X : (heapK w.params).In h₀) (N : News h₀ L hpS news) (T : Top viewK loose mean mg mb h₀) (hk : cs.kind = .function)
  {x y size : Int} {t1 t2 t3 : Tok}
  (hd : dp + 3 < recursionLimit) (hu : un + 8 * 3 < cLine)
  (hsz : 0 ≤ size) (hsz2 : size ≤ 128)
  (ret : ∀ t h' tk',Fr h₀ L h' m → News h₀ L h' (news) → Q (.int (joinI x y size) t) ⟨h',gnS,drS,tk',osS⟩) :
  wpAny (model PySem.Challenge.rw_qd0115_01.row.prog w) (ktrTop dp un gd cn cs L a ccd cl outer) (call (.ref 405) [.int x t1,.int y t2,.int size t3]) Q E ⟨hpS,gnS,drS,tkS,osS⟩:=by
  have hS : ∀ q ∈ ([] : List (Addr × Obj)),q ∈ news:=fun q h=>nomatch h
  refine wpAny_call ?_
  ktr_enter
  k_steps
  all_goals (refine withKept_ok fun hK=>?_)
  all_goals (show Q _ _)
  · have e : y = joinI x y size:=(if_pos (by assumption)).symm
    rw [e]
    exact ret _ _ _ (by k_asm) (news_same N hK hS (nn:=[]) (fun _ h=>nomatch h) (fun _ h=>nomatch h))
  · have e : x - wrapI x size + y = joinI x y size:=(if_neg (by assumption)).symm
    rw [e]
    exact ret _ _ _ (by k_asm) (news_same N hK hS (nn:=[]) (fun _ h=>nomatch h) (fun _ h=>nomatch h))
example : True:=by (k_with "call ref"=>(k_here;(with_reducible show wpAny _ _ (call (Value.ref 405) _ _) _ _ _);k_dflt (refine' joined_c ?k1 ?k2 ?k3 ?k4 ?k5 ?kK ?kd ?ku ?m0 ?m1 ?_;walk_at "ks";(case m0=>walk_at "om");(case m1=>walk_at "om");k_whole;intro t' h' tk' F' N';(try k_sweep))));trivial

theorem put_c (B : Below A₀ base outer h₀) (F : Fr h₀ L hpS m) (X : (heapK w.params).In h₀) (N : News h₀ L hpS news) (T : Top viewK loose mean mg mb h₀) (hk : cs.kind = .function)
  {σ : StA} {τ : StT} {rip beg : Int} {vs : List Value} {ns : List Int} {ep : Nat} {τ' : StT} {rg rd : Addr} {rn : Value} {number size : Int} {g : Obj → List (Addr × Obj)} {y : Int} {t1 : Tok}
  (hd : dp + 5 < recursionLimit) (hu : un + 8 * 5 < cLine)
  (h1 : (σ.x,instObj 511 σ.dx) ∈ news) (h2 : (σ.dx,stDict w τ σ rip beg) ∈ news) (U : UpdF σ.regs (W.listOf vs.toArray ep) news g) (hI : IntsAre vs ns) (hlen : ns.length = 16) (h4 : (rg,instObj 279 rd) ∈ news) (h5 : (rd,rgDict w τ' rn number size) ∈ news) (hnb : 0 ≤ number) (hnb2 : number < 16) (hsz : 0 ≤ size) (hsz2 : size ≤ 128)
  (ret : ∀ vs' ep' h' tk',Fr h₀ L h' m → News h₀ L h' (g (W.listOf vs'.toArray ep')) → IntsAre vs' (putI ns number size y) → (putI ns number size y).length = 16 → Q (.none) ⟨h',gnS,drS,tk',osS⟩) :
  wpAny (model PySem.Challenge.rw_qd0115_01.row.prog w) (ktrTop dp un gd cn cs L a ccd cl outer) (call (.ref 433) [.ref σ.x,.ref rg,.int y t1]) Q E ⟨hpS,gnS,drS,tkS,osS⟩:=by
  have h3:=upd_in U
  have n1:=ne_of_cls N h1 h3 (by walk_at "cls")
  have n2:=ne_of_cls N h2 h3 (by walk_at "cls")
  have n3:=ne_of_cls N h4 h3 (by walk_at "cls")
  have n4:=ne_of_cls N h5 h3 (by walk_at "cls")
  have hS : ∀ q ∈ news,q ∈ news:=hs_self
  k_with "k_mem"=>((fail_if_success have:=off20);first | exact upd_new U | exact upd_keep U (by assumption) (by first | assumption | k_ne))
  k_with "k_updF"=>((fail_if_success have:=off20);exact upd_again U)
  k_with "k_upd"=>((fail_if_success have:=off20);exact upd_of (upd_again U))
  refine wpAny_call ?_
  ktr_enter
  k_steps
  all_goals (refine withKept_ok fun hK=>?_)
  all_goals (show Q _ _)
  rename IntsAre _ _=>iE
  all_goals (exact ret _ _ _ _ (by k_asm) (does_end N hK (adr_upd U) (by walk_at "nn")) iE (putI_length hlen))
example : True:=by (k_with "call ref"=>(k_here;(with_reducible show wpAny _ _ (call (Value.ref 433) _ _) _ _ _);k_dflt (refine' put_c ?k1 ?k2 ?k3 ?k4 ?k5 ?kK ?kd ?ku ?m0 ?m1 ?m2 ?m3 ?m4 ?m5 ?m6 ?m7 ?m8 ?m9 ?m10 ?_;walk_at "ks";(case m0=>k_mem);(case m1=>k_mem);(case m2=>k_updF);(case m3=>k_asm);(case m4=>k_asm);(case m5=>k_mem);(case m6=>k_mem);(case m7=>walk_at "om");(case m8=>walk_at "om");(case m9=>walk_at "om");(case m10=>walk_at "om");k_whole;intro vs' ep' h' tk' F' N' hx0' hx1';(try dsimp only at N');(try k_sweep))));trivial
theorem off20 : True:=trivial
theorem offset_c (B : Below A₀ base outer h₀) (F : Fr h₀ L hpS m) (X : (heapK w.params).In h₀) (N : News h₀ L hpS news) (T : Top viewK loose mean mg mb h₀) (hk : cs.kind = .function)
  {σ : StA} {τ : StT} {rip beg : Int} {vs : List Value} {ns : List Int} {ep : Nat} {τm τb : StT} {mo mod brg brd : Addr} {bn : Value} {disp msz : Int} {u1 u2 : Tok}
  (hd : dp + 6 < recursionLimit) (hu : un + 8 * 6 < cLine)
  (h1 : (σ.x,instObj 511 σ.dx) ∈ news) (h2 : (σ.dx,stDict w τ σ rip beg) ∈ news) (h3 : (σ.regs,W.listOf vs.toArray ep) ∈ news) (hI : IntsAre vs ns) (hlen : ns.length = 16) (b1 : (brg,instObj 279 brd) ∈ news) (b2 : (brd,rgDict w τb bn 7 64) ∈ news) (o1 : (mo,instObj 689 mod) ∈ news) (o2 : (mod,moDict w τm brg disp msz u1 u2) ∈ news)
  (ret : ∀ t h' tk',Fr h₀ L h' m → News h₀ L h' (news) → Q (.int (offI ns disp) t) ⟨h',gnS,drS,tk',osS⟩) :
  wpAny (model PySem.Challenge.rw_qd0115_01.row.prog w) (ktrTop dp un gd cn cs L a ccd cl outer) (call (.ref 452) [.ref σ.x,.ref mo]) Q E ⟨hpS,gnS,drS,tkS,osS⟩:=by
  have hS : ∀ q ∈ news,q ∈ news:=hs_self
  refine wpAny_call ?_
  ktr_enter
  k_steps
  all_goals (refine withKept_ok fun hK=>?_)
  all_goals (show Q _ _)
  all_goals (exact ret _ _ _ (by k_asm) (does_end N hK adr_refl (by k_asm)))
example : True:=by (k_with "call ref"=>(k_here;(with_reducible show wpAny _ _ (call (Value.ref 452) _ _) _ _ _);k_dflt (refine' offset_c ?k1 ?k2 ?k3 ?k4 ?k5 ?kK ?kd ?ku ?m0 ?m1 ?m2 ?m3 ?m4 ?m5 ?m6 ?m7 ?m8 ?_;walk_at "ks";(case m0=>k_mem);(case m1=>k_mem);(case m2=>k_mem);(case m3=>k_asm);(case m4=>k_asm);(case m5=>k_mem);(case m6=>k_mem);(case m7=>k_mem);(case m8=>k_mem);k_whole;intro t' h' tk' F' N';(try k_sweep))));trivial

theorem place_c (B : Below A₀ base outer h₀) (F : Fr h₀ L hpS m) (X : (heapK w.params).In h₀) (N : News h₀ L hpS news) (T : Top viewK loose mean mg mb h₀) (hk : cs.kind = .function)
  {σ : StA} {τ : StT} {rip beg : Int} {vs : List Value} {ns : List Int} {ep : Nat} {τm τb : StT} {mo mod brg brd : Addr} {bn : Value} {disp msz : Int} {u1 u2 : Tok}
  (hd : dp + 8 < recursionLimit) (hu : un + 8 * 8 < cLine)
  (h1 : (σ.x,instObj 511 σ.dx) ∈ news) (h2 : (σ.dx,stDict w τ σ rip beg) ∈ news) (h3 : (σ.regs,W.listOf vs.toArray ep) ∈ news) (hI : IntsAre vs ns) (hlen : ns.length = 16) (b1 : (brg,instObj 279 brd) ∈ news) (b2 : (brd,rgDict w τb bn 7 64) ∈ news) (o1 : (mo,instObj 689 mod) ∈ news) (o2 : (mod,moDict w τm brg disp msz u1 u2) ∈ news)
  (ret : ∀ t h' tk',Fr h₀ L h' m → News h₀ L h' (news) → Q (.int (placeI ns disp) t) ⟨h',gnS,drS,tk',osS⟩) :
  wpAny (model PySem.Challenge.rw_qd0115_01.row.prog w) (ktrTop dp un gd cn cs L a ccd cl outer) (call (.ref 459) [.ref σ.x,.ref mo]) Q E ⟨hpS,gnS,drS,tkS,osS⟩:=by
  have hS : ∀ q ∈ news,q ∈ news:=hs_self
  refine wpAny_call ?_
  ktr_enter
  k_steps
  all_goals (refine withKept_ok fun hK=>?_)
  all_goals (show Q _ _)
  all_goals (exact ret _ _ _ (by k_asm) (does_end N hK adr_refl (by k_asm)))
example : True:=by (k_with "call ref"=>(k_here;(with_reducible show wpAny _ _ (call (Value.ref 459) _ _) _ _ _);k_dflt (refine' place_c ?k1 ?k2 ?k3 ?k4 ?k5 ?kK ?kd ?ku ?m0 ?m1 ?m2 ?m3 ?m4 ?m5 ?m6 ?m7 ?m8 ?_;walk_at "ks";(case m0=>k_mem);(case m1=>k_mem);(case m2=>k_mem);(case m3=>k_asm);(case m4=>k_asm);(case m5=>k_mem);(case m6=>k_mem);(case m7=>k_mem);(case m8=>k_mem);k_whole;intro t' h' tk' F' N';(try k_sweep))));trivial

theorem size_reg2_c (B : Below A₀ base outer h₀) (F : Fr h₀ L hpS m) (X : (heapK w.params).In h₀) (N : News h₀ L hpS news) (T : Top viewK loose mean mg mb h₀) (hk : cs.kind = .function)
  {σ : StA} {τi : StT} {ins isd tp : Addr} {iname prefx : Str} {vv : Value} {τo τ' : StT} {ro rod rg rd : Addr} {rn : Value} {number size : Int}
  (hd : dp + 3 < recursionLimit) (hu : un + 8 * 3 < cLine)
  (x1 : (σ.x,instObj 511 σ.dx) ∈ news) (i1 : (ins,instObj 742 isd) ∈ news) (i2 : (isd,insDict w τi iname tp prefx) ∈ news) (i3 : (tp,tupObj [.ref ro,vv]) ∈ news) (r1 : (ro,instObj 602 rod) ∈ news) (r2 : (rod,roDict w τo rg) ∈ news) (r3 : (rg,instObj 279 rd) ∈ news) (r4 : (rd,rgDict w τ' rn number size) ∈ news)
  (ret : ∀ t h' tk',Fr h₀ L h' m → News h₀ L h' (news) → Q (.int size t) ⟨h',gnS,drS,tk',osS⟩) :
  wpAny (model PySem.Challenge.rw_qd0115_01.row.prog w) (ktrTop dp un gd cn cs L a ccd cl outer) (call (.ref 466) [.ref σ.x,.ref ro,.ref ins]) Q E ⟨hpS,gnS,drS,tkS,osS⟩:=by
  have hS : ∀ q ∈ [(ins,instObj 742 isd),(isd,insDict w τi iname tp prefx),(tp,tupObj [.ref ro,vv]),(ro,instObj 602 rod),(rod,roDict w τo rg),(rg,instObj 279 rd),(rd,rgDict w τ' rn number size)],q ∈ news:=by
    walk_at "hs in"
  refine wpAny_call ?_
  ktr_enter
  k_with "exec For"=>((fail_if_success have:=off21);(rename Fr _ _ _ _=>lF');(with_unfolding_all refine' For_invVF lF' ?k1 ?k2 ?_;(case k1=>exact rfl);(case k2=>exact rfl);k_whole))
  k_steps
  all_goals (refine withKept_ok fun hK=>?_)
  all_goals (show Q _ _)
  all_goals (exact ret _ _ _ (by k_asm) (news_same N hK hS (by k_asm) (by walk_at "hs sub")))
example : True:=by (k_with "call ref"=>(k_here;(with_reducible show wpAny _ _ (call (Value.ref 466) _ _) _ _ _);k_dflt (refine' size_reg2_c ?k1 ?k2 ?k3 ?k4 ?k5 ?kK ?kd ?ku ?m0 ?m1 ?m2 ?m3 ?m4 ?m5 ?m6 ?m7 ?_;walk_at "ks";(case m0=>k_mem);(case m1=>k_mem);(case m2=>k_mem);(case m3=>k_mem);(case m4=>k_mem);(case m5=>k_mem);(case m6=>k_mem);(case m7=>k_mem);k_whole;intro t' h' tk' F' N';(try k_sweep))));trivial

theorem size_reg1_c (B : Below A₀ base outer h₀) (F : Fr h₀ L hpS m) (X : (heapK w.params).In h₀) (N : News h₀ L hpS news) (T : Top viewK loose mean mg mb h₀) (hk : cs.kind = .function)
  {σ : StA} {τi : StT} {ins isd tp : Addr} {iname prefx : Str} {τo τ' : StT} {ro rod rg rd : Addr} {rn : Value} {number size : Int}
  (hd : dp + 3 < recursionLimit) (hu : un + 8 * 3 < cLine)
  (x1 : (σ.x,instObj 511 σ.dx) ∈ news) (i1 : (ins,instObj 742 isd) ∈ news) (i2 : (isd,insDict w τi iname tp prefx) ∈ news) (i3 : (tp,tupObj [.ref ro]) ∈ news) (r1 : (ro,instObj 602 rod) ∈ news) (r2 : (rod,roDict w τo rg) ∈ news) (r3 : (rg,instObj 279 rd) ∈ news) (r4 : (rd,rgDict w τ' rn number size) ∈ news)
  (ret : ∀ t h' tk',Fr h₀ L h' m → News h₀ L h' (news) → Q (.int size t) ⟨h',gnS,drS,tk',osS⟩) :
  wpAny (model PySem.Challenge.rw_qd0115_01.row.prog w) (ktrTop dp un gd cn cs L a ccd cl outer) (call (.ref 466) [.ref σ.x,.ref ro,.ref ins]) Q E ⟨hpS,gnS,drS,tkS,osS⟩:=by
  have hS : ∀ q ∈ [(ins,instObj 742 isd),(isd,insDict w τi iname tp prefx),(tp,tupObj [.ref ro]),(ro,instObj 602 rod),(rod,roDict w τo rg),(rg,instObj 279 rd),(rd,rgDict w τ' rn number size)],q ∈ news:=by
    walk_at "hs in"
  refine wpAny_call ?_
  ktr_enter
  k_with "exec For"=>((fail_if_success have:=off21);(rename Fr _ _ _ _=>lF');(with_unfolding_all refine' For_invVF lF' ?k1 ?k2 ?_;(case k1=>exact rfl);(case k2=>exact rfl);k_whole))
  k_steps
  all_goals (refine withKept_ok fun hK=>?_)
  all_goals (show Q _ _)
  all_goals (exact ret _ _ _ (by k_asm) (news_same N hK hS (by k_asm) (by walk_at "hs sub")))
example : True:=by (k_with "call ref"=>(k_here;(with_reducible show wpAny _ _ (call (Value.ref 466) _ _) _ _ _);k_dflt (refine' size_reg1_c ?k1 ?k2 ?k3 ?k4 ?k5 ?kK ?kd ?ku ?m0 ?m1 ?m2 ?m3 ?m4 ?m5 ?m6 ?m7 ?_;walk_at "ks";(case m0=>k_mem);(case m1=>k_mem);(case m2=>k_mem);(case m3=>k_mem);(case m4=>k_mem);(case m5=>k_mem);(case m6=>k_mem);(case m7=>k_mem);k_whole;intro t' h' tk' F' N';(try k_sweep))));trivial

theorem size_mem_c (B : Below A₀ base outer h₀) (F : Fr h₀ L hpS m) (X : (heapK w.params).In h₀) (N : News h₀ L hpS news) (T : Top viewK loose mean mg mb h₀) (hk : cs.kind = .function)
  {σ : StA} {τi : StT} {ins isd tp : Addr} {iname prefx : Str} {vv : Value} {τm : StT} {mo mod brg : Addr} {disp msz : Int} {u1 u2 : Tok}
  (hd : dp + 3 < recursionLimit) (hu : un + 8 * 3 < cLine)
  (x1 : (σ.x,instObj 511 σ.dx) ∈ news) (i1 : (ins,instObj 742 isd) ∈ news) (i2 : (isd,insDict w τi iname tp prefx) ∈ news) (i3 : (tp,tupObj [.ref mo,vv]) ∈ news) (o1 : (mo,instObj 689 mod) ∈ news) (o2 : (mod,moDict w τm brg disp msz u1 u2) ∈ news) (hm : 0 < msz)
  (ret : ∀ t h' tk',Fr h₀ L h' m → News h₀ L h' (news) → Q (.int msz t) ⟨h',gnS,drS,tk',osS⟩) :
  wpAny (model PySem.Challenge.rw_qd0115_01.row.prog w) (ktrTop dp un gd cn cs L a ccd cl outer) (call (.ref 466) [.ref σ.x,.ref mo,.ref ins]) Q E ⟨hpS,gnS,drS,tkS,osS⟩:=by
  have hS : ∀ q ∈ [(ins,instObj 742 isd),(isd,insDict w τi iname tp prefx),(tp,tupObj [.ref mo,vv]),(mo,instObj 689 mod),(mod,moDict w τm brg disp msz u1 u2)],q ∈ news:=by
    walk_at "hs in"
  refine wpAny_call ?_
  ktr_enter
  k_with "exec For"=>((fail_if_success have:=off21);(rename Fr _ _ _ _=>lF');(with_unfolding_all refine' For_invVF lF' ?k1 ?k2 ?_;(case k1=>exact rfl);(case k2=>exact rfl);k_whole))
  k_steps
  all_goals (refine withKept_ok fun hK=>?_)
  all_goals (show Q _ _)
  all_goals (exact ret _ _ _ (by k_asm) (news_same N hK hS (by k_asm) (by walk_at "hs sub")))
example : True:=by (k_with "call ref"=>(k_here;(with_reducible show wpAny _ _ (call (Value.ref 466) _ _) _ _ _);k_dflt (refine' size_mem_c ?k1 ?k2 ?k3 ?k4 ?k5 ?kK ?kd ?ku ?m0 ?m1 ?m2 ?m3 ?m4 ?m5 ?m6 ?_;walk_at "ks";(case m0=>k_mem);(case m1=>k_mem);(case m2=>k_mem);(case m3=>k_mem);(case m4=>k_mem);(case m5=>k_mem);(case m6=>walk_at "om");k_whole;intro t' h' tk' F' N';(try k_sweep))));trivial
theorem off21 : True:=trivial
theorem sread_reg_c (B : Below A₀ base outer h₀) (F : Fr h₀ L hpS m) (X : (heapK w.params).In h₀) (N : News h₀ L hpS news) (T : Top viewK loose mean mg mb h₀) (hk : cs.kind = .function)
  {σ : StA} {τ : StT} {rip beg : Int} {vs : List Value} {ns : List Int} {ep : Nat} {τo τ' : StT} {ro rod rg rd : Addr} {rn : Value} {number size : Int} {sz : Int} {t1 : Tok}
  (hd : dp + 6 < recursionLimit) (hu : un + 8 * 6 < cLine)
  (h1 : (σ.x,instObj 511 σ.dx) ∈ news) (h2 : (σ.dx,stDict w τ σ rip beg) ∈ news) (h3 : (σ.regs,W.listOf vs.toArray ep) ∈ news) (hI : IntsAre vs ns) (hlen : ns.length = 16) (r1 : (ro,instObj 602 rod) ∈ news) (r2 : (rod,roDict w τo rg) ∈ news) (r3 : (rg,instObj 279 rd) ∈ news) (r4 : (rd,rgDict w τ' rn number size) ∈ news) (hnb : 0 ≤ number) (hnb2 : number < 16) (hsz : 0 ≤ size) (hsz2 : size ≤ 128) (hz1 : 0 ≤ sz) (hz2 : sz ≤ 128)
  (ret : ∀ t h' tk',Fr h₀ L h' m → News h₀ L h' (news) → Q (.int (wrapI (getI ns number size) sz) t) ⟨h',gnS,drS,tk',osS⟩) :
  wpAny (model PySem.Challenge.rw_qd0115_01.row.prog w) (ktrTop dp un gd cn cs L a ccd cl outer) (call (.ref 473) [.ref σ.x,.ref ro,.int sz t1]) Q E ⟨hpS,gnS,drS,tkS,osS⟩:=by
  have hS : ∀ q ∈ news,q ∈ news:=hs_self
  refine wpAny_call ?_
  ktr_enter
  k_steps
  all_goals (refine withKept_ok fun hK=>?_)
  all_goals (show Q _ _)
  all_goals (exact ret _ _ _ (by k_asm) (does_end N hK adr_refl (by k_asm)))
example : True:=by (k_with "call ref"=>(k_here;(with_reducible show wpAny _ _ (call (Value.ref 473) _ _) _ _ _);k_dflt (refine' sread_reg_c ?k1 ?k2 ?k3 ?k4 ?k5 ?kK ?kd ?ku ?m0 ?m1 ?m2 ?m3 ?m4 ?m5 ?m6 ?m7 ?m8 ?m9 ?m10 ?m11 ?m12 ?m13 ?m14 ?_;walk_at "ks";(case m0=>k_mem);(case m1=>k_mem);(case m2=>k_mem);(case m3=>k_asm);(case m4=>k_asm);(case m5=>k_mem);(case m6=>k_mem);(case m7=>k_mem);(case m8=>k_mem);(case m9=>walk_at "om");(case m10=>walk_at "om");(case m11=>walk_at "om");(case m12=>walk_at "om");(case m13=>walk_at "om");(case m14=>walk_at "om");k_whole;intro t' h' tk' F' N';(try k_sweep))));trivial

theorem sread_mem_c (B : Below A₀ base outer h₀) (F : Fr h₀ L hpS m) (X : (heapK w.params).In h₀) (N : News h₀ L hpS news) (T : Top viewK loose mean mg mb h₀) (hk : cs.kind = .function)
  {σ : StA} {τ : StT} {rip beg : Int} {vs : List Value} {ns : List Int} {ep : Nat} {τm τb : StT} {mo mod brg brd : Addr} {bn : Value} {disp msz : Int} {u1 u2 : Tok} {o : Obj} {D : List (Int × Int)} {th : Tok} {sz : Int} {t1 : Tok}
  (hd : dp + 10 < recursionLimit) (hu : un + 8 * 10 < cLine)
  (h1 : (σ.x,instObj 511 σ.dx) ∈ news) (h2 : (σ.dx,stDict w τ σ rip beg) ∈ news) (h3 : (σ.regs,W.listOf vs.toArray ep) ∈ news) (hI : IntsAre vs ns) (hlen : ns.length = 16) (b1 : (brg,instObj 279 brd) ∈ news) (b2 : (brd,rgDict w τb bn 7 64) ∈ news) (o1 : (mo,instObj 689 mod) ∈ news) (o2 : (mod,moDict w τm brg disp msz u1 u2) ∈ news) (e1 : (σ.me,instObj 394 σ.md) ∈ news) (e2 : (σ.md,dictOf [ent w "held" th (.ref σ.held)] 1) ∈ news) (e3 : (σ.held,o) ∈ news) (e4 : IsMem w o D) (e5 : (σ.held == sysModules) = false) (e6 : OkD D) (hz1 : 0 ≤ sz) (hz2 : sz ≤ 128)
  (ret : ∀ t h' tk',Fr h₀ L h' m → News h₀ L h' (news) → Q (.int (readI D (placeI ns disp) (Int.fdiv sz 8)) t) ⟨h',gnS,drS,tk',osS⟩) :
  wpAny (model PySem.Challenge.rw_qd0115_01.row.prog w) (ktrTop dp un gd cn cs L a ccd cl outer) (call (.ref 473) [.ref σ.x,.ref mo,.int sz t1]) Q E ⟨hpS,gnS,drS,tkS,osS⟩:=by
  have hq:=fdiv8 hz1 hz2
  have hS : ∀ q ∈ news,q ∈ news:=hs_self
  refine wpAny_call ?_
  ktr_enter
  k_steps
  all_goals (refine withKept_ok fun hK=>?_)
  all_goals (show Q _ _)
  all_goals (exact ret _ _ _ (by k_asm) (does_end N hK adr_refl (by k_asm)))
example : True:=by (k_with "call ref"=>(k_here;(with_reducible show wpAny _ _ (call (Value.ref 473) _ _) _ _ _);k_dflt (refine' sread_mem_c ?k1 ?k2 ?k3 ?k4 ?k5 ?kK ?kd ?ku ?m0 ?m1 ?m2 ?m3 ?m4 ?m5 ?m6 ?m7 ?m8 ?m9 ?m10 ?m11 ?m12 ?m13 ?m14 ?m15 ?m16 ?_;walk_at "ks";(case m0=>k_mem);(case m1=>k_mem);(case m2=>k_mem);(case m3=>k_asm);(case m4=>k_asm);(case m5=>k_mem);(case m6=>k_mem);(case m7=>k_mem);(case m8=>k_mem);(case m9=>k_mem);(case m10=>k_mem);(case m11=>k_mem);(case m12=>k_asm);(case m13=>k_asm);(case m14=>k_asm);(case m15=>walk_at "om");(case m16=>walk_at "om");k_whole;intro t' h' tk' F' N';(try k_sweep))));trivial

theorem sread_imm_c (B : Below A₀ base outer h₀) (F : Fr h₀ L hpS m) (X : (heapK w.params).In h₀) (N : News h₀ L hpS news) (T : Top viewK loose mean mg mb h₀) (hk : cs.kind = .function)
  {σ : StA} {τo : StT} {io iod : Addr} {y : Int} {sz : Int} {t1 : Tok}
  (hd : dp + 4 < recursionLimit) (hu : un + 8 * 4 < cLine)
  (x1 : (σ.x,instObj 511 σ.dx) ∈ news) (j1 : (io,instObj 636 iod) ∈ news) (j2 : (iod,ioDict w τo y) ∈ news) (hz1 : 0 ≤ sz) (hz2 : sz ≤ 128)
  (ret : ∀ t h' tk',Fr h₀ L h' m → News h₀ L h' (news) → Q (.int (wrapI y sz) t) ⟨h',gnS,drS,tk',osS⟩) :
  wpAny (model PySem.Challenge.rw_qd0115_01.row.prog w) (ktrTop dp un gd cn cs L a ccd cl outer) (call (.ref 473) [.ref σ.x,.ref io,.int sz t1]) Q E ⟨hpS,gnS,drS,tkS,osS⟩:=by
  have hS : ∀ q ∈ news,q ∈ news:=hs_self
  refine wpAny_call ?_
  ktr_enter
  k_steps
  all_goals (refine withKept_ok fun hK=>?_)
  all_goals (show Q _ _)
  all_goals (exact ret _ _ _ (by k_asm) (does_end N hK adr_refl (by k_asm)))
example : True:=by (k_with "call ref"=>(k_here;(with_reducible show wpAny _ _ (call (Value.ref 473) _ _) _ _ _);k_dflt (refine' sread_imm_c ?k1 ?k2 ?k3 ?k4 ?k5 ?kK ?kd ?ku ?m0 ?m1 ?m2 ?m3 ?m4 ?_;walk_at "ks";(case m0=>k_mem);(case m1=>k_mem);(case m2=>k_mem);(case m3=>walk_at "om");(case m4=>walk_at "om");k_whole;intro t' h' tk' F' N';(try k_sweep))));trivial

theorem put_low_c (B : Below A₀ base outer h₀) (F : Fr h₀ L hpS m) (X : (heapK w.params).In h₀) (N : News h₀ L hpS news) (T : Top viewK loose mean mg mb h₀) (hk : cs.kind = .function)
  {σ : StA} {τ : StT} {rip beg : Int} {vs : List Value} {ns : List Int} {ep : Nat} {τ' : StT} {rg rd : Addr} {rn : Value} {number size : Int} {g : Obj → List (Addr × Obj)} {sz y : Int} {t1 t2 : Tok}
  (hd : dp + 6 < recursionLimit) (hu : un + 8 * 6 < cLine)
  (h1 : (σ.x,instObj 511 σ.dx) ∈ news) (h2 : (σ.dx,stDict w τ σ rip beg) ∈ news) (U : UpdF σ.regs (W.listOf vs.toArray ep) news g) (hI : IntsAre vs ns) (hlen : ns.length = 16) (r3 : (rg,instObj 279 rd) ∈ news) (r4 : (rd,rgDict w τ' rn number size) ∈ news) (hnb : 0 ≤ number) (hnb2 : number < 16) (hsz : 0 ≤ size) (hsz2 : size ≤ 128)
  (ret : ∀ vs' ep' h' tk',Fr h₀ L h' m → News h₀ L h' (g (W.listOf vs'.toArray ep')) → IntsAre vs' (putI ns number size y) → (putI ns number size y).length = 16 → Q (.none) ⟨h',gnS,drS,tk',osS⟩) :
  wpAny (model PySem.Challenge.rw_qd0115_01.row.prog w) (ktrTop dp un gd cn cs L a ccd cl outer) (call (.ref 440) [.ref σ.x,.ref rg,.int sz t1,.int y t2]) Q E ⟨hpS,gnS,drS,tkS,osS⟩:=by
  have h3:=upd_in U
  have n1:=ne_of_cls N h1 h3 (by walk_at "cls")
  have n2:=ne_of_cls N h2 h3 (by walk_at "cls")
  have n5:=ne_of_cls N r3 h3 (by walk_at "cls")
  have n6:=ne_of_cls N r4 h3 (by walk_at "cls")
  have hS : ∀ q ∈ news,q ∈ news:=hs_self
  k_with "k_mem"=>((fail_if_success have:=off22);first | exact upd_new U | exact upd_keep U (by assumption) (by first | assumption | k_ne))
  k_with "k_updF"=>((fail_if_success have:=off22);exact upd_again U)
  k_with "k_upd"=>((fail_if_success have:=off22);exact upd_of (upd_again U))
  refine wpAny_call ?_
  ktr_enter
  k_steps
  all_goals (refine withKept_ok fun hK=>?_)
  all_goals (show Q _ _)
  rename IntsAre _ _=>iE
  all_goals (exact ret _ _ _ _ (by k_asm) (does_end N hK (adr_upd U) (by walk_at "nn")) iE (putI_length hlen))
example : True:=by (k_with "call ref"=>(k_here;(with_reducible show wpAny _ _ (call (Value.ref 440) _ _) _ _ _);k_dflt (refine' put_low_c ?k1 ?k2 ?k3 ?k4 ?k5 ?kK ?kd ?ku ?m0 ?m1 ?m2 ?m3 ?m4 ?m5 ?m6 ?m7 ?m8 ?m9 ?m10 ?_;walk_at "ks";(case m0=>k_mem);(case m1=>k_mem);(case m2=>k_updF);(case m3=>k_asm);(case m4=>k_asm);(case m5=>k_mem);(case m6=>k_mem);(case m7=>walk_at "om");(case m8=>walk_at "om");(case m9=>walk_at "om");(case m10=>walk_at "om");k_whole;intro vs' ep' h' tk' F' N' hx0' hx1';(try dsimp only at N');(try k_sweep))));trivial

theorem swrite_reg_c (B : Below A₀ base outer h₀) (F : Fr h₀ L hpS m) (X : (heapK w.params).In h₀) (N : News h₀ L hpS news) (T : Top viewK loose mean mg mb h₀) (hk : cs.kind = .function)
  {σ : StA} {τ : StT} {rip beg : Int} {vs : List Value} {ns : List Int} {ep : Nat} {τo τ' : StT} {ro rod rg rd : Addr} {rn : Value} {number size : Int} {g : Obj → List (Addr × Obj)} {sz y : Int} {t1 t2 : Tok}
  (hd : dp + 7 < recursionLimit) (hu : un + 8 * 7 < cLine)
  (h1 : (σ.x,instObj 511 σ.dx) ∈ news) (h2 : (σ.dx,stDict w τ σ rip beg) ∈ news) (U : UpdF σ.regs (W.listOf vs.toArray ep) news g) (hI : IntsAre vs ns) (hlen : ns.length = 16) (r1 : (ro,instObj 602 rod) ∈ news) (r2 : (rod,roDict w τo rg) ∈ news) (r3 : (rg,instObj 279 rd) ∈ news) (r4 : (rd,rgDict w τ' rn number size) ∈ news) (hnb : 0 ≤ number) (hnb2 : number < 16) (hsz : 0 ≤ size) (hsz2 : size ≤ 128)
  (ret : ∀ vs' ep' h' tk',Fr h₀ L h' m → News h₀ L h' (g (W.listOf vs'.toArray ep')) → IntsAre vs' (putI ns number size y) → (putI ns number size y).length = 16 → Q (.none) ⟨h',gnS,drS,tk',osS⟩) :
  wpAny (model PySem.Challenge.rw_qd0115_01.row.prog w) (ktrTop dp un gd cn cs L a ccd cl outer) (call (.ref 480) [.ref σ.x,.ref ro,.int sz t1,.int y t2]) Q E ⟨hpS,gnS,drS,tkS,osS⟩:=by
  have h3:=upd_in U
  have n1:=ne_of_cls N h1 h3 (by walk_at "cls")
  have n2:=ne_of_cls N h2 h3 (by walk_at "cls")
  have n3:=ne_of_cls N r1 h3 (by walk_at "cls")
  have n4:=ne_of_cls N r2 h3 (by walk_at "cls")
  have n5:=ne_of_cls N r3 h3 (by walk_at "cls")
  have n6:=ne_of_cls N r4 h3 (by walk_at "cls")
  have hS : ∀ q ∈ news,q ∈ news:=hs_self
  k_with "k_mem"=>((fail_if_success have:=off22);first | exact upd_new U | exact upd_keep U (by assumption) (by first | assumption | k_ne))
  k_with "k_updF"=>((fail_if_success have:=off22);exact upd_again U)
  k_with "k_upd"=>((fail_if_success have:=off22);exact upd_of (upd_again U))
  refine wpAny_call ?_
  ktr_enter
  k_steps
  all_goals (refine withKept_ok fun hK=>?_)
  all_goals (show Q _ _)
  rename IntsAre _ _=>iE
  all_goals (exact ret _ _ _ _ (by k_asm) (does_end N hK (adr_upd U) (by walk_at "nn")) iE (putI_length hlen))
example : True:=by (k_with "call ref"=>(k_here;(with_reducible show wpAny _ _ (call (Value.ref 480) _ _) _ _ _);k_dflt (refine' swrite_reg_c ?k1 ?k2 ?k3 ?k4 ?k5 ?kK ?kd ?ku ?m0 ?m1 ?m2 ?m3 ?m4 ?m5 ?m6 ?m7 ?m8 ?m9 ?m10 ?m11 ?m12 ?_;walk_at "ks";(case m0=>k_mem);(case m1=>k_mem);(case m2=>k_updF);(case m3=>k_asm);(case m4=>k_asm);(case m5=>k_mem);(case m6=>k_mem);(case m7=>k_mem);(case m8=>k_mem);(case m9=>walk_at "om");(case m10=>walk_at "om");(case m11=>walk_at "om");(case m12=>walk_at "om");k_whole;intro vs' ep' h' tk' F' N' hx0' hx1';(try dsimp only at N');(try k_sweep))));trivial
theorem off22 : True:=trivial
theorem swrite_mem_c (B : Below A₀ base outer h₀) (F : Fr h₀ L hpS m) (X : (heapK w.params).In h₀) (N : News h₀ L hpS news) (T : Top viewK loose mean mg mb h₀) (hk : cs.kind = .function)
  {σ : StA} {τ : StT} {rip beg : Int} {vs : List Value} {ns : List Int} {ep : Nat} {τm τb : StT} {mo mod brg brd : Addr} {bn : Value} {disp msz : Int} {u1 u2 : Tok} {o : Obj} {D : List (Int × Int)} {th : Tok} {g : Obj → List (Addr × Obj)} {sz y : Int} {t1 t2 : Tok}
  (hd : dp + 10 < recursionLimit) (hu : un + 8 * 10 < cLine)
  (h1 : (σ.x,instObj 511 σ.dx) ∈ news) (h2 : (σ.dx,stDict w τ σ rip beg) ∈ news) (h3 : (σ.regs,W.listOf vs.toArray ep) ∈ news) (hI : IntsAre vs ns) (hlen : ns.length = 16) (b1 : (brg,instObj 279 brd) ∈ news) (b2 : (brd,rgDict w τb bn 7 64) ∈ news) (o1 : (mo,instObj 689 mod) ∈ news) (o2 : (mod,moDict w τm brg disp msz u1 u2) ∈ news) (e1 : (σ.me,instObj 394 σ.md) ∈ news) (e2 : (σ.md,dictOf [ent w "held" th (.ref σ.held)] 1) ∈ news) (U : UpdF σ.held o news g) (e4 : IsMem w o D) (e5 : (σ.held == sysModules) = false) (e6 : OkD D) (e7 : σ.md ≠ σ.held) (e8 : σ.me ≠ σ.held) (e9 : σ.dx ≠ σ.held) (e10 : σ.x ≠ σ.held) (e11 : σ.regs ≠ σ.held) (e12 : mo ≠ σ.held) (e13 : mod ≠ σ.held) (e14 : brg ≠ σ.held) (e15 : brd ≠ σ.held) (hz1 : 0 ≤ sz) (hz2 : sz ≤ 128) (hl : D.length ≤ 3900)
  (ret : ∀ o' h' tk',Fr h₀ L h' m → News h₀ L h' (g o') → IsMem w o' (writeI D (placeI ns disp) (Int.fdiv sz 8) y) → OkD (writeI D (placeI ns disp) (Int.fdiv sz 8) y) → (writeI D (placeI ns disp) (Int.fdiv sz 8) y).length ≤ D.length + 16 → Q (.none) ⟨h',gnS,drS,tk',osS⟩) :
  wpAny (model PySem.Challenge.rw_qd0115_01.row.prog w) (ktrTop dp un gd cn cs L a ccd cl outer) (call (.ref 480) [.ref σ.x,.ref mo,.int sz t1,.int y t2]) Q E ⟨hpS,gnS,drS,tkS,osS⟩:=by
  have h3':=upd_in U
  have hq:=fdiv8 hz1 hz2
  have hS : ∀ q ∈ news,q ∈ news:=hs_self
  k_with "k_mem"=>((fail_if_success have:=off23);first | exact upd_new U | exact upd_keep U (by assumption) (by first | assumption | k_ne))
  k_with "k_updF"=>((fail_if_success have:=off23);exact upd_again U)
  k_with "k_upd"=>((fail_if_success have:=off23);exact upd_of (upd_again U))
  refine wpAny_call ?_
  ktr_enter
  k_steps
  all_goals (refine withKept_ok fun hK=>?_)
  all_goals (show Q _ _)
  rename IsMem _ _ _=>mE
  all_goals (exact ret _ _ _ (by k_asm) (does_end N hK (adr_upd U) (by walk_at "nn")) mE (by assumption) (by assumption))
example : True:=by (k_with "call ref"=>(k_here;(with_reducible show wpAny _ _ (call (Value.ref 480) _ _) _ _ _);k_dflt (refine' swrite_mem_c ?k1 ?k2 ?k3 ?k4 ?k5 ?kK ?kd ?ku ?m0 ?m1 ?m2 ?m3 ?m4 ?m5 ?m6 ?m7 ?m8 ?m9 ?m10 ?m11 ?m12 ?m13 ?m14 ?m15 ?m16 ?m17 ?m18 ?m19 ?m20 ?m21 ?m22 ?m23 ?m24 ?m25 ?m26 ?_;walk_at "ks";(case m0=>k_mem);(case m1=>k_mem);(case m2=>k_mem);(case m3=>k_asm);(case m4=>k_asm);(case m5=>k_mem);(case m6=>k_mem);(case m7=>k_mem);(case m8=>k_mem);(case m9=>k_mem);(case m10=>k_mem);(case m11=>k_updF);(case m12=>k_asm);(case m13=>k_asm);(case m14=>k_asm);(case m15=>k_ne);(case m16=>k_ne);(case m17=>k_ne);(case m18=>k_ne);(case m19=>k_ne);(case m20=>k_ne);(case m21=>k_ne);(case m22=>k_ne);(case m23=>k_ne);(case m24=>walk_at "om");(case m25=>walk_at "om");(case m26=>walk_at "om");k_whole;intro o' h' tk' F' N' hx0' hx1' hx2';(try dsimp only at N');(try k_sweep))));trivial
theorem off23 : True:=trivial
theorem push_c (B : Below A₀ base outer h₀) (F : Fr h₀ L hpS m) (X : (heapK w.params).In h₀) (N : News h₀ L hpS news) (T : Top viewK loose mean mg mb h₀) (hk : cs.kind = .function)
  {σ : StA} {τ : StT} {rip beg : Int} {vs : List Value} {ns : List Int} {ep : Nat} {o : Obj} {D : List (Int × Int)} {th : Tok} {g1 : Obj → List (Addr × Obj)} {g2 : Obj → Obj → List (Addr × Obj)} {width y : Int} {t1 t2 : Tok}
  (hd : dp + 9 < recursionLimit) (hu : un + 8 * 9 < cLine)
  (h1 : (σ.x,instObj 511 σ.dx) ∈ news) (h2 : (σ.dx,stDict w τ σ rip beg) ∈ news) (U1 : UpdF σ.regs (W.listOf vs.toArray ep) news g1) (hI : IntsAre vs ns) (hlen : ns.length = 16) (e1 : (σ.me,instObj 394 σ.md) ∈ news) (e2 : (σ.md,dictOf [ent w "held" th (.ref σ.held)] 1) ∈ news) (hrh : σ.regs ≠ σ.held) (U2 : ∀ o1,UpdF σ.held o (g1 o1) (g2 o1)) (e4 : IsMem w o D) (e5 : (σ.held == sysModules) = false) (e6 : OkD D) (hw1 : 0 ≤ width) (hw2 : width ≤ 16) (hl : D.length ≤ 3900)
  (ret : ∀ (vs' : List Value) (ep' : Nat) (o' : Obj) h' tk',Fr h₀ L h' m → News h₀ L h' (g2 (W.listOf vs'.toArray ep') o') → IntsAre vs' (pushRegs ns width) → (pushRegs ns width).length = 16 → IsMem w o' (writeI D ((pushRegs ns width).getD 4 0) width y) → OkD (writeI D ((pushRegs ns width).getD 4 0) width y) → (writeI D ((pushRegs ns width).getD 4 0) width y).length ≤ D.length + 16 → Q (.none) ⟨h',gnS,drS,tk',osS⟩) :
  wpAny (model PySem.Challenge.rw_qd0115_01.row.prog w) (ktrTop dp un gd cn cs L a ccd cl outer) (call (.ref 487) [.ref σ.x,.int y t1,.int width t2]) Q E ⟨hpS,gnS,drS,tkS,osS⟩:=by
  have h3:=upd_in U1
  have e3 : (σ.held,o) ∈ news:=by
    rcases upd_mem U1 (upd_in (U2 (W.listOf vs.toArray ep))) with e | ⟨e,_⟩
    · exact absurd (congrArg Prod.fst e).symm hrh
    · exact e
  have q_e3:=Ne.symm hrh
  have q_h1:=ne_of_cls N h1 h3 (by walk_at "cls")
  have q_h2:=ne_of_cls N h2 h3 (by walk_at "cls")
  have q_e1:=ne_of_cls N e1 h3 (by walk_at "cls")
  have q_e2:=ne_of_cls N e2 h3 (by walk_at "cls")
  have w_h2:=ne_of_obj N h2 e3 (isMem_ne e4)
  have w_e2:=ne_of_obj N e2 e3 (isMem_ne e4)
  have w_h1:=ne_of_obj N h1 e3 (isMem_inst e4 (by walk_at "cls"))
  have w_e1:=ne_of_obj N e1 e3 (isMem_inst e4 (by walk_at "cls"))
  have hS : ∀ q ∈ news,q ∈ news:=hs_self
  k_with "k_mem"=>((fail_if_success have:=off25);first | exact upd_keep U1 (by assumption) (by assumption) | exact upd_new U1 | exact upd_new (U2 _) | exact upd_keep (U2 _) (upd_keep U1 (by assumption) (by assumption)) (by assumption) | exact upd_keep (U2 _) (upd_new U1) (by assumption))
  k_with "k_updF"=>((fail_if_success have:=off25);first | exact U2 _ | exact upd_again U1 | exact upd_swap U1 U2 | exact upd_again (upd_swap U1 U2) | exact upd_swap2 U1 U2 (by assumption))
  k_with "k_upd"=>((fail_if_success have:=off25);first | exact upd_of U1 | exact upd_of (U2 _) | exact upd_of (upd_again U1) | exact upd_of (upd_swap U1 U2) | exact upd_of (upd_again (upd_swap U1 U2)) | exact upd_of (upd_swap2 U1 U2 (by assumption)))
  refine wpAny_call ?_
  ktr_enter
  k_steps
  all_goals (refine withKept_ok fun hK=>?_)
  all_goals (show Q _ _)
  rename IntsAre _ _=>iE
  rename IsMem _ _ _=>mE
  all_goals (exact ret _ _ _ _ _ (by k_asm) (does_end N hK (adr_upd2 U1 U2) (by walk_at "nn")) iE (by simp only [putI_length,pushRegs,popRegs,List.length_set,hlen]) mE (by assumption) (by assumption))
example : True:=by (k_with "call ref"=>(k_here;(with_reducible show wpAny _ _ (call (Value.ref 487) _ _) _ _ _);k_dflt (refine' push_c ?k1 ?k2 ?k3 ?k4 ?k5 ?kK ?kd ?ku ?m0 ?m1 ?m2 ?m3 ?m4 ?m5 ?m6 ?m7 ?m8 ?m9 ?m10 ?m11 ?m12 ?m13 ?m14 ?_;walk_at "ks";(case m0=>k_mem);(case m1=>k_mem);(case m2=>k_updF);(case m3=>k_asm);(case m4=>k_asm);(case m5=>k_mem);(case m6=>k_mem);(case m7=>k_asm);(case m8=>(intro o1;(try dsimp only);k_updF));(case m9=>k_asm);(case m10=>k_asm);(case m11=>k_asm);(case m12=>walk_at "om");(case m13=>walk_at "om");(case m14=>walk_at "om");k_whole;intro vs' ep' o' h' tk' F' N' hx0' hx1' hx2' hx3' hx4';(try dsimp only at N');(try k_sweep))));trivial

theorem pop_c (B : Below A₀ base outer h₀) (F : Fr h₀ L hpS m) (X : (heapK w.params).In h₀) (N : News h₀ L hpS news) (T : Top viewK loose mean mg mb h₀) (hk : cs.kind = .function)
  {σ : StA} {τ : StT} {rip beg : Int} {vs : List Value} {ns : List Int} {ep : Nat} {o : Obj} {D : List (Int × Int)} {th : Tok} {g : Obj → List (Addr × Obj)} {width : Int} {t1 : Tok}
  (hd : dp + 9 < recursionLimit) (hu : un + 8 * 9 < cLine)
  (h1 : (σ.x,instObj 511 σ.dx) ∈ news) (h2 : (σ.dx,stDict w τ σ rip beg) ∈ news) (U : UpdF σ.regs (W.listOf vs.toArray ep) news g) (hI : IntsAre vs ns) (hlen : ns.length = 16) (e1 : (σ.me,instObj 394 σ.md) ∈ news) (e2 : (σ.md,dictOf [ent w "held" th (.ref σ.held)] 1) ∈ news) (e3 : (σ.held,o) ∈ news) (e4 : IsMem w o D) (e5 : (σ.held == sysModules) = false) (e6 : OkD D) (hw1 : 0 ≤ width) (hw2 : width ≤ 16)
  (ret : ∀ (vs' : List Value) (ep' : Nat) (t : Tok) h' tk',Fr h₀ L h' m → News h₀ L h' (g (W.listOf vs'.toArray ep')) → IntsAre vs' (popRegs ns width) → (popRegs ns width).length = 16 → Q (.int (readI D (ns.getD 4 0) width) t) ⟨h',gnS,drS,tk',osS⟩) :
  wpAny (model PySem.Challenge.rw_qd0115_01.row.prog w) (ktrTop dp un gd cn cs L a ccd cl outer) (call (.ref 494) [.ref σ.x,.int width t1]) Q E ⟨hpS,gnS,drS,tkS,osS⟩:=by
  have h3:=upd_in U
  have q_h1:=ne_of_cls N h1 h3 (by walk_at "cls")
  have q_h2:=ne_of_cls N h2 h3 (by walk_at "cls")
  have q_e1:=ne_of_cls N e1 h3 (by walk_at "cls")
  have q_e2:=ne_of_cls N e2 h3 (by walk_at "cls")
  have q_e3:=ne_of_obj N e3 h3 (isMem_list e4 (by walk_at "cls"))
  have hS : ∀ q ∈ news,q ∈ news:=hs_self
  k_with "k_mem"=>((fail_if_success have:=off25);first | exact upd_new U | exact upd_keep U (by assumption) (by first | assumption | k_ne))
  k_with "k_updF"=>((fail_if_success have:=off25);exact upd_again U)
  k_with "k_upd"=>((fail_if_success have:=off25);exact upd_of (upd_again U))
  refine wpAny_call ?_
  ktr_enter
  k_steps
  all_goals (refine withKept_ok fun hK=>?_)
  all_goals (show Q _ _)
  rename IntsAre _ _=>iE
  all_goals (exact ret _ _ _ _ _ (by k_asm) (does_end N hK (adr_upd U) (by walk_at "nn")) iE (by simp only [putI_length,pushRegs,popRegs,List.length_set,hlen]))
example : True:=by (k_with "call ref"=>(k_here;(with_reducible show wpAny _ _ (call (Value.ref 494) _ _) _ _ _);k_dflt (refine' pop_c ?k1 ?k2 ?k3 ?k4 ?k5 ?kK ?kd ?ku ?m0 ?m1 ?m2 ?m3 ?m4 ?m5 ?m6 ?m7 ?m8 ?m9 ?m10 ?m11 ?m12 ?_;walk_at "ks";(case m0=>k_mem);(case m1=>k_mem);(case m2=>k_updF);(case m3=>k_asm);(case m4=>k_asm);(case m5=>k_mem);(case m6=>k_mem);(case m7=>k_mem);(case m8=>k_asm);(case m9=>k_asm);(case m10=>k_asm);(case m11=>walk_at "om");(case m12=>walk_at "om");k_whole;intro vs' ep' t' h' tk' F' N' hx0' hx1';(try dsimp only at N');(try k_sweep))));trivial
theorem off25 : True:=trivial
section
 local macro_rules | `(tactic| k_lt $h) => `(tactic| replace $h := off_lt0 $h)
theorem bit_c (B : Below A₀ base outer h₀) (F : Fr h₀ L hpS m) (X : (heapK w.params).In h₀) (N : News h₀ L hpS news) (T : Top viewK loose mean mg mb h₀) (hk : cs.kind = .function)
  {x n : Int} {t t1 : Tok}
  (hd : dp + 2 < recursionLimit) (hu : un + 8 * 2 < cLine)
  (hn : 0 ≤ n) (hn2 : n ≤ 128)
  (ret : ∀ t h' tk',Fr h₀ L h' m → News h₀ L h' (news) → Q (.int (bitI x n) t) ⟨h',gnS,drS,tk',osS⟩) :
  wpAny (model PySem.Challenge.rw_qd0115_01.row.prog w) (ktrTop dp un gd cn cs L a ccd cl outer) (call (.ref 94) [.int x t,.int n t1]) Q E ⟨hpS,gnS,drS,tkS,osS⟩:=by
  have hS : ∀ q ∈ ([] : List (Addr × Obj)),q ∈ news:=fun q h=>nomatch h
  refine wpAny_call ?_
  ktr_enter
  k_steps
  all_goals (refine withKept_ok fun hK=>?_)
  all_goals (show Q _ _)
  all_goals (exact ret _ _ _ (by k_asm) (news_same N hK hS (nn:=[]) (fun _ h=>nomatch h) (fun _ h=>nomatch h)))
example : True:=by (k_with "call ref"=>(k_here;(with_reducible show wpAny _ _ (call (Value.ref 94) _ _) _ _ _);k_dflt (refine' bit_c ?k1 ?k2 ?k3 ?k4 ?k5 ?kK ?kd ?ku ?m0 ?m1 ?_;walk_at "ks";(case m0=>walk_at "om");(case m1=>walk_at "om");k_whole;intro t' h' tk' F' N';(try k_sweep))));trivial

theorem ones_c (B : Below A₀ base outer h₀) (F : Fr h₀ L hpS m) (X : (heapK w.params).In h₀) (N : News h₀ L hpS news) (T : Top viewK loose mean mg mb h₀) (hk : cs.kind = .function)
  {x n : Int} {t t1 : Tok}
  (hd : dp + 3 < recursionLimit) (hu : un + 8 * 3 < cLine)
  (hn : 0 ≤ n) (hn2 : n ≤ 128)
  (ret : ∀ t h' tk',Fr h₀ L h' m → News h₀ L h' (news) → Q (.int (onesI (wrapI x n)) t) ⟨h',gnS,drS,tk',osS⟩) :
  wpAny (model PySem.Challenge.rw_qd0115_01.row.prog w) (ktrTop dp un gd cn cs L a ccd cl outer) (call (.ref 101) [.int x t,.int n t1]) Q E ⟨hpS,gnS,drS,tkS,osS⟩:=by
  have hS : ∀ q ∈ ([] : List (Addr × Obj)),q ∈ news:=fun q h=>nomatch h
  refine wpAny_call ?_
  ktr_enter
  have hb0:=wrapI_bounds x n
  k_with "state"=>((fail_if_success have:=off30);first | exact ⟨hb0.1,by omega⟩ | (have hst:=onesI_step (by assumption);exact ⟨(bitAnd_bounds _ (by omega)).1,by omega⟩))
  k_with "measure"=>((fail_if_success have:=off30);have hbb:=(fun (r : Int) (h : 0 < r)=>bitAnd_bounds r (y:=r - 1) (by omega)) _ (by assumption);omega)
  k_with "exec While Compare cons nil"=>(fail_if_success have:=off30);k_while (fun _ r c=>0 ≤ r ∧ c + onesI r = onesI (wrapI x n)) (fun _ r _=>r.toNat) "rest" "count"
  k_steps
  refine withKept_ok fun hK=>?_
  show Q _ _
  rename (_ + onesI _ = _)=>hR
  rename (¬ 0 < _)=>hZ
  rw [onesI_zero hZ,Int.add_zero] at hR
  rw [hR]
  exact ret _ _ _ (by k_asm) (news_same N hK hS (nn:=[]) (fun _ h=>nomatch h) (fun _ h=>nomatch h))
example : True:=by (k_with "call ref"=>(k_here;(with_reducible show wpAny _ _ (call (Value.ref 101) _ _) _ _ _);k_dflt (refine' ones_c ?k1 ?k2 ?k3 ?k4 ?k5 ?kK ?kd ?ku ?m0 ?m1 ?_;walk_at "ks";(case m0=>walk_at "om");(case m1=>walk_at "om");k_whole;intro t' h' tk' F' N';(try k_sweep))));trivial

theorem parity_c (B : Below A₀ base outer h₀) (F : Fr h₀ L hpS m) (X : (heapK w.params).In h₀) (N : News h₀ L hpS news) (T : Top viewK loose mean mg mb h₀) (hk : cs.kind = .function)
  {x : Int} {t : Tok}
  (hd : dp + 5 < recursionLimit) (hu : un + 8 * 5 < cLine)
  
  (ret : ∀ t h' tk',Fr h₀ L h' m → News h₀ L h' (news) → Q (.int (parityI x) t) ⟨h',gnS,drS,tk',osS⟩) :
  wpAny (model PySem.Challenge.rw_qd0115_01.row.prog w) (ktrTop dp un gd cn cs L a ccd cl outer) (call (.ref 108) [.int x t]) Q E ⟨hpS,gnS,drS,tkS,osS⟩:=by
  have hS : ∀ q ∈ ([] : List (Addr × Obj)),q ∈ news:=fun q h=>nomatch h
  refine wpAny_call ?_
  ktr_enter
  k_steps
  all_goals (refine withKept_ok fun hK=>?_)
  all_goals (show Q _ _)
  all_goals (exact ret _ _ _ (by k_asm) (news_same N hK hS (nn:=[]) (fun _ h=>nomatch h) (fun _ h=>nomatch h)))
example : True:=by (k_with "call ref"=>(k_here;(with_reducible show wpAny _ _ (call (Value.ref 108) _ _) _ _ _);k_dflt (refine' parity_c ?k1 ?k2 ?k3 ?k4 ?k5 ?kK ?kd ?ku  ?_;walk_at "ks"; k_whole;intro t' h' tk' F' N';(try k_sweep))));trivial

theorem szp_c (B : Below A₀ base outer h₀) (F : Fr h₀ L hpS m) (X : (heapK w.params).In h₀) (N : News h₀ L hpS news) (T : Top viewK loose mean mg mb h₀) (hk : cs.kind = .function)
  {fl fd : Addr} {τ : FlT} {f : Fl} {g : Obj → List (Addr × Obj)} {x size : Int} {t t1 : Tok}
  (hd : dp + 7 < recursionLimit) (hu : un + 8 * 7 < cLine)
  (f1 : (fl,instObj 188 fd) ∈ news) (U : UpdF fd (flDict w τ f) news g) (hz1 : 0 < size) (hz2 : size ≤ 128)
  (ret : ∀ (o' : Obj) (t : Tok) h' tk',Fr h₀ L h' m → News h₀ L h' (g o') → IsFl w o' (szpF f x size) → Q (.int (wrapI x size) t) ⟨h',gnS,drS,tk',osS⟩) :
  wpAny (model PySem.Challenge.rw_qd0115_01.row.prog w) (ktrTop dp un gd cn cs L a ccd cl outer) (call (.ref 220) [.ref fl,.int x t,.int size t1]) Q E ⟨hpS,gnS,drS,tkS,osS⟩:=by
  have f2:=upd_in U
  have q1:=ne_of_cls N f1 f2 (by walk_at "cls")
  have hS : ∀ q ∈ news,q ∈ news:=hs_self
  k_with "k_mem"=>((fail_if_success have:=off30);first | exact upd_new U | exact upd_keep U (by assumption) (by first | assumption | k_ne))
  k_with "k_updF"=>((fail_if_success have:=off30);exact upd_again U)
  k_with "k_upd"=>((fail_if_success have:=off30);exact upd_of (upd_again U))
  refine wpAny_call ?_
  ktr_enter
  k_steps
  all_goals (refine withKept_ok fun hK=>?_)
  all_goals (show Q _ _)
  · rename wrapI x size = 0=>hz
    exact ret _ _ _ _ (by k_asm) (does_end N hK (adr_upd U) (by walk_at "nn")) (isFl_of rfl rfl rfl (by unfold szpF;rw [if_pos hz]) rfl rfl rfl)
  · rename ¬ wrapI x size = 0=>hz
    exact ret _ _ _ _ (by k_asm) (does_end N hK (adr_upd U) (by walk_at "nn")) (isFl_of rfl rfl rfl (by unfold szpF;rw [if_neg hz]) rfl rfl rfl)
example : True:=by (k_with "call ref"=>(k_here;(with_reducible show wpAny _ _ (call (Value.ref 220) _ _) _ _ _);k_dflt (refine' szp_c ?k1 ?k2 ?k3 ?k4 ?k5 ?kK ?kd ?ku ?m0 ?m1 ?m2 ?m3 ?_;walk_at "ks";(case m0=>k_mem);(case m1=>k_updF);(case m2=>walk_at "om");(case m3=>walk_at "om");k_whole;intro o' t' h' tk' F' N' hx0';obtain ⟨τ',rfl⟩:=hx0';(try dsimp only at N');(try k_sweep))));trivial

theorem ite_ints {prog : Program} {A : Around} {env : Env} {c : Prop} {d : Decidable c} {i j : Int} {k1 k2 : Nat} {p1 p2 : Pos} (h : Q (.int (@ite Int c d i j) tkS) ⟨hpS,gnS,drS,tkS + 1,osS⟩) :
    @ite Prop c d (wpAny (model prog w) A (eval (.Constant (.int i) k1 p1) env) Q E ⟨hpS,gnS,drS,tkS,osS⟩) (wpAny (model prog w) A (eval (.Constant (.int j) k2 p2) env) Q E ⟨hpS,gnS,drS,tkS,osS⟩):=by
  by_cases hc : c
  · rw [if_pos hc] at h ⊢;exact wpAny_Constant_int h
  · rw [if_neg hc] at h ⊢;exact wpAny_Constant_int h
theorem sub_c (B : Below A₀ base outer h₀) (F : Fr h₀ L hpS m) (X : (heapK w.params).In h₀) (N : News h₀ L hpS news) (T : Top viewK loose mean mg mb h₀) (hk : cs.kind = .function)
  {fl fd : Addr} {τ : FlT} {f : Fl} {g : Obj → List (Addr × Obj)} {p q size : Int} {t t1 t2 t3 : Tok}
  (hd : dp + 9 < recursionLimit) (hu : un + 8 * 9 < cLine)
  (f1 : (fl,instObj 188 fd) ∈ news) (U : UpdF fd (flDict w τ f) news g) (hz1 : 0 < size) (hz2 : size ≤ 128)
  (ret : ∀ (o' : Obj) (t : Tok) h' tk',Fr h₀ L h' m → News h₀ L h' (g o') → IsFl w o' (subF f p q size) → Q (.int (wrapI (wrapI p size - wrapI q size - 0) size) t) ⟨h',gnS,drS,tk',osS⟩) :
  wpAny (model PySem.Challenge.rw_qd0115_01.row.prog w) (ktrTop dp un gd cn cs L a ccd cl outer) (call (.ref 227) [.ref fl,.int p t,.int q t1,.int 0 t2,.int size t3]) Q E ⟨hpS,gnS,drS,tkS,osS⟩:=by
  have f2:=upd_in U
  have q1:=ne_of_cls N f1 f2 (by walk_at "cls")
  have hS : ∀ q ∈ news,q ∈ news:=hs_self
  k_with "k_mem"=>((fail_if_success have:=off30);first | exact upd_new U | exact upd_keep U (by assumption) (by first | assumption | k_ne))
  k_with "k_updF"=>((fail_if_success have:=off30);exact upd_again U)
  k_with "k_upd"=>((fail_if_success have:=off30);exact upd_of (upd_again U))
  refine wpAny_call ?_
  ktr_enter
  k_with "ite"=>((fail_if_success have:=off30);refine ite_ints ?_)
  k_steps
  all_goals (refine withKept_ok fun hK=>?_)
  all_goals (show Q _ _)
  exact ret _ _ _ _ (by k_asm) (does_end N hK (adr_upd U) (by walk_at "nn")) (isFl_of (by simp only [decide_eq_true_eq];rfl) rfl (by simp only [decide_eq_true_eq];rfl) rfl rfl rfl rfl)
example : True:=by (k_with "call ref"=>(k_here;(with_reducible show wpAny _ _ (call (Value.ref 227) _ _) _ _ _);k_dflt (refine' sub_c ?k1 ?k2 ?k3 ?k4 ?k5 ?kK ?kd ?ku ?m0 ?m1 ?m2 ?m3 ?_;walk_at "ks";(case m0=>k_mem);(case m1=>k_updF);(case m2=>walk_at "om");(case m3=>walk_at "om");k_whole;intro o' t' h' tk' F' N' hx0';obtain ⟨τ',rfl⟩:=hx0';(try dsimp only at N');(try k_sweep))));trivial
end
theorem off30 : True:=trivial
theorem reads_strs {h : Heap} : ∀ l : List (Str × Tok),ReadsAll h (strValues l) (l.map fun p=>PyData.str p.1) []
  | []=>.nil
  | p :: r=>.cons (.str _ _) (reads_strs r)
theorem eq_names {A : Around} {d d2 : Addr} {l : List (Str × Tok)} {e e2 : Nat} (N : News h₀ L hpS news) (m1 : (d,W.listOf (strValues l).toArray e) ∈ news) (m2 : (d2,W.listOf #[] e2) ∈ news) (hl : l.length = 8)
    (hs : SeqAt.shaped (.list (l.map fun p=>PyData.str p.1)) = true) (hu : A.units + 64 < cLine) (h : Q (.bool false) ⟨hpS,gnS,drS,tkS,osS⟩) :
    wpAny (model PySem.Challenge.rw_qd0115_01.row.prog w) A (compareOp .Eq (.ref d) (.ref d2)) Q E ⟨hpS,gnS,drS,tkS,osS⟩:=by
  refine eq_dataH (reads_list_at (N.get m1) rfl rfl (reads_strs l)) (reads_list_at (N.get m2) rfl rfl .nil) hs (by decide +kernel) hu ?_
  cases l with
  | nil=>cases hl
  | cons p r=>exact h
noncomputable def DoesV (w : World) (loose : List Str) (mean : ExcName → Option Value) (mg mb : Str → Option Value) (depth units : Nat) (addr : Addr) (args : List Value) (news : List (Addr × Obj)) {ι : Type} (v : ι → Value) (post : ι → List (Addr × Obj)) (Pf : ι → Prop) : Prop :=
  ∀ {dp un : Nat} {gd : Option (List Code)} {cn : Str} {cs : Scope} {L a : Addr} {ccd : Value} {cl : List (Str × Addr)} {outer : List Env} {A₀ : Around} {base h₀ : Heap} {m : Str → Option Value} {hpS : Heap} {gnS : Array GenState} {drS : Drawn} {tkS : Nat} {osS : OsState} {Q E : Value → Shared → Prop},
    Below A₀ base outer h₀ → Fr h₀ L hpS m → (heapK w.params).In h₀ → News h₀ L hpS news → Top viewK loose mean mg mb h₀ → cs.kind = .function → dp + depth < recursionLimit → un + 8 * units < cLine →
    (∀ i h' tk',Pf i → Fr h₀ L h' m → News h₀ L h' (post i) → Q (v i) ⟨h',gnS,drS,tk',osS⟩) →
    wpAny (model PySem.Challenge.rw_qd0115_01.row.prog w) (ktrTop dp un gd cn cs L a ccd cl outer) (call (.ref addr) args) Q E ⟨hpS,gnS,drS,tkS,osS⟩
theorem doesV_use {depth units : Nat} {addr : Addr} {args : List Value} {ι : Type} {v : ι → Value} {post : ι → List (Addr × Obj)} {Pf : ι → Prop} (D : DoesV w loose mean mg mb depth units addr args news v post Pf)
    (B : Below A₀ base outer h₀) (F : Fr h₀ L hpS m) (X : (heapK w.params).In h₀) (N : News h₀ L hpS news) (T : Top viewK loose mean mg mb h₀) (hk : cs.kind = .function) (hd : dp + depth < recursionLimit) (hu : un + 8 * units < cLine)
    (ret : ∀ i h' tk',Pf i → Fr h₀ L h' m → News h₀ L h' (post i) → Q (v i) ⟨h',gnS,drS,tk',osS⟩) :
    wpAny (model PySem.Challenge.rw_qd0115_01.row.prog w) (ktrTop dp un gd cn cs L a ccd cl outer) (call (.ref addr) args) Q E ⟨hpS,gnS,drS,tkS,osS⟩:=D B F X N T hk hd hu ret
theorem names_ok {x : Str} {l : List (Str × Tok)} (h : l.map (·.1) = Txt.words x) (hx : (Txt.words x).length = 8) (hs : SeqAt.shaped (.list ((Txt.words x).map PyData.str)) = true) : l.length = 8 ∧ SeqAt.shaped (.list (l.map fun p=>PyData.str p.1)) = true:=by
  constructor
  · rw [← hx,← h,List.length_map]
  · have e : (l.map fun p=>PyData.str p.1) = (Txt.words x).map PyData.str:=by rw [← h,List.map_map];rfl
    rw [e];exact hs
theorem early_does {size : Int} {t1 : Tok} (hs : size = 8 ∨ size = 16 ∨ size = 32 ∨ size = 64) :
    DoesV w loose mean mg mb 3 4 290 [.int size t1] news (fun i : Addr × List (Str × Tok)=>.ref i.1) (fun i=>(i.1,W.listOf (strValues i.2).toArray 0) :: news) (fun i=>i.2.length = 8 ∧ SeqAt.shaped (.list (i.2.map fun p=>PyData.str p.1)) = true ∧ Off news i.1):=by
  intro dp un gd cn cs L a ccd cl outer A₀ base h₀ m hpS gnS drS tkS osS Q E B F X N T hk hd hu ret
  have hS : ∀ q ∈ ([] : List (Addr × Obj)),q ∈ news:=fun q h=>nomatch h
  k_with "call builtin:str.split"=>((fail_if_success have:=off31);k_here;(with_reducible show wpAny _ _ (call (Value.builtin "str.split") [Value.str _ _]) _ _ _);k_dflt (refine' KSpl.split0 ?k1 ?k2 ?_ ?k3;(case k1=>k_asm);(case k2=>k_asm);(case k3=>decide +kernel));intro nd9 nl9 h' tk' ne9 _ F' N' _;(try k_sweep))
  rcases hs with rfl | rfl | rfl | rfl
  all_goals (refine wpAny_call ?_;ktr_enter;k_steps)
  all_goals (refine withKept_ok fun hK=>?_)
  all_goals (show Q _ _)
  all_goals (
    rename News g' _ _ _=>nE
    exact ret (nd9,nl9) _ _ ⟨(names_ok ne9 (by decide +kernel) (by decide +kernel)).1,(names_ok ne9 (by decide +kernel) (by decide +kernel)).2,ne_alloc N hG' nE (.head _) (fun _ h=>nomatch h)⟩ (by k_asm) (news_cons (by k_asm) (.head _) (news_same N hK hS (nn:=[]) (fun _ h=>nomatch h) (fun _ h=>nomatch h))))
theorem gpr_c (B : Below A₀ base outer h₀) (F : Fr h₀ L hpS m) (X : (heapK w.params).In h₀) (N : News h₀ L hpS news) (T : Top viewK loose mean mg mb h₀) (hk : cs.kind = .function)
  {number size : Int} {t1 t2 : Tok}
  (hd : dp + 5 < recursionLimit) (hu : un + 8 * 20 < cLine)
  (hn1 : 0 ≤ number) (hn2 : number < 8) (hs : size = 8 ∨ size = 16 ∨ size = 32 ∨ size = 64)
  (ret : ∀ (rg rd : Addr) (nv : Value) (τ' : StT) h' tk',Fr h₀ L h' m → News h₀ L h' ((rg,instObj 279 rd) :: (rd,rgDict w τ' nv number size) :: news) → Off news rg → Off ((rg,instObj 279 rd) :: news) rd → Q (.ref rg) ⟨h',gnS,drS,tk',osS⟩) :
  wpAny (model PySem.Challenge.rw_qd0115_01.row.prog w) (ktrTop dp un gd cn cs L a ccd cl outer) (call (.ref 304) [.int number t1,.int size t2]) Q E ⟨hpS,gnS,drS,tkS,osS⟩:=by
  have hS : ∀ q ∈ ([] : List (Addr × Obj)),q ∈ news:=fun q h=>nomatch h
  k_with "call ref"=>((fail_if_success have:=off31);k_here;(with_reducible show wpAny _ _ (call (Value.ref 290) _ _) _ _ _);(k_dflt (refine' doesV_use (early_does hs) ?k1 ?k2 ?k3 ?k4 ?k5 ?kK ?kd ?ku ?_;walk_at "ks";k_whole;intro i9 h' tk' P9 F' N';(try k_sweep))))
  k_with "compareOp Eq ref ref"=>((fail_if_success have:=off31);k_here;(with_reducible show wpAny _ _ (compareOp CmpOp.Eq (Value.ref _) (Value.ref _)) _ _ _);k_dflt (refine' eq_names ?k1 ?k2 ?k3 P9.1 P9.2.1 ?room ?_;(case k1=>k_asm);(case k2=>k_mem);(case k3=>k_mem);(case room=>ktr_units)))
  k_with "subscriptTail Name Name ref int"=>((fail_if_success have:=off31);k_here;(with_reducible show wpAny _ _ (subscriptTail (PySem.Expr.Name (Str.ofString "names") _) _ (Value.ref _) (Value.int _ _)) _ _ _);k_dflt (refine item_any (News.isList (by k_asm) (by k_mem)) (by omega) (by rw [show (strValues i9.2).length = i9.2.length from List.length_map ..,P9.1];exact hn2) (by omega) ?_ (by with_unfolding_all rfl));intro nv9 _)
  refine wpAny_call ?_
  ktr_enter
  k_steps
  all_goals (refine withKept_ok fun hK=>?_)
  all_goals (show Q _ _)
  all_goals (
    rename News h₀ _ _ _=>nH
    exact ret _ _ _ ⟨_,0,_,_,_,_,_,_,0,0,0,0⟩ _ _ (by k_asm) (news_cons nH (by k_mem) (news_cons nH (by k_mem) (news_same N hK hS (nn:=[]) (fun _ h=>nomatch h) (fun _ h=>nomatch h)))) (ne_alloc N hG' (by assumption) (by k_mem) (fun _ h=>nomatch h)) (off_cons (by k_ne) (ne_alloc N hG' (by assumption) (by k_mem) (fun _ h=>nomatch h))))
example : True:=by (k_with "call ref"=>(k_here;(with_reducible show wpAny _ _ (call (Value.ref 304) _ _) _ _ _);k_dflt (refine' gpr_c ?k1 ?k2 ?k3 ?k4 ?k5 ?kK ?kd ?ku ?m0 ?m1 ?m2 ?_;walk_at "ks";(case m0=>walk_at "om");(case m1=>walk_at "om");(case m2=>first | k_asm | decide | omega);k_whole;intro rg' rd' nv' τ' h' tk' F' N' hx0' hx1';(try k_sweep))));trivial
theorem off31 : True:=trivial
theorem go_on_c (B : Below A₀ base outer h₀) (F : Fr h₀ L hpS m) (X : (heapK w.params).In h₀) (N : News h₀ L hpS news) (T : Top viewK loose mean mg mb h₀) (hk : cs.kind = .function)
  {σ : StA} {τ : StT} {rip beg : Int} {vs : List Value} {ns : List Int} {ep : Nat} {τf : FlT} {f : Fl} {g : Obj → List (Addr × Obj)} {number width : Int} {t1 t2 : Tok}
  (hd : dp + 5 < recursionLimit) (hu : un + 8 * 5 < cLine)
  (h1 : (σ.x,instObj 511 σ.dx) ∈ news) (h2 : (σ.dx,stDict w τ σ rip beg) ∈ news) (U : UpdF σ.regs (W.listOf vs.toArray ep) news g) (hI : IntsAre vs ns) (hlen : ns.length = 16) (f1 : (σ.fl,instObj 188 σ.fd) ∈ news) (f2 : (σ.fd,flDict w τf f) ∈ news) (hn1 : 0 ≤ number) (hn2 : number < 16) (hw1 : 0 ≤ width) (hw2 : width ≤ 16)
  (ret : ∀ (vs' : List Value) (ep' : Nat) h' tk',Fr h₀ L h' m → News h₀ L h' (g (W.listOf vs'.toArray ep')) → IntsAre vs' (goI ns number width f.df) → (goI ns number width f.df).length = 16 → Q (.none) ⟨h',gnS,drS,tk',osS⟩) :
  wpAny (model PySem.Challenge.rw_qd0115_01.row.prog w) (ktrTop dp un gd cn cs L a ccd cl outer) (call (.ref 837) [.ref σ.x,.int number t1,.int width t2]) Q E ⟨hpS,gnS,drS,tkS,osS⟩:=by
  have h3:=upd_in U
  have q_h1:=ne_of_cls N h1 h3 (by walk_at "cls")
  have q_h2:=ne_of_cls N h2 h3 (by walk_at "cls")
  have q_f1:=ne_of_cls N f1 h3 (by walk_at "cls")
  have q_f2:=ne_of_cls N f2 h3 (by walk_at "cls")
  have hS : ∀ q ∈ news,q ∈ news:=hs_self
  k_with "k_mem"=>((fail_if_success have:=off32);first | exact upd_new U | exact upd_keep U (by assumption) (by first | assumption | k_ne))
  k_with "k_updF"=>((fail_if_success have:=off32);exact upd_again U)
  k_with "k_upd"=>((fail_if_success have:=off32);exact upd_of (upd_again U))
  refine wpAny_call ?_
  ktr_enter
  k_steps
  all_goals (refine withKept_ok fun hK=>?_)
  all_goals (show Q _ _)
  all_goals (rename IntsAre _ _=>iE)
  · rename f.df = 0=>hdf
    have e : ns.set number.toNat (wrapI (ns.getD number.toNat 0 + (width)) 64) = goI ns number width f.df:=by unfold goI;rw [if_pos hdf]
    rw [e] at iE
    exact ret _ _ _ _ (by k_asm) (does_end N hK (adr_upd U) (by walk_at "nn")) iE (goI_length hlen)
  · rename ¬ f.df = 0=>hdf
    have e : ns.set number.toNat (wrapI (ns.getD number.toNat 0 + (-width)) 64) = goI ns number width f.df:=by unfold goI;rw [if_neg hdf]
    rw [e] at iE
    exact ret _ _ _ _ (by k_asm) (does_end N hK (adr_upd U) (by walk_at "nn")) iE (goI_length hlen)
example : True:=by (k_with "call ref"=>(k_here;(with_reducible show wpAny _ _ (call (Value.ref 837) _ _) _ _ _);k_dflt (refine' go_on_c ?k1 ?k2 ?k3 ?k4 ?k5 ?kK ?kd ?ku ?m0 ?m1 ?m2 ?m3 ?m4 ?m5 ?m6 ?m7 ?m8 ?m9 ?m10 ?_;walk_at "ks";(case m0=>k_mem);(case m1=>k_mem);(case m2=>k_updF);(case m3=>k_asm);(case m4=>k_asm);(case m5=>k_mem);(case m6=>k_mem);(case m7=>walk_at "om");(case m8=>walk_at "om");(case m9=>walk_at "om");(case m10=>walk_at "om");k_whole;intro vs' ep' h' tk' F' N' hx0' hx1';(try dsimp only at N');(try k_sweep))));trivial

theorem r_stos (B : Below A₀ base outer h₀) (F : Fr h₀ L hpS m) (X : (heapK w.params).In h₀) (N : News h₀ L hpS news) (T : Top viewK loose mean mg mb h₀) (hk : cs.kind = .function)
  {σ : StA} {τ : StT} {rip beg : Int} {vs : List Value} {ns : List Int} {ep : Nat} {τf : FlT} {f : Fl} {o : Obj} {D : List (Int × Int)} {th : Tok} {g1 : Obj → List (Addr × Obj)} {g2 : Obj → Obj → List (Addr × Obj)} {size : Int} {t1 t2 : Tok}
  (hd : dp + 12 < recursionLimit) (hu : un + 8 * 22 < cLine)
  (h1 : (σ.x,instObj 511 σ.dx) ∈ news) (h2 : (σ.dx,stDict w τ σ rip beg) ∈ news) (U1 : UpdF σ.regs (W.listOf vs.toArray ep) news g1) (hI : IntsAre vs ns) (hlen : ns.length = 16) (f1 : (σ.fl,instObj 188 σ.fd) ∈ news) (f2 : (σ.fd,flDict w τf f) ∈ news) (e1 : (σ.me,instObj 394 σ.md) ∈ news) (e2 : (σ.md,dictOf [ent w "held" th (.ref σ.held)] 1) ∈ news) (hrh : σ.regs ≠ σ.held) (U2 : ∀ o1,UpdF σ.held o (g1 o1) (g2 o1)) (e4 : IsMem w o D) (e5 : (σ.held == sysModules) = false) (e6 : OkD D) (hs : size = 8 ∨ size = 16 ∨ size = 32 ∨ size = 64) (hl : D.length ≤ 3900)
  (ret : ∀ (vs' : List Value) (ep' : Nat) (o' : Obj) h' tk',Fr h₀ L h' m → News h₀ L h' (g2 (W.listOf vs'.toArray ep') o') → IntsAre vs' (goI ns 7 (Int.fdiv size 8) f.df) → (goI ns 7 (Int.fdiv size 8) f.df).length = 16 → IsMem w o' (writeI D (ns.getD 7 0) (Int.fdiv size 8) (wrapI (ns.getD 0 0) size)) → OkD (writeI D (ns.getD 7 0) (Int.fdiv size 8) (wrapI (ns.getD 0 0) size)) → (writeI D (ns.getD 7 0) (Int.fdiv size 8) (wrapI (ns.getD 0 0) size)).length ≤ D.length + 16 → Q (.none) ⟨h',gnS,drS,tk',osS⟩) :
  wpAny (model PySem.Challenge.rw_qd0115_01.row.prog w) (ktrTop dp un gd cn cs L a ccd cl outer) (call (.ref 844) [.ref σ.x,.str "stos" t1,.int size t2]) Q E ⟨hpS,gnS,drS,tkS,osS⟩:=by
  have h3:=upd_in U1
  have e3 : (σ.held,o) ∈ news:=by
    rcases upd_mem U1 (upd_in (U2 (W.listOf vs.toArray ep))) with e | ⟨e,_⟩
    · exact absurd (congrArg Prod.fst e).symm hrh
    · exact e
  have q_e3:=Ne.symm hrh
  have hq:=fdiv8 (sz:=size) (by omega) (by omega)
  have q_h1:=ne_of_cls N h1 h3 (by walk_at "cls")
  have q_h2:=ne_of_cls N h2 h3 (by walk_at "cls")
  have q_f1:=ne_of_cls N f1 h3 (by walk_at "cls")
  have q_f2:=ne_of_cls N f2 h3 (by walk_at "cls")
  have q_e1:=ne_of_cls N e1 h3 (by walk_at "cls")
  have q_e2:=ne_of_cls N e2 h3 (by walk_at "cls")
  have w_h2:=ne_of_obj N h2 e3 (isMem_ne e4)
  have w_f2:=ne_of_obj N f2 e3 (isMem_ne e4)
  have w_e2:=ne_of_obj N e2 e3 (isMem_ne e4)
  have w_h1:=ne_of_obj N h1 e3 (isMem_inst e4 (by walk_at "cls"))
  have w_f1:=ne_of_obj N f1 e3 (isMem_inst e4 (by walk_at "cls"))
  have w_e1:=ne_of_obj N e1 e3 (isMem_inst e4 (by walk_at "cls"))
  have hS : ∀ q ∈ news,q ∈ news:=hs_self
  k_with "k_mem"=>((fail_if_success have:=off32);first | exact upd_keep U1 (by assumption) (by assumption) | exact upd_new U1 | exact upd_new (U2 _) | exact upd_keep (U2 _) (upd_keep U1 (by assumption) (by assumption)) (by assumption) | exact upd_keep (U2 _) (upd_new U1) (by assumption))
  k_with "k_updF"=>((fail_if_success have:=off32);first | exact U2 _ | exact upd_again U1 | exact upd_swap U1 U2 | exact upd_again (upd_swap U1 U2) | exact upd_swap2 U1 U2 (by assumption))
  k_with "k_upd"=>((fail_if_success have:=off32);first | exact upd_of U1 | exact upd_of (U2 _) | exact upd_of (upd_again U1) | exact upd_of (upd_swap U1 U2) | exact upd_of (upd_again (upd_swap U1 U2)) | exact upd_of (upd_swap2 U1 U2 (by assumption)))
  refine wpAny_call ?_
  ktr_enter
  k_steps
  all_goals (refine withKept_ok fun hK=>?_)
  all_goals (show Q _ _)
  rename IntsAre _ _=>iE
  rename IsMem _ _ _=>mE
  all_goals (exact ret _ _ _ _ _ (by k_asm) (does_end N hK (adr_upd2 U1 U2) (by walk_at "nn")) iE (by simp only [goI_length,putI_length,hlen]) mE (by assumption) (by assumption))
example : True:=by (k_with "call ref"=>(k_here;(with_reducible show wpAny _ _ (call (Value.ref 844) _ _) _ _ _);k_dflt (refine' r_stos ?k1 ?k2 ?k3 ?k4 ?k5 ?kK ?kd ?ku ?m0 ?m1 ?m2 ?m3 ?m4 ?m5 ?m6 ?m7 ?m8 ?m9 ?m10 ?m11 ?m12 ?m13 ?m14 ?m15 ?_;walk_at "ks";(case m0=>k_mem);(case m1=>k_mem);(case m2=>k_updF);(case m3=>k_asm);(case m4=>k_asm);(case m5=>k_mem);(case m6=>k_mem);(case m7=>k_mem);(case m8=>k_mem);(case m9=>k_asm);(case m10=>(intro o1;(try dsimp only);k_updF));(case m11=>k_asm);(case m12=>k_asm);(case m13=>k_asm);(case m14=>first | assumption | decide);(case m15=>walk_at "om");k_whole;intro vs' ep' o' h' tk' F' N' hx0' hx1' hx2' hx3' hx4';(try dsimp only at N');(try k_sweep))));trivial

theorem r_movs (B : Below A₀ base outer h₀) (F : Fr h₀ L hpS m) (X : (heapK w.params).In h₀) (N : News h₀ L hpS news) (T : Top viewK loose mean mg mb h₀) (hk : cs.kind = .function)
  {σ : StA} {τ : StT} {rip beg : Int} {vs : List Value} {ns : List Int} {ep : Nat} {τf : FlT} {f : Fl} {o : Obj} {D : List (Int × Int)} {th : Tok} {g1 : Obj → List (Addr × Obj)} {g2 : Obj → Obj → List (Addr × Obj)} {size : Int} {t1 t2 : Tok}
  (hd : dp + 12 < recursionLimit) (hu : un + 8 * 22 < cLine)
  (h1 : (σ.x,instObj 511 σ.dx) ∈ news) (h2 : (σ.dx,stDict w τ σ rip beg) ∈ news) (U1 : UpdF σ.regs (W.listOf vs.toArray ep) news g1) (hI : IntsAre vs ns) (hlen : ns.length = 16) (f1 : (σ.fl,instObj 188 σ.fd) ∈ news) (f2 : (σ.fd,flDict w τf f) ∈ news) (e1 : (σ.me,instObj 394 σ.md) ∈ news) (e2 : (σ.md,dictOf [ent w "held" th (.ref σ.held)] 1) ∈ news) (hrh : σ.regs ≠ σ.held) (U2 : ∀ o1,UpdF σ.held o (g1 o1) (g2 o1)) (e4 : IsMem w o D) (e5 : (σ.held == sysModules) = false) (e6 : OkD D) (hs : size = 8 ∨ size = 16 ∨ size = 32 ∨ size = 64) (hl : D.length ≤ 3900)
  (ret : ∀ (vs' : List Value) (ep' : Nat) (o' : Obj) h' tk',Fr h₀ L h' m → News h₀ L h' (g2 (W.listOf vs'.toArray ep') o') → IntsAre vs' (goI (goI ns 7 (Int.fdiv size 8) f.df) 6 (Int.fdiv size 8) f.df) → (goI (goI ns 7 (Int.fdiv size 8) f.df) 6 (Int.fdiv size 8) f.df).length = 16 → IsMem w o' (writeI D (ns.getD 7 0) (Int.fdiv size 8) (readI D (ns.getD 6 0) (Int.fdiv size 8))) → OkD (writeI D (ns.getD 7 0) (Int.fdiv size 8) (readI D (ns.getD 6 0) (Int.fdiv size 8))) → (writeI D (ns.getD 7 0) (Int.fdiv size 8) (readI D (ns.getD 6 0) (Int.fdiv size 8))).length ≤ D.length + 16 → Q (.none) ⟨h',gnS,drS,tk',osS⟩) :
  wpAny (model PySem.Challenge.rw_qd0115_01.row.prog w) (ktrTop dp un gd cn cs L a ccd cl outer) (call (.ref 844) [.ref σ.x,.str "movs" t1,.int size t2]) Q E ⟨hpS,gnS,drS,tkS,osS⟩:=by
  have h3:=upd_in U1
  have e3 : (σ.held,o) ∈ news:=by
    rcases upd_mem U1 (upd_in (U2 (W.listOf vs.toArray ep))) with e | ⟨e,_⟩
    · exact absurd (congrArg Prod.fst e).symm hrh
    · exact e
  have q_e3:=Ne.symm hrh
  have hq:=fdiv8 (sz:=size) (by omega) (by omega)
  have q_h1:=ne_of_cls N h1 h3 (by walk_at "cls")
  have q_h2:=ne_of_cls N h2 h3 (by walk_at "cls")
  have q_f1:=ne_of_cls N f1 h3 (by walk_at "cls")
  have q_f2:=ne_of_cls N f2 h3 (by walk_at "cls")
  have q_e1:=ne_of_cls N e1 h3 (by walk_at "cls")
  have q_e2:=ne_of_cls N e2 h3 (by walk_at "cls")
  have w_h2:=ne_of_obj N h2 e3 (isMem_ne e4)
  have w_f2:=ne_of_obj N f2 e3 (isMem_ne e4)
  have w_e2:=ne_of_obj N e2 e3 (isMem_ne e4)
  have w_h1:=ne_of_obj N h1 e3 (isMem_inst e4 (by walk_at "cls"))
  have w_f1:=ne_of_obj N f1 e3 (isMem_inst e4 (by walk_at "cls"))
  have w_e1:=ne_of_obj N e1 e3 (isMem_inst e4 (by walk_at "cls"))
  have hS : ∀ q ∈ news,q ∈ news:=hs_self
  k_with "k_mem"=>((fail_if_success have:=off32);first | exact upd_keep U1 (by assumption) (by assumption) | exact upd_new U1 | exact upd_new (U2 _) | exact upd_keep (U2 _) (upd_keep U1 (by assumption) (by assumption)) (by assumption) | exact upd_keep (U2 _) (upd_new U1) (by assumption))
  k_with "k_updF"=>((fail_if_success have:=off32);first | exact U2 _ | exact upd_again U1 | exact upd_swap U1 U2 | exact upd_again (upd_swap U1 U2) | exact upd_swap2 U1 U2 (by assumption))
  k_with "k_upd"=>((fail_if_success have:=off32);first | exact upd_of U1 | exact upd_of (U2 _) | exact upd_of (upd_again U1) | exact upd_of (upd_swap U1 U2) | exact upd_of (upd_again (upd_swap U1 U2)) | exact upd_of (upd_swap2 U1 U2 (by assumption)))
  refine wpAny_call ?_
  ktr_enter
  k_steps
  all_goals (refine withKept_ok fun hK=>?_)
  all_goals (show Q _ _)
  rename IntsAre _ _=>iE
  rename IsMem _ _ _=>mE
  all_goals (exact ret _ _ _ _ _ (by k_asm) (does_end N hK (adr_upd2 U1 U2) (by walk_at "nn")) iE (by simp only [goI_length,putI_length,hlen]) mE (by assumption) (by assumption))
example : True:=by (k_with "call ref"=>(k_here;(with_reducible show wpAny _ _ (call (Value.ref 844) _ _) _ _ _);k_dflt (refine' r_movs ?k1 ?k2 ?k3 ?k4 ?k5 ?kK ?kd ?ku ?m0 ?m1 ?m2 ?m3 ?m4 ?m5 ?m6 ?m7 ?m8 ?m9 ?m10 ?m11 ?m12 ?m13 ?m14 ?m15 ?_;walk_at "ks";(case m0=>k_mem);(case m1=>k_mem);(case m2=>k_updF);(case m3=>k_asm);(case m4=>k_asm);(case m5=>k_mem);(case m6=>k_mem);(case m7=>k_mem);(case m8=>k_mem);(case m9=>k_asm);(case m10=>(intro o1;(try dsimp only);k_updF));(case m11=>k_asm);(case m12=>k_asm);(case m13=>k_asm);(case m14=>first | assumption | decide);(case m15=>walk_at "om");k_whole;intro vs' ep' o' h' tk' F' N' hx0' hx1' hx2' hx3' hx4';(try dsimp only at N');(try k_sweep))));trivial

theorem r_lods (B : Below A₀ base outer h₀) (F : Fr h₀ L hpS m) (X : (heapK w.params).In h₀) (N : News h₀ L hpS news) (T : Top viewK loose mean mg mb h₀) (hk : cs.kind = .function)
  {σ : StA} {τ : StT} {rip beg : Int} {vs : List Value} {ns : List Int} {ep : Nat} {τf : FlT} {f : Fl} {o : Obj} {D : List (Int × Int)} {th : Tok} {g : Obj → List (Addr × Obj)} {size : Int} {t1 t2 : Tok}
  (hd : dp + 12 < recursionLimit) (hu : un + 8 * 22 < cLine)
  (h1 : (σ.x,instObj 511 σ.dx) ∈ news) (h2 : (σ.dx,stDict w τ σ rip beg) ∈ news) (U : UpdF σ.regs (W.listOf vs.toArray ep) news g) (hI : IntsAre vs ns) (hlen : ns.length = 16) (f1 : (σ.fl,instObj 188 σ.fd) ∈ news) (f2 : (σ.fd,flDict w τf f) ∈ news) (e1 : (σ.me,instObj 394 σ.md) ∈ news) (e2 : (σ.md,dictOf [ent w "held" th (.ref σ.held)] 1) ∈ news) (e3 : (σ.held,o) ∈ news) (e4 : IsMem w o D) (e5 : (σ.held == sysModules) = false) (e6 : OkD D) (hs : size = 8 ∨ size = 16 ∨ size = 32 ∨ size = 64)
  (ret : ∀ (vs' : List Value) (ep' : Nat) h' tk',Fr h₀ L h' m → News h₀ L h' (g (W.listOf vs'.toArray ep')) → IntsAre vs' (goI (putI ns 0 size (readI D (ns.getD 6 0) (Int.fdiv size 8))) 6 (Int.fdiv size 8) f.df) → (goI (putI ns 0 size (readI D (ns.getD 6 0) (Int.fdiv size 8))) 6 (Int.fdiv size 8) f.df).length = 16 → Q (.none) ⟨h',gnS,drS,tk',osS⟩) :
  wpAny (model PySem.Challenge.rw_qd0115_01.row.prog w) (ktrTop dp un gd cn cs L a ccd cl outer) (call (.ref 844) [.ref σ.x,.str "lods" t1,.int size t2]) Q E ⟨hpS,gnS,drS,tkS,osS⟩:=by
  have h3:=upd_in U
  have hq:=fdiv8 (sz:=size) (by omega) (by omega)
  have q_h1:=ne_of_cls N h1 h3 (by walk_at "cls")
  have q_h2:=ne_of_cls N h2 h3 (by walk_at "cls")
  have q_f1:=ne_of_cls N f1 h3 (by walk_at "cls")
  have q_f2:=ne_of_cls N f2 h3 (by walk_at "cls")
  have q_e1:=ne_of_cls N e1 h3 (by walk_at "cls")
  have q_e2:=ne_of_cls N e2 h3 (by walk_at "cls")
  have q_e3:=ne_of_obj N e3 h3 (isMem_list e4 (by walk_at "cls"))
  have hS : ∀ q ∈ news,q ∈ news:=hs_self
  k_with "k_mem"=>((fail_if_success have:=off32);first | exact upd_new U | exact upd_keep U (by assumption) (by first | assumption | k_ne))
  k_with "k_updF"=>((fail_if_success have:=off32);exact upd_again U)
  k_with "k_upd"=>((fail_if_success have:=off32);exact upd_of (upd_again U))
  refine wpAny_call ?_
  ktr_enter
  k_steps
  all_goals (refine withKept_ok fun hK=>?_)
  all_goals (show Q _ _)
  rename IntsAre _ _=>iE
  all_goals (exact ret _ _ _ _ (by k_asm) (does_end N hK (adr_upd U) (by walk_at "nn")) iE (by simp only [goI_length,putI_length,hlen]))
example : True:=by (k_with "call ref"=>(k_here;(with_reducible show wpAny _ _ (call (Value.ref 844) _ _) _ _ _);k_dflt (refine' r_lods ?k1 ?k2 ?k3 ?k4 ?k5 ?kK ?kd ?ku ?m0 ?m1 ?m2 ?m3 ?m4 ?m5 ?m6 ?m7 ?m8 ?m9 ?m10 ?m11 ?m12 ?m13 ?_;walk_at "ks";(case m0=>k_mem);(case m1=>k_mem);(case m2=>k_updF);(case m3=>k_asm);(case m4=>k_asm);(case m5=>k_mem);(case m6=>k_mem);(case m7=>k_mem);(case m8=>k_mem);(case m9=>k_mem);(case m10=>k_asm);(case m11=>k_asm);(case m12=>k_asm);(case m13=>first | assumption | decide);k_whole;intro vs' ep' h' tk' F' N' hx0' hx1';(try dsimp only at N');(try k_sweep))));trivial

theorem r_scas (B : Below A₀ base outer h₀) (F : Fr h₀ L hpS m) (X : (heapK w.params).In h₀) (N : News h₀ L hpS news) (T : Top viewK loose mean mg mb h₀) (hk : cs.kind = .function)
  {σ : StA} {τ : StT} {rip beg : Int} {vs : List Value} {ns : List Int} {ep : Nat} {τf : FlT} {f : Fl} {o : Obj} {D : List (Int × Int)} {th : Tok} {g1 : Obj → List (Addr × Obj)} {g2 : Obj → Obj → List (Addr × Obj)} {size : Int} {t1 t2 : Tok}
  (hd : dp + 14 < recursionLimit) (hu : un + 8 * 24 < cLine)
  (h1 : (σ.x,instObj 511 σ.dx) ∈ news) (h2 : (σ.dx,stDict w τ σ rip beg) ∈ news) (U1 : UpdF σ.regs (W.listOf vs.toArray ep) news g1) (hI : IntsAre vs ns) (hlen : ns.length = 16) (f1 : (σ.fl,instObj 188 σ.fd) ∈ news) (e1 : (σ.me,instObj 394 σ.md) ∈ news) (e2 : (σ.md,dictOf [ent w "held" th (.ref σ.held)] 1) ∈ news) (e3 : (σ.held,o) ∈ news) (e4 : IsMem w o D) (e5 : (σ.held == sysModules) = false) (e6 : OkD D) (hrf : σ.regs ≠ σ.fd) (U2 : ∀ o1,UpdF σ.fd (flDict w τf f) (g1 o1) (g2 o1)) (hs : size = 8 ∨ size = 16 ∨ size = 32 ∨ size = 64)
  (ret : ∀ (vs' : List Value) (ep' : Nat) (o' : Obj) h' tk',Fr h₀ L h' m → News h₀ L h' (g2 (W.listOf vs'.toArray ep') o') → IntsAre vs' (goI ns 7 (Int.fdiv size 8) f.df) → (goI ns 7 (Int.fdiv size 8) f.df).length = 16 → IsFl w o' (subF f (wrapI (ns.getD 0 0) size) (readI D (ns.getD 7 0) (Int.fdiv size 8)) size) → Q (.none) ⟨h',gnS,drS,tk',osS⟩) :
  wpAny (model PySem.Challenge.rw_qd0115_01.row.prog w) (ktrTop dp un gd cn cs L a ccd cl outer) (call (.ref 844) [.ref σ.x,.str "scas" t1,.int size t2]) Q E ⟨hpS,gnS,drS,tkS,osS⟩:=by
  have h3:=upd_in U1
  have f2 : (σ.fd,flDict w τf f) ∈ news:=by
    rcases upd_mem U1 (upd_in (U2 (W.listOf vs.toArray ep))) with e | ⟨e,_⟩
    · exact absurd (congrArg Prod.fst e).symm hrf
    · exact e
  have q_f2:=Ne.symm hrf
  have hq:=fdiv8 (sz:=size) (by omega) (by omega)
  have q_h1:=ne_of_cls N h1 h3 (by walk_at "cls")
  have q_h2:=ne_of_cls N h2 h3 (by walk_at "cls")
  have q_f1:=ne_of_cls N f1 h3 (by walk_at "cls")
  have q_e1:=ne_of_cls N e1 h3 (by walk_at "cls")
  have q_e2:=ne_of_cls N e2 h3 (by walk_at "cls")
  have q_e3:=ne_of_obj N e3 h3 (isMem_list e4 (by walk_at "cls"))
  have f_h1:=ne_of_obj N h1 f2 (fun e=>by cases congrArg Obj.cls e)
  have f_h2:=ne_of_obj N h2 f2 fl_ne2
  have f_f1:=ne_of_obj N f1 f2 (fun e=>by cases congrArg Obj.cls e)
  have f_e1:=ne_of_obj N e1 f2 (fun e=>by cases congrArg Obj.cls e)
  have f_e2:=ne_of_obj N e2 f2 fl_ne3
  have f_e3:=ne_of_obj N e3 f2 (isMem_fl e4)
  have hS : ∀ q ∈ news,q ∈ news:=hs_self
  k_with "k_mem"=>((fail_if_success have:=off32);first | exact upd_keep U1 (by assumption) (by assumption) | exact upd_new U1 | exact upd_new (U2 _) | exact upd_keep (U2 _) (upd_keep U1 (by assumption) (by assumption)) (by assumption) | exact upd_keep (U2 _) (upd_new U1) (by assumption))
  k_with "k_updF"=>((fail_if_success have:=off32);first | exact U2 _ | exact upd_again U1 | exact upd_swap U1 U2 | exact upd_again (upd_swap U1 U2) | exact upd_swap2 U1 U2 (by assumption))
  k_with "k_upd"=>((fail_if_success have:=off32);first | exact upd_of U1 | exact upd_of (U2 _) | exact upd_of (upd_again U1) | exact upd_of (upd_swap U1 U2) | exact upd_of (upd_again (upd_swap U1 U2)) | exact upd_of (upd_swap2 U1 U2 (by assumption)))
  refine wpAny_call ?_
  ktr_enter
  k_steps
  all_goals (refine withKept_ok fun hK=>?_)
  all_goals (show Q _ _)
  rename IntsAre _ _=>iE
  all_goals (exact ret _ _ _ _ _ (by k_asm) (does_end N hK (adr_upd2 U1 U2) (by walk_at "nn")) iE (by simp only [goI_length,putI_length,hlen]) ⟨_,rfl⟩)
example : True:=by (k_with "call ref"=>(k_here;(with_reducible show wpAny _ _ (call (Value.ref 844) _ _) _ _ _);k_dflt (refine' r_scas ?k1 ?k2 ?k3 ?k4 ?k5 ?kK ?kd ?ku ?m0 ?m1 ?m2 ?m3 ?m4 ?m5 ?m6 ?m7 ?m8 ?m9 ?m10 ?m11 ?m12 ?m13 ?m14 ?_;walk_at "ks";(case m0=>k_mem);(case m1=>k_mem);(case m2=>k_updF);(case m3=>k_asm);(case m4=>k_asm);(case m5=>k_mem);(case m6=>k_mem);(case m7=>k_mem);(case m8=>k_mem);(case m9=>k_asm);(case m10=>k_asm);(case m11=>k_asm);(case m12=>k_asm);(case m13=>(intro o1;(try dsimp only);k_updF));(case m14=>first | assumption | decide);k_whole;intro vs' ep' o' h' tk' F' N' hx0' hx1' hx2';obtain ⟨τ',rfl⟩:=hx2';(try dsimp only at N');(try k_sweep))));trivial

theorem r_cmps (B : Below A₀ base outer h₀) (F : Fr h₀ L hpS m) (X : (heapK w.params).In h₀) (N : News h₀ L hpS news) (T : Top viewK loose mean mg mb h₀) (hk : cs.kind = .function)
  {σ : StA} {τ : StT} {rip beg : Int} {vs : List Value} {ns : List Int} {ep : Nat} {τf : FlT} {f : Fl} {o : Obj} {D : List (Int × Int)} {th : Tok} {g1 : Obj → List (Addr × Obj)} {g2 : Obj → Obj → List (Addr × Obj)} {size : Int} {t1 t2 : Tok}
  (hd : dp + 14 < recursionLimit) (hu : un + 8 * 24 < cLine)
  (h1 : (σ.x,instObj 511 σ.dx) ∈ news) (h2 : (σ.dx,stDict w τ σ rip beg) ∈ news) (U1 : UpdF σ.regs (W.listOf vs.toArray ep) news g1) (hI : IntsAre vs ns) (hlen : ns.length = 16) (f1 : (σ.fl,instObj 188 σ.fd) ∈ news) (e1 : (σ.me,instObj 394 σ.md) ∈ news) (e2 : (σ.md,dictOf [ent w "held" th (.ref σ.held)] 1) ∈ news) (e3 : (σ.held,o) ∈ news) (e4 : IsMem w o D) (e5 : (σ.held == sysModules) = false) (e6 : OkD D) (hrf : σ.regs ≠ σ.fd) (U2 : ∀ o1,UpdF σ.fd (flDict w τf f) (g1 o1) (g2 o1)) (hs : size = 8 ∨ size = 16 ∨ size = 32 ∨ size = 64)
  (ret : ∀ (vs' : List Value) (ep' : Nat) (o' : Obj) h' tk',Fr h₀ L h' m → News h₀ L h' (g2 (W.listOf vs'.toArray ep') o') → IntsAre vs' (goI (goI ns 7 (Int.fdiv size 8) f.df) 6 (Int.fdiv size 8) f.df) → (goI (goI ns 7 (Int.fdiv size 8) f.df) 6 (Int.fdiv size 8) f.df).length = 16 → IsFl w o' (subF f (readI D (ns.getD 6 0) (Int.fdiv size 8)) (readI D (ns.getD 7 0) (Int.fdiv size 8)) size) → Q (.none) ⟨h',gnS,drS,tk',osS⟩) :
  wpAny (model PySem.Challenge.rw_qd0115_01.row.prog w) (ktrTop dp un gd cn cs L a ccd cl outer) (call (.ref 844) [.ref σ.x,.str "cmps" t1,.int size t2]) Q E ⟨hpS,gnS,drS,tkS,osS⟩:=by
  have h3:=upd_in U1
  have f2 : (σ.fd,flDict w τf f) ∈ news:=by
    rcases upd_mem U1 (upd_in (U2 (W.listOf vs.toArray ep))) with e | ⟨e,_⟩
    · exact absurd (congrArg Prod.fst e).symm hrf
    · exact e
  have q_f2:=Ne.symm hrf
  have hq:=fdiv8 (sz:=size) (by omega) (by omega)
  have q_h1:=ne_of_cls N h1 h3 (by walk_at "cls")
  have q_h2:=ne_of_cls N h2 h3 (by walk_at "cls")
  have q_f1:=ne_of_cls N f1 h3 (by walk_at "cls")
  have q_e1:=ne_of_cls N e1 h3 (by walk_at "cls")
  have q_e2:=ne_of_cls N e2 h3 (by walk_at "cls")
  have q_e3:=ne_of_obj N e3 h3 (isMem_list e4 (by walk_at "cls"))
  have f_h1:=ne_of_obj N h1 f2 (fun e=>by cases congrArg Obj.cls e)
  have f_h2:=ne_of_obj N h2 f2 fl_ne2
  have f_f1:=ne_of_obj N f1 f2 (fun e=>by cases congrArg Obj.cls e)
  have f_e1:=ne_of_obj N e1 f2 (fun e=>by cases congrArg Obj.cls e)
  have f_e2:=ne_of_obj N e2 f2 fl_ne3
  have f_e3:=ne_of_obj N e3 f2 (isMem_fl e4)
  have hS : ∀ q ∈ news,q ∈ news:=hs_self
  k_with "k_mem"=>((fail_if_success have:=off32);first | exact upd_keep U1 (by assumption) (by assumption) | exact upd_new U1 | exact upd_new (U2 _) | exact upd_keep (U2 _) (upd_keep U1 (by assumption) (by assumption)) (by assumption) | exact upd_keep (U2 _) (upd_new U1) (by assumption))
  k_with "k_updF"=>((fail_if_success have:=off32);first | exact U2 _ | exact upd_again U1 | exact upd_swap U1 U2 | exact upd_again (upd_swap U1 U2) | exact upd_swap2 U1 U2 (by assumption))
  k_with "k_upd"=>((fail_if_success have:=off32);first | exact upd_of U1 | exact upd_of (U2 _) | exact upd_of (upd_again U1) | exact upd_of (upd_swap U1 U2) | exact upd_of (upd_again (upd_swap U1 U2)) | exact upd_of (upd_swap2 U1 U2 (by assumption)))
  refine wpAny_call ?_
  ktr_enter
  k_steps
  all_goals (refine withKept_ok fun hK=>?_)
  all_goals (show Q _ _)
  rename IntsAre _ _=>iE
  all_goals (exact ret _ _ _ _ _ (by k_asm) (does_end N hK (adr_upd2 U1 U2) (by walk_at "nn")) iE (by simp only [goI_length,putI_length,hlen]) ⟨_,rfl⟩)
example : True:=by (k_with "call ref"=>(k_here;(with_reducible show wpAny _ _ (call (Value.ref 844) _ _) _ _ _);k_dflt (refine' r_cmps ?k1 ?k2 ?k3 ?k4 ?k5 ?kK ?kd ?ku ?m0 ?m1 ?m2 ?m3 ?m4 ?m5 ?m6 ?m7 ?m8 ?m9 ?m10 ?m11 ?m12 ?m13 ?m14 ?_;walk_at "ks";(case m0=>k_mem);(case m1=>k_mem);(case m2=>k_updF);(case m3=>k_asm);(case m4=>k_asm);(case m5=>k_mem);(case m6=>k_mem);(case m7=>k_mem);(case m8=>k_mem);(case m9=>k_asm);(case m10=>k_asm);(case m11=>k_asm);(case m12=>k_asm);(case m13=>(intro o1;(try dsimp only);k_updF));(case m14=>first | assumption | decide);k_whole;intro vs' ep' o' h' tk' F' N' hx0' hx1' hx2';obtain ⟨τ',rfl⟩:=hx2';(try dsimp only at N');(try k_sweep))));trivial
theorem off32 : True:=trivial
example : True:=by (k_with "subscriptTail Name Slice str ref"=>(k_here;with_unfolding_all refine' slice_eq ?yE ?yF ?yN ?yZ ?yS ?yT ?_;(case yE=>exact StrNm.q1 (by assumption));(case yF=>k_asm);(case yN=>k_asm);(case yZ=>(rw [StrNm.q3 (by assumption)];decide));(case yS=>with_unfolding_all rfl);(case yT=>intro _;with_unfolding_all rfl);k_whole;intro h' t' tk' F' N';(try k_sweep)));trivial
example : True:=by (k_with "subscriptTail Name Constant str int"=>(k_here;with_unfolding_all refine' item_eq ?yE ?yR ?yA ?yB ?yS ?yT ?_;(case yE=>exact StrNm.q4 (by assumption));(case yR=>decide);(case yA=>(rw [StrNm.q3 (by assumption)];decide));(case yB=>(rw [StrNm.q3 (by assumption)];decide));(case yS=>with_unfolding_all rfl);(case yT=>intro _;with_unfolding_all rfl);k_whole;intro t'));trivial
example : True:=by (k_with "call builtin:len"=>(k_here;(with_reducible show wpAny _ _ (call (Value.builtin "len") [Value.str _ _]) _ _ _);refine' len_writK 5 ?k1 ?k2 ?_;(case k1=>exact StrNm.q3 (by assumption));(case k2=>decide)));trivial
example : True:=by (k_with "call builtin:str.find"=>(k_here;(refine KXw.find (StrNm.q5 (by assumption)) ?_);intro _ _));trivial
example : True:=by (k_with "ite"=>(first | (refine' iteT ?ic ?_;(case ic=>exact StrNm.q2 (by assumption))) | (refine' iteT ?ic ?_;(case ic=>exact (StrNm.q6 (by assumption)).1)) | (refine' iteF ?ic ?_;(case ic=>exact not_of_false (StrNm.q8 (by assumption)))) | fail "no row"));trivial
theorem string_does {ι : Type} {sort letter iname : Str} {size place : Int} {τi : StT} {ins isd tp sx : Addr} {post : ι → List (Addr × Obj)} {Pf : ι → Prop} (nm : StrNm iname sort letter size place)
  (i1 : (ins,instObj 742 isd) ∈ news) (i2 : (isd,insDict w τi iname tp "") ∈ news) (i3 : (tp,tupObj []) ∈ news) (hA : ∀ i,Pf i → Adr news (post i))
  (hr : ∀ t1 t2,Does w loose mean mg mb 14 24 844 [.ref sx,.str sort t1,.int size t2] .none news post Pf) : Does w loose mean mg mb 17 29 858 [.ref sx,.ref ins] (.bool true) news post Pf:=by
  intro dp un gd cn cs L a ccd cl outer A₀ base h₀ m hpS gnS drS tkS osS Q E B F X N T hk hd hu ret
  have hS : ∀ q ∈ news,q ∈ news:=hs_self
  have q7:=nm.q7
  have q6a:=nm.q6.1
  have q6b:=nm.q6.2
  subst q7
  k_with "call ref"=>((fail_if_success have:=off35);k_here;(with_reducible show wpAny _ _ (call (Value.ref 844) _ _) _ _ _);k_dflt (refine' does_use (hr _ _) ?k1 ?k2 ?k3 ?k4 ?k5 ?kK ?kd ?ku ?_;(case k1=>k_asm);(case k2=>k_asm);(case k3=>k_asm);(case k4=>first | k_asm | exact fun q hq=>(by k_asm : News _ _ _ (_ :: _ :: _)) q (.tail _ (.tail _ hq)));(case k5=>k_asm);(case kK=>first | exact rfl | assumption);(case kd=>ktr_room);(case ku=>ktr_units);k_whole;intro i9 h' tk' P9 F' N';(try k_sweep)))
  refine wpAny_call ?_
  ktr_enter
  k_steps
  all_goals (refine withKept_ok fun hK=>?_)
  all_goals (show Q _ _)
  all_goals (exact ret _ _ _ P9 (by k_asm) (does_end N hK (hA _ P9) (by k_asm)))
theorem off35 : True:=trivial
example : True:=by (k_with "ite"=>(first | (refine' iteF ?ic ?_;(case ic=>exact not_of_false (by assumption))) | (refine' iteT ?ic ?_;(case ic=>exact bne_of (by assumption))) | fail "no row"));trivial
theorem move_nod {iname prefx : Str} {τi : StT} {ins isd tp sx : Addr} (z0 : (iname == ("nop" : Str)) = false) (z1 : (iname == ("mov" : Str)) = false) (z2 : (iname == ("lea" : Str)) = false) (z3 : (iname == ("xchg" : Str)) = false) (i1 : (ins,instObj 742 isd) ∈ news) (i2 : (isd,insDict w τi iname tp prefx) ∈ news) :
    Does w loose mean mg mb 3 3 781 [.ref sx,.ref ins] (.bool false) news (fun _ : Unit=>news) (fun _=>True):=by
  intro dp un gd cn cs L a ccd cl outer A₀ base h₀ m hpS gnS drS tkS osS Q E B F X N T hk hd hu ret
  have hS : ∀ q ∈ news,q ∈ news:=hs_self
  refine wpAny_call ?_
  ktr_enter
  k_steps
  all_goals (refine withKept_ok fun hK=>?_)
  all_goals (show Q _ _)
  all_goals (exact ret () _ _ trivial (by k_asm) (does_end N hK adr_refl (by k_asm)))
theorem stack_nod {iname l0 prefx : Str} {τi : StT} {ins isd tp sx : Addr} (nm : NoMS iname l0) (i1 : (ins,instObj 742 isd) ∈ news) (i2 : (isd,insDict w τi iname tp prefx) ∈ news) :
    Does w loose mean mg mb 3 3 802 [.ref sx,.ref ins] (.bool false) news (fun _ : Unit=>news) (fun _=>True):=by
  intro dp un gd cn cs L a ccd cl outer A₀ base h₀ m hpS gnS drS tkS osS Q E B F X N T hk hd hu ret
  have z0:=nm.s0
  have z1:=nm.s1
  have z2:=nm.s2
  have z3:=nm.s3
  have z4:=nm.s4
  have hS : ∀ q ∈ news,q ∈ news:=hs_self
  refine wpAny_call ?_
  ktr_enter
  k_steps
  all_goals (refine withKept_ok fun hK=>?_)
  all_goals (show Q _ _)
  all_goals (exact ret () _ _ trivial (by k_asm) (does_end N hK adr_refl (by k_asm)))
theorem jump_nod {iname l0 prefx : Str} {τi : StT} {ins isd tp sx : Addr} (nm : NoMS iname l0) (i1 : (ins,instObj 742 isd) ∈ news) (i2 : (isd,insDict w τi iname tp prefx) ∈ news) :
    Does w loose mean mg mb 4 4 830 [.ref sx,.ref ins] (.bool false) news (fun _ : Unit=>news) (fun _=>True):=by
  intro dp un gd cn cs L a ccd cl outer A₀ base h₀ m hpS gnS drS tkS osS Q E B F X N T hk hd hu ret
  have z0:=nm.c1
  have z1:=nm.c2
  have z2:=nm.c3
  have z3:=nm.c4
  have hS : ∀ q ∈ news,q ∈ news:=hs_self
  k_with "subscriptTail Name Constant str int"=>((fail_if_success have:=off36);k_here;with_unfolding_all refine' item_eq nm.c0 ?yR ?yA ?yB ?yS ?yT ?_;(case yR=>decide);(case yA=>(have:=nm.c9;omega));(case yB=>(have:=nm.c9;omega));(case yS=>with_unfolding_all rfl);(case yT=>intro _;with_unfolding_all rfl);k_whole;intro t')
  refine wpAny_call ?_
  ktr_enter
  k_steps
  all_goals (refine withKept_ok fun hK=>?_)
  all_goals (show Q _ _)
  all_goals (exact ret () _ _ trivial (by k_asm) (does_end N hK adr_refl fun q hq=>(by k_asm : News _ _ _ (_ :: _)) q (.tail _ hq)))
theorem transfer_move {ι : Type} {sx ins : Addr} {post : ι → List (Addr × Obj)} {Pf : ι → Prop} (hA : ∀ i,Pf i → Adr news (post i)) (h1 : Does w loose mean mg mb 13 13 781 [.ref sx,.ref ins] (.bool true) news post Pf) :
    Does w loose mean mg mb 14 14 952 [.ref sx,.ref ins] (.bool true) news post Pf:=by
  intro dp un gd cn cs L a ccd cl outer A₀ base h₀ m hpS gnS drS tkS osS Q E B F X N T hk hd hu ret
  have hS : ∀ q ∈ news,q ∈ news:=hs_self
  k_with "call ref"=>((fail_if_success have:=off36);k_here;(with_reducible show wpAny _ _ (call (Value.ref 781) _ _) _ _ _);(k_dflt (refine' does_use h1 ?k1 ?k2 ?k3 ?k4 ?k5 ?kK ?kd ?ku ?_;walk_at "ks";k_whole;intro i9 h' tk' P9 F' N';(try k_sweep))))
  refine wpAny_call ?_
  ktr_enter
  k_steps
  all_goals (refine withKept_ok fun hK=>?_)
  all_goals (show Q _ _)
  all_goals (exact ret _ _ _ P9 (by k_asm) (does_end N hK (hA _ P9) (by k_asm)))
theorem transfer_stack {ι : Type} {ins sx : Addr} {post : ι → List (Addr × Obj)} {Pf : ι → Prop} (hA : ∀ i,Pf i → Adr news (post i)) (h0 : Does w loose mean mg mb 3 3 781 [.ref sx,.ref ins] (.bool false) news (fun _ : Unit=>news) (fun _=>True)) (h1 : Does w loose mean mg mb 13 13 802 [.ref sx,.ref ins] (.bool true) news post Pf) :
    Does w loose mean mg mb 14 14 952 [.ref sx,.ref ins] (.bool true) news post Pf:=by
  intro dp un gd cn cs L a ccd cl outer A₀ base h₀ m hpS gnS drS tkS osS Q E B F X N T hk hd hu ret
  have hS : ∀ q ∈ news,q ∈ news:=hs_self
  k_with "call ref"=>((fail_if_success have:=off36);k_here;(with_reducible show wpAny _ _ (call (Value.ref 781) _ _) _ _ _);(k_dflt (refine' does_use h0 ?k1 ?k2 ?k3 ?k4 ?k5 ?kK ?kd ?ku ?_;walk_at "ks";k_whole;intro i9 h' tk' P9 F' N';(try k_sweep))))
  k_with "call ref"=>((fail_if_success have:=off36);k_here;(with_reducible show wpAny _ _ (call (Value.ref 802) _ _) _ _ _);(k_dflt (refine' does_use h1 ?k1 ?k2 ?k3 ?k4 ?k5 ?kK ?kd ?ku ?_;walk_at "ks";k_whole;intro i9 h' tk' P9 F' N';(try k_sweep))))
  refine wpAny_call ?_
  ktr_enter
  k_steps
  all_goals (refine withKept_ok fun hK=>?_)
  all_goals (show Q _ _)
  all_goals (exact ret _ _ _ P9 (by k_asm) (does_end N hK (hA _ P9) (by k_asm)))
theorem transfer_string {ι : Type} {iname l0 prefx : Str} {τi : StT} {ins isd tp sx : Addr} {post : ι → List (Addr × Obj)} {Pf : ι → Prop} (nm : NoMS iname l0) (i1 : (ins,instObj 742 isd) ∈ news) (i2 : (isd,insDict w τi iname tp prefx) ∈ news) (hA : ∀ i,Pf i → Adr news (post i)) (h1 : Does w loose mean mg mb 17 29 858 [.ref sx,.ref ins] (.bool true) news post Pf) :
    Does w loose mean mg mb 18 30 952 [.ref sx,.ref ins] (.bool true) news post Pf:=by
  intro dp un gd cn cs L a ccd cl outer A₀ base h₀ m hpS gnS drS tkS osS Q E B F X N T hk hd hu ret
  have hS : ∀ q ∈ news,q ∈ news:=hs_self
  k_with "call ref"=>((fail_if_success have:=off36);k_here;(with_reducible show wpAny _ _ (call (Value.ref 781) _ _) _ _ _);(k_dflt (refine' does_use (move_nod nm.n0 nm.n1 nm.n2 nm.n3 i1 i2) ?k1 ?k2 ?k3 ?k4 ?k5 ?kK ?kd ?ku ?_;walk_at "ks";k_whole;intro i9 h' tk' P9 F' N';(try k_sweep))))
  k_with "call ref"=>((fail_if_success have:=off36);k_here;(with_reducible show wpAny _ _ (call (Value.ref 802) _ _) _ _ _);(k_dflt (refine' does_use (stack_nod nm i1 i2) ?k1 ?k2 ?k3 ?k4 ?k5 ?kK ?kd ?ku ?_;walk_at "ks";k_whole;intro i9 h' tk' P9 F' N';(try k_sweep))))
  k_with "call ref"=>((fail_if_success have:=off36);k_here;(with_reducible show wpAny _ _ (call (Value.ref 830) _ _) _ _ _);(k_dflt (refine' does_use (jump_nod nm i1 i2) ?k1 ?k2 ?k3 ?k4 ?k5 ?kK ?kd ?ku ?_;walk_at "ks";k_whole;intro i9 h' tk' P9 F' N';(try k_sweep))))
  k_with "call ref"=>((fail_if_success have:=off36);k_here;(with_reducible show wpAny _ _ (call (Value.ref 858) _ _) _ _ _);(k_dflt (refine' does_use h1 ?k1 ?k2 ?k3 ?k4 ?k5 ?kK ?kd ?ku ?_;walk_at "ks";k_whole;intro i9 h' tk' P9 F' N';(try k_sweep))))
  refine wpAny_call ?_
  ktr_enter
  k_steps
  all_goals (refine withKept_ok fun hK=>?_)
  all_goals (show Q _ _)
  all_goals (exact ret _ _ _ P9 (by k_asm) (does_end N hK (hA _ P9) (by k_asm)))
theorem transfer_none {iname l0 prefx : Str} {τi : StT} {ins isd tp sx : Addr} (nm : NoMS iname l0) (i1 : (ins,instObj 742 isd) ∈ news) (i2 : (isd,insDict w τi iname tp prefx) ∈ news) (h1 : Does w loose mean mg mb 6 9 858 [.ref sx,.ref ins] (.bool false) news (fun _ : Unit=>news) (fun _=>True)) (h2 : Does w loose mean mg mb 6 9 945 [.ref sx,.ref ins] (.bool false) news (fun _ : Unit=>news) (fun _=>True)) :
    Does w loose mean mg mb 8 12 952 [.ref sx,.ref ins] (.bool false) news (fun _ : Unit=>news) (fun _=>True):=by
  intro dp un gd cn cs L a ccd cl outer A₀ base h₀ m hpS gnS drS tkS osS Q E B F X N T hk hd hu ret
  have hS : ∀ q ∈ news,q ∈ news:=hs_self
  k_with "call ref"=>((fail_if_success have:=off36);k_here;(with_reducible show wpAny _ _ (call (Value.ref 781) _ _) _ _ _);(k_dflt (refine' does_use (move_nod nm.n0 nm.n1 nm.n2 nm.n3 i1 i2) ?k1 ?k2 ?k3 ?k4 ?k5 ?kK ?kd ?ku ?_;walk_at "ks";k_whole;intro i9 h' tk' P9 F' N';(try k_sweep))))
  k_with "call ref"=>((fail_if_success have:=off36);k_here;(with_reducible show wpAny _ _ (call (Value.ref 802) _ _) _ _ _);(k_dflt (refine' does_use (stack_nod nm i1 i2) ?k1 ?k2 ?k3 ?k4 ?k5 ?kK ?kd ?ku ?_;walk_at "ks";k_whole;intro i9 h' tk' P9 F' N';(try k_sweep))))
  k_with "call ref"=>((fail_if_success have:=off36);k_here;(with_reducible show wpAny _ _ (call (Value.ref 830) _ _) _ _ _);(k_dflt (refine' does_use (jump_nod nm i1 i2) ?k1 ?k2 ?k3 ?k4 ?k5 ?kK ?kd ?ku ?_;walk_at "ks";k_whole;intro i9 h' tk' P9 F' N';(try k_sweep))))
  k_with "call ref"=>((fail_if_success have:=off36);k_here;(with_reducible show wpAny _ _ (call (Value.ref 858) _ _) _ _ _);(k_dflt (refine' does_use h1 ?k1 ?k2 ?k3 ?k4 ?k5 ?kK ?kd ?ku ?_;walk_at "ks";k_whole;intro i9 h' tk' P9 F' N';(try k_sweep))))
  k_with "call ref"=>((fail_if_success have:=off36);k_here;(with_reducible show wpAny _ _ (call (Value.ref 945) _ _) _ _ _);(k_dflt (refine' does_use h2 ?k1 ?k2 ?k3 ?k4 ?k5 ?kK ?kd ?ku ?_;walk_at "ks";k_whole;intro i9 h' tk' P9 F' N';(try k_sweep))))
  refine wpAny_call ?_
  ktr_enter
  k_steps
  all_goals (refine withKept_ok fun hK=>?_)
  all_goals (show Q _ _)
  all_goals (exact ret () _ _ trivial (by k_asm) (does_end N hK adr_refl (by k_asm)))
theorem off36 : True:=trivial
noncomputable def chkS (iname sort letter : Str) (size place : Int) : Bool:=decide (Txt.slice iname none (some 4) = sort) && ((["movs","cmps","stos","lods","scas"] : List Str).any (· == sort) && (decide (iname.length = 5) && (decide (Txt.item iname 4 = letter) && (decide ((Txt.find "bwdq" letter : Int) = place) && (decide (0 ≤ place ∧ place ≤ 3) && (decide (8 * 2 ^ place.toNat = size) && !(sort == ("" : Str))))))))
theorem chkS_ok {iname sort letter : Str} {size place : Int} (h : chkS iname sort letter size place = true) : StrNm iname sort letter size place:=by
  unfold chkS at h
  simp only [Bool.and_eq_true,decide_eq_true_eq,Bool.not_eq_true'] at h
  exact ⟨h.1,h.2.1,h.2.2.1,h.2.2.2.1,h.2.2.2.2.1,h.2.2.2.2.2.1,h.2.2.2.2.2.2.1,h.2.2.2.2.2.2.2⟩
noncomputable def chkN (iname l0 : Str) : Bool:=decide (0 < iname.length) && (decide (Txt.item iname 0 = l0) && (!(l0 == ("j" : Str)) && ([("call" : Str),"ret","loop","loope","loopne","nop","mov","lea","xchg","push","pop","pushfq","popfq","leave"].all fun x=>!(iname == x))))
theorem chkN_ok {iname l0 : Str} (h : chkN iname l0 = true) : NoMS iname l0:=by
  unfold chkN at h
  simp only [Bool.and_eq_true,decide_eq_true_eq,Bool.not_eq_true',List.all_cons,List.all_nil,and_true] at h
  obtain ⟨a,b,c,d1,d2,d3,d4,d5,d6,d7,d8,d9,d10,d11,d12,d13,d14⟩:=h
  have f : ∀ {x y : Str},(x == y) = false → (y == x) = false:=fun {x y} h=>by rw [BEq.comm];exact h
  exact ⟨a,b,c,d1,d2,by simp only [List.any_cons,List.any_nil,f d3,f d4,f d5];rfl,d6,d7,d8,d9,d10,d11,d12,d13,d14⟩
theorem nm_stos {iname : Str} {size : Int} (hs : (size = 8 ∧ iname = "stosb") ∨ (size = 16 ∧ iname = "stosw") ∨ (size = 32 ∧ iname = "stosd") ∨ (size = 64 ∧ iname = "stosq")) : ∃ l p,StrNm iname "stos" l size p ∧ NoMS iname "s":=by
  rcases hs with ⟨rfl,rfl⟩ | ⟨rfl,rfl⟩ | ⟨rfl,rfl⟩ | ⟨rfl,rfl⟩
  · exact ⟨"b",0,chkS_ok (by decide +kernel),chkN_ok (by decide +kernel)⟩
  · exact ⟨"w",1,chkS_ok (by decide +kernel),chkN_ok (by decide +kernel)⟩
  · exact ⟨"d",2,chkS_ok (by decide +kernel),chkN_ok (by decide +kernel)⟩
  · exact ⟨"q",3,chkS_ok (by decide +kernel),chkN_ok (by decide +kernel)⟩
theorem nm_movs {iname : Str} {size : Int} (hs : (size = 8 ∧ iname = "movsb") ∨ (size = 16 ∧ iname = "movsw") ∨ (size = 32 ∧ iname = "movsd") ∨ (size = 64 ∧ iname = "movsq")) : ∃ l p,StrNm iname "movs" l size p ∧ NoMS iname "m":=by
  rcases hs with ⟨rfl,rfl⟩ | ⟨rfl,rfl⟩ | ⟨rfl,rfl⟩ | ⟨rfl,rfl⟩
  · exact ⟨"b",0,chkS_ok (by decide +kernel),chkN_ok (by decide +kernel)⟩
  · exact ⟨"w",1,chkS_ok (by decide +kernel),chkN_ok (by decide +kernel)⟩
  · exact ⟨"d",2,chkS_ok (by decide +kernel),chkN_ok (by decide +kernel)⟩
  · exact ⟨"q",3,chkS_ok (by decide +kernel),chkN_ok (by decide +kernel)⟩
theorem nm_lods {iname : Str} {size : Int} (hs : (size = 8 ∧ iname = "lodsb") ∨ (size = 16 ∧ iname = "lodsw") ∨ (size = 32 ∧ iname = "lodsd") ∨ (size = 64 ∧ iname = "lodsq")) : ∃ l p,StrNm iname "lods" l size p ∧ NoMS iname "l":=by
  rcases hs with ⟨rfl,rfl⟩ | ⟨rfl,rfl⟩ | ⟨rfl,rfl⟩ | ⟨rfl,rfl⟩
  · exact ⟨"b",0,chkS_ok (by decide +kernel),chkN_ok (by decide +kernel)⟩
  · exact ⟨"w",1,chkS_ok (by decide +kernel),chkN_ok (by decide +kernel)⟩
  · exact ⟨"d",2,chkS_ok (by decide +kernel),chkN_ok (by decide +kernel)⟩
  · exact ⟨"q",3,chkS_ok (by decide +kernel),chkN_ok (by decide +kernel)⟩
theorem nm_scas {iname : Str} {size : Int} (hs : (size = 8 ∧ iname = "scasb") ∨ (size = 16 ∧ iname = "scasw") ∨ (size = 32 ∧ iname = "scasd") ∨ (size = 64 ∧ iname = "scasq")) : ∃ l p,StrNm iname "scas" l size p ∧ NoMS iname "s":=by
  rcases hs with ⟨rfl,rfl⟩ | ⟨rfl,rfl⟩ | ⟨rfl,rfl⟩ | ⟨rfl,rfl⟩
  · exact ⟨"b",0,chkS_ok (by decide +kernel),chkN_ok (by decide +kernel)⟩
  · exact ⟨"w",1,chkS_ok (by decide +kernel),chkN_ok (by decide +kernel)⟩
  · exact ⟨"d",2,chkS_ok (by decide +kernel),chkN_ok (by decide +kernel)⟩
  · exact ⟨"q",3,chkS_ok (by decide +kernel),chkN_ok (by decide +kernel)⟩
theorem nm_cmps {iname : Str} {size : Int} (hs : (size = 8 ∧ iname = "cmpsb") ∨ (size = 16 ∧ iname = "cmpsw") ∨ (size = 32 ∧ iname = "cmpsd") ∨ (size = 64 ∧ iname = "cmpsq")) : ∃ l p,StrNm iname "cmps" l size p ∧ NoMS iname "c":=by
  rcases hs with ⟨rfl,rfl⟩ | ⟨rfl,rfl⟩ | ⟨rfl,rfl⟩ | ⟨rfl,rfl⟩
  · exact ⟨"b",0,chkS_ok (by decide +kernel),chkN_ok (by decide +kernel)⟩
  · exact ⟨"w",1,chkS_ok (by decide +kernel),chkN_ok (by decide +kernel)⟩
  · exact ⟨"d",2,chkS_ok (by decide +kernel),chkN_ok (by decide +kernel)⟩
  · exact ⟨"q",3,chkS_ok (by decide +kernel),chkN_ok (by decide +kernel)⟩
theorem t_stos (B : Below A₀ base outer h₀) (F : Fr h₀ L hpS m) (X : (heapK w.params).In h₀) (N : News h₀ L hpS news) (T : Top viewK loose mean mg mb h₀) (hk : cs.kind = .function)
  {σ : StA} {τ : StT} {rip beg : Int} {vs : List Value} {ns : List Int} {ep : Nat} {τf : FlT} {f : Fl} {o : Obj} {D : List (Int × Int)} {th : Tok} {τi : StT} {ins isd tp : Addr} {iname : Str} {size : Int} {g1 : Obj → List (Addr × Obj)} {g2 : Obj → Obj → List (Addr × Obj)}
  (hd : dp + 18 < recursionLimit) (hu : un + 8 * 30 < cLine)
  (h1 : (σ.x,instObj 511 σ.dx) ∈ news) (h2 : (σ.dx,stDict w τ σ rip beg) ∈ news) (U1 : UpdF σ.regs (W.listOf vs.toArray ep) news g1) (hI : IntsAre vs ns) (hlen : ns.length = 16) (f1 : (σ.fl,instObj 188 σ.fd) ∈ news) (f2 : (σ.fd,flDict w τf f) ∈ news) (e1 : (σ.me,instObj 394 σ.md) ∈ news) (e2 : (σ.md,dictOf [ent w "held" th (.ref σ.held)] 1) ∈ news) (hrh : σ.regs ≠ σ.held) (U2 : ∀ o1,UpdF σ.held o (g1 o1) (g2 o1)) (e4 : IsMem w o D) (e5 : (σ.held == sysModules) = false) (e6 : OkD D) (i1 : (ins,instObj 742 isd) ∈ news) (i2 : (isd,insDict w τi iname tp "") ∈ news) (i3 : (tp,tupObj []) ∈ news) (hs : (size = 8 ∧ iname = "stosb") ∨ (size = 16 ∧ iname = "stosw") ∨ (size = 32 ∧ iname = "stosd") ∨ (size = 64 ∧ iname = "stosq")) (hl : D.length ≤ 3900)
  (ret : ∀ (vs' : List Value) (ep' : Nat) (o' : Obj) h' tk',Fr h₀ L h' m → News h₀ L h' (g2 (W.listOf vs'.toArray ep') o') → IntsAre vs' (goI ns 7 (Int.fdiv size 8) f.df) → (goI ns 7 (Int.fdiv size 8) f.df).length = 16 → IsMem w o' (writeI D (ns.getD 7 0) (Int.fdiv size 8) (wrapI (ns.getD 0 0) size)) → OkD (writeI D (ns.getD 7 0) (Int.fdiv size 8) (wrapI (ns.getD 0 0) size)) → (writeI D (ns.getD 7 0) (Int.fdiv size 8) (wrapI (ns.getD 0 0) size)).length ≤ D.length + 16 → Q (.bool true) ⟨h',gnS,drS,tk',osS⟩) :
  wpAny (model PySem.Challenge.rw_qd0115_01.row.prog w) (ktrTop dp un gd cn cs L a ccd cl outer) (call (.ref 952) [.ref σ.x,.ref ins]) Q E ⟨hpS,gnS,drS,tkS,osS⟩:=by
  have sz4 : size = 8 ∨ size = 16 ∨ size = 32 ∨ size = 64:=by
    rcases hs with h | h | h | h
    · exact .inl h.1
    · exact .inr (.inl h.1)
    · exact .inr (.inr (.inl h.1))
    · exact .inr (.inr (.inr h.1))
  obtain ⟨l,p,nm,no⟩:=nm_stos hs
  have hA : ∀ i : List Value × Nat × Obj,(IntsAre i.1 (goI ns 7 (Int.fdiv size 8) f.df) ∧ (goI ns 7 (Int.fdiv size 8) f.df).length = 16 ∧ IsMem w i.2.2 (writeI D (ns.getD 7 0) (Int.fdiv size 8) (wrapI (ns.getD 0 0) size)) ∧ OkD (writeI D (ns.getD 7 0) (Int.fdiv size 8) (wrapI (ns.getD 0 0) size)) ∧ (writeI D (ns.getD 7 0) (Int.fdiv size 8) (wrapI (ns.getD 0 0) size)).length ≤ D.length + 16) → Adr news (g2 (W.listOf (i.1).toArray i.2.1) i.2.2):=fun i _=>adr_trans (adr_upd U1) (adr_upd (U2 _))
  refine does_use (transfer_string (post:=fun i : List Value × Nat × Obj=>g2 (W.listOf (i.1).toArray i.2.1) i.2.2) (Pf:=fun i=>IntsAre i.1 (goI ns 7 (Int.fdiv size 8) f.df) ∧ (goI ns 7 (Int.fdiv size 8) f.df).length = 16 ∧ IsMem w i.2.2 (writeI D (ns.getD 7 0) (Int.fdiv size 8) (wrapI (ns.getD 0 0) size)) ∧ OkD (writeI D (ns.getD 7 0) (Int.fdiv size 8) (wrapI (ns.getD 0 0) size)) ∧ (writeI D (ns.getD 7 0) (Int.fdiv size 8) (wrapI (ns.getD 0 0) size)).length ≤ D.length + 16) no i1 i2 hA (string_does nm i1 i2 i3 hA fun t1 t2=>?_)) B F X N T hk hd hu fun i h' tk' P F' N'=>ret i.1 i.2.1 i.2.2 h' tk' F' N' P.1 P.2.1 P.2.2.1 P.2.2.2.1 P.2.2.2.2
  intro dp un gd cn cs L a ccd cl outer A₀ base h₀ m hpS gnS drS tkS osS Q E B F X N T hk hd hu ret
  exact r_stos B F X N T hk (by omega) (by omega) h1 h2 U1 hI hlen f1 f2 e1 e2 hrh U2 e4 e5 e6 sz4 hl (fun vs' ep' o' h' tk' F' N' a0 a1 a2 a3 a4=>ret (vs',ep',o') h' tk' ⟨a0,a1,a2,a3,a4⟩ F' N')
theorem t_movs (B : Below A₀ base outer h₀) (F : Fr h₀ L hpS m) (X : (heapK w.params).In h₀) (N : News h₀ L hpS news) (T : Top viewK loose mean mg mb h₀) (hk : cs.kind = .function)
  {σ : StA} {τ : StT} {rip beg : Int} {vs : List Value} {ns : List Int} {ep : Nat} {τf : FlT} {f : Fl} {o : Obj} {D : List (Int × Int)} {th : Tok} {τi : StT} {ins isd tp : Addr} {iname : Str} {size : Int} {g1 : Obj → List (Addr × Obj)} {g2 : Obj → Obj → List (Addr × Obj)}
  (hd : dp + 18 < recursionLimit) (hu : un + 8 * 30 < cLine)
  (h1 : (σ.x,instObj 511 σ.dx) ∈ news) (h2 : (σ.dx,stDict w τ σ rip beg) ∈ news) (U1 : UpdF σ.regs (W.listOf vs.toArray ep) news g1) (hI : IntsAre vs ns) (hlen : ns.length = 16) (f1 : (σ.fl,instObj 188 σ.fd) ∈ news) (f2 : (σ.fd,flDict w τf f) ∈ news) (e1 : (σ.me,instObj 394 σ.md) ∈ news) (e2 : (σ.md,dictOf [ent w "held" th (.ref σ.held)] 1) ∈ news) (hrh : σ.regs ≠ σ.held) (U2 : ∀ o1,UpdF σ.held o (g1 o1) (g2 o1)) (e4 : IsMem w o D) (e5 : (σ.held == sysModules) = false) (e6 : OkD D) (i1 : (ins,instObj 742 isd) ∈ news) (i2 : (isd,insDict w τi iname tp "") ∈ news) (i3 : (tp,tupObj []) ∈ news) (hs : (size = 8 ∧ iname = "movsb") ∨ (size = 16 ∧ iname = "movsw") ∨ (size = 32 ∧ iname = "movsd") ∨ (size = 64 ∧ iname = "movsq")) (hl : D.length ≤ 3900)
  (ret : ∀ (vs' : List Value) (ep' : Nat) (o' : Obj) h' tk',Fr h₀ L h' m → News h₀ L h' (g2 (W.listOf vs'.toArray ep') o') → IntsAre vs' (goI (goI ns 7 (Int.fdiv size 8) f.df) 6 (Int.fdiv size 8) f.df) → (goI (goI ns 7 (Int.fdiv size 8) f.df) 6 (Int.fdiv size 8) f.df).length = 16 → IsMem w o' (writeI D (ns.getD 7 0) (Int.fdiv size 8) (readI D (ns.getD 6 0) (Int.fdiv size 8))) → OkD (writeI D (ns.getD 7 0) (Int.fdiv size 8) (readI D (ns.getD 6 0) (Int.fdiv size 8))) → (writeI D (ns.getD 7 0) (Int.fdiv size 8) (readI D (ns.getD 6 0) (Int.fdiv size 8))).length ≤ D.length + 16 → Q (.bool true) ⟨h',gnS,drS,tk',osS⟩) :
  wpAny (model PySem.Challenge.rw_qd0115_01.row.prog w) (ktrTop dp un gd cn cs L a ccd cl outer) (call (.ref 952) [.ref σ.x,.ref ins]) Q E ⟨hpS,gnS,drS,tkS,osS⟩:=by
  have sz4 : size = 8 ∨ size = 16 ∨ size = 32 ∨ size = 64:=by
    rcases hs with h | h | h | h
    · exact .inl h.1
    · exact .inr (.inl h.1)
    · exact .inr (.inr (.inl h.1))
    · exact .inr (.inr (.inr h.1))
  obtain ⟨l,p,nm,no⟩:=nm_movs hs
  have hA : ∀ i : List Value × Nat × Obj,(IntsAre i.1 (goI (goI ns 7 (Int.fdiv size 8) f.df) 6 (Int.fdiv size 8) f.df) ∧ (goI (goI ns 7 (Int.fdiv size 8) f.df) 6 (Int.fdiv size 8) f.df).length = 16 ∧ IsMem w i.2.2 (writeI D (ns.getD 7 0) (Int.fdiv size 8) (readI D (ns.getD 6 0) (Int.fdiv size 8))) ∧ OkD (writeI D (ns.getD 7 0) (Int.fdiv size 8) (readI D (ns.getD 6 0) (Int.fdiv size 8))) ∧ (writeI D (ns.getD 7 0) (Int.fdiv size 8) (readI D (ns.getD 6 0) (Int.fdiv size 8))).length ≤ D.length + 16) → Adr news (g2 (W.listOf (i.1).toArray i.2.1) i.2.2):=fun i _=>adr_trans (adr_upd U1) (adr_upd (U2 _))
  refine does_use (transfer_string (post:=fun i : List Value × Nat × Obj=>g2 (W.listOf (i.1).toArray i.2.1) i.2.2) (Pf:=fun i=>IntsAre i.1 (goI (goI ns 7 (Int.fdiv size 8) f.df) 6 (Int.fdiv size 8) f.df) ∧ (goI (goI ns 7 (Int.fdiv size 8) f.df) 6 (Int.fdiv size 8) f.df).length = 16 ∧ IsMem w i.2.2 (writeI D (ns.getD 7 0) (Int.fdiv size 8) (readI D (ns.getD 6 0) (Int.fdiv size 8))) ∧ OkD (writeI D (ns.getD 7 0) (Int.fdiv size 8) (readI D (ns.getD 6 0) (Int.fdiv size 8))) ∧ (writeI D (ns.getD 7 0) (Int.fdiv size 8) (readI D (ns.getD 6 0) (Int.fdiv size 8))).length ≤ D.length + 16) no i1 i2 hA (string_does nm i1 i2 i3 hA fun t1 t2=>?_)) B F X N T hk hd hu fun i h' tk' P F' N'=>ret i.1 i.2.1 i.2.2 h' tk' F' N' P.1 P.2.1 P.2.2.1 P.2.2.2.1 P.2.2.2.2
  intro dp un gd cn cs L a ccd cl outer A₀ base h₀ m hpS gnS drS tkS osS Q E B F X N T hk hd hu ret
  exact r_movs B F X N T hk (by omega) (by omega) h1 h2 U1 hI hlen f1 f2 e1 e2 hrh U2 e4 e5 e6 sz4 hl (fun vs' ep' o' h' tk' F' N' a0 a1 a2 a3 a4=>ret (vs',ep',o') h' tk' ⟨a0,a1,a2,a3,a4⟩ F' N')
theorem t_lods (B : Below A₀ base outer h₀) (F : Fr h₀ L hpS m) (X : (heapK w.params).In h₀) (N : News h₀ L hpS news) (T : Top viewK loose mean mg mb h₀) (hk : cs.kind = .function)
  {σ : StA} {τ : StT} {rip beg : Int} {vs : List Value} {ns : List Int} {ep : Nat} {τf : FlT} {f : Fl} {o : Obj} {D : List (Int × Int)} {th : Tok} {τi : StT} {ins isd tp : Addr} {iname : Str} {size : Int} {g : Obj → List (Addr × Obj)}
  (hd : dp + 18 < recursionLimit) (hu : un + 8 * 30 < cLine)
  (h1 : (σ.x,instObj 511 σ.dx) ∈ news) (h2 : (σ.dx,stDict w τ σ rip beg) ∈ news) (U : UpdF σ.regs (W.listOf vs.toArray ep) news g) (hI : IntsAre vs ns) (hlen : ns.length = 16) (f1 : (σ.fl,instObj 188 σ.fd) ∈ news) (f2 : (σ.fd,flDict w τf f) ∈ news) (e1 : (σ.me,instObj 394 σ.md) ∈ news) (e2 : (σ.md,dictOf [ent w "held" th (.ref σ.held)] 1) ∈ news) (e3 : (σ.held,o) ∈ news) (e4 : IsMem w o D) (e5 : (σ.held == sysModules) = false) (e6 : OkD D) (i1 : (ins,instObj 742 isd) ∈ news) (i2 : (isd,insDict w τi iname tp "") ∈ news) (i3 : (tp,tupObj []) ∈ news) (hs : (size = 8 ∧ iname = "lodsb") ∨ (size = 16 ∧ iname = "lodsw") ∨ (size = 32 ∧ iname = "lodsd") ∨ (size = 64 ∧ iname = "lodsq"))
  (ret : ∀ (vs' : List Value) (ep' : Nat) h' tk',Fr h₀ L h' m → News h₀ L h' (g (W.listOf vs'.toArray ep')) → IntsAre vs' (goI (putI ns 0 size (readI D (ns.getD 6 0) (Int.fdiv size 8))) 6 (Int.fdiv size 8) f.df) → (goI (putI ns 0 size (readI D (ns.getD 6 0) (Int.fdiv size 8))) 6 (Int.fdiv size 8) f.df).length = 16 → Q (.bool true) ⟨h',gnS,drS,tk',osS⟩) :
  wpAny (model PySem.Challenge.rw_qd0115_01.row.prog w) (ktrTop dp un gd cn cs L a ccd cl outer) (call (.ref 952) [.ref σ.x,.ref ins]) Q E ⟨hpS,gnS,drS,tkS,osS⟩:=by
  have sz4 : size = 8 ∨ size = 16 ∨ size = 32 ∨ size = 64:=by
    rcases hs with h | h | h | h
    · exact .inl h.1
    · exact .inr (.inl h.1)
    · exact .inr (.inr (.inl h.1))
    · exact .inr (.inr (.inr h.1))
  obtain ⟨l,p,nm,no⟩:=nm_lods hs
  have hA : ∀ i : List Value × Nat,(IntsAre i.1 (goI (putI ns 0 size (readI D (ns.getD 6 0) (Int.fdiv size 8))) 6 (Int.fdiv size 8) f.df) ∧ (goI (putI ns 0 size (readI D (ns.getD 6 0) (Int.fdiv size 8))) 6 (Int.fdiv size 8) f.df).length = 16) → Adr news (g (W.listOf (i.1).toArray i.2)):=fun i _=>adr_upd U
  refine does_use (transfer_string (post:=fun i : List Value × Nat=>g (W.listOf (i.1).toArray i.2)) (Pf:=fun i=>IntsAre i.1 (goI (putI ns 0 size (readI D (ns.getD 6 0) (Int.fdiv size 8))) 6 (Int.fdiv size 8) f.df) ∧ (goI (putI ns 0 size (readI D (ns.getD 6 0) (Int.fdiv size 8))) 6 (Int.fdiv size 8) f.df).length = 16) no i1 i2 hA (string_does nm i1 i2 i3 hA fun t1 t2=>?_)) B F X N T hk hd hu fun i h' tk' P F' N'=>ret i.1 i.2 h' tk' F' N' P.1 P.2
  intro dp un gd cn cs L a ccd cl outer A₀ base h₀ m hpS gnS drS tkS osS Q E B F X N T hk hd hu ret
  exact r_lods B F X N T hk (by omega) (by omega) h1 h2 U hI hlen f1 f2 e1 e2 e3 e4 e5 e6 sz4 (fun vs' ep' h' tk' F' N' a0 a1=>ret (vs',ep') h' tk' ⟨a0,a1⟩ F' N')
theorem t_scas (B : Below A₀ base outer h₀) (F : Fr h₀ L hpS m) (X : (heapK w.params).In h₀) (N : News h₀ L hpS news) (T : Top viewK loose mean mg mb h₀) (hk : cs.kind = .function)
  {σ : StA} {τ : StT} {rip beg : Int} {vs : List Value} {ns : List Int} {ep : Nat} {τf : FlT} {f : Fl} {o : Obj} {D : List (Int × Int)} {th : Tok} {τi : StT} {ins isd tp : Addr} {iname : Str} {size : Int} {g1 : Obj → List (Addr × Obj)} {g2 : Obj → Obj → List (Addr × Obj)}
  (hd : dp + 18 < recursionLimit) (hu : un + 8 * 30 < cLine)
  (h1 : (σ.x,instObj 511 σ.dx) ∈ news) (h2 : (σ.dx,stDict w τ σ rip beg) ∈ news) (U1 : UpdF σ.regs (W.listOf vs.toArray ep) news g1) (hI : IntsAre vs ns) (hlen : ns.length = 16) (f1 : (σ.fl,instObj 188 σ.fd) ∈ news) (e1 : (σ.me,instObj 394 σ.md) ∈ news) (e2 : (σ.md,dictOf [ent w "held" th (.ref σ.held)] 1) ∈ news) (e3 : (σ.held,o) ∈ news) (e4 : IsMem w o D) (e5 : (σ.held == sysModules) = false) (e6 : OkD D) (hrf : σ.regs ≠ σ.fd) (U2 : ∀ o1,UpdF σ.fd (flDict w τf f) (g1 o1) (g2 o1)) (i1 : (ins,instObj 742 isd) ∈ news) (i2 : (isd,insDict w τi iname tp "") ∈ news) (i3 : (tp,tupObj []) ∈ news) (hs : (size = 8 ∧ iname = "scasb") ∨ (size = 16 ∧ iname = "scasw") ∨ (size = 32 ∧ iname = "scasd") ∨ (size = 64 ∧ iname = "scasq"))
  (ret : ∀ (vs' : List Value) (ep' : Nat) (o' : Obj) h' tk',Fr h₀ L h' m → News h₀ L h' (g2 (W.listOf vs'.toArray ep') o') → IntsAre vs' (goI ns 7 (Int.fdiv size 8) f.df) → (goI ns 7 (Int.fdiv size 8) f.df).length = 16 → IsFl w o' (subF f (wrapI (ns.getD 0 0) size) (readI D (ns.getD 7 0) (Int.fdiv size 8)) size) → Q (.bool true) ⟨h',gnS,drS,tk',osS⟩) :
  wpAny (model PySem.Challenge.rw_qd0115_01.row.prog w) (ktrTop dp un gd cn cs L a ccd cl outer) (call (.ref 952) [.ref σ.x,.ref ins]) Q E ⟨hpS,gnS,drS,tkS,osS⟩:=by
  have sz4 : size = 8 ∨ size = 16 ∨ size = 32 ∨ size = 64:=by
    rcases hs with h | h | h | h
    · exact .inl h.1
    · exact .inr (.inl h.1)
    · exact .inr (.inr (.inl h.1))
    · exact .inr (.inr (.inr h.1))
  obtain ⟨l,p,nm,no⟩:=nm_scas hs
  have hA : ∀ i : List Value × Nat × Obj,(IntsAre i.1 (goI ns 7 (Int.fdiv size 8) f.df) ∧ (goI ns 7 (Int.fdiv size 8) f.df).length = 16 ∧ IsFl w i.2.2 (subF f (wrapI (ns.getD 0 0) size) (readI D (ns.getD 7 0) (Int.fdiv size 8)) size)) → Adr news (g2 (W.listOf (i.1).toArray i.2.1) i.2.2):=fun i _=>adr_trans (adr_upd U1) (adr_upd (U2 _))
  refine does_use (transfer_string (post:=fun i : List Value × Nat × Obj=>g2 (W.listOf (i.1).toArray i.2.1) i.2.2) (Pf:=fun i=>IntsAre i.1 (goI ns 7 (Int.fdiv size 8) f.df) ∧ (goI ns 7 (Int.fdiv size 8) f.df).length = 16 ∧ IsFl w i.2.2 (subF f (wrapI (ns.getD 0 0) size) (readI D (ns.getD 7 0) (Int.fdiv size 8)) size)) no i1 i2 hA (string_does nm i1 i2 i3 hA fun t1 t2=>?_)) B F X N T hk hd hu fun i h' tk' P F' N'=>ret i.1 i.2.1 i.2.2 h' tk' F' N' P.1 P.2.1 P.2.2
  intro dp un gd cn cs L a ccd cl outer A₀ base h₀ m hpS gnS drS tkS osS Q E B F X N T hk hd hu ret
  exact r_scas B F X N T hk (by omega) (by omega) h1 h2 U1 hI hlen f1 e1 e2 e3 e4 e5 e6 hrf U2 sz4 (fun vs' ep' o' h' tk' F' N' a0 a1 a2=>ret (vs',ep',o') h' tk' ⟨a0,a1,a2⟩ F' N')
theorem t_cmps (B : Below A₀ base outer h₀) (F : Fr h₀ L hpS m) (X : (heapK w.params).In h₀) (N : News h₀ L hpS news) (T : Top viewK loose mean mg mb h₀) (hk : cs.kind = .function)
  {σ : StA} {τ : StT} {rip beg : Int} {vs : List Value} {ns : List Int} {ep : Nat} {τf : FlT} {f : Fl} {o : Obj} {D : List (Int × Int)} {th : Tok} {τi : StT} {ins isd tp : Addr} {iname : Str} {size : Int} {g1 : Obj → List (Addr × Obj)} {g2 : Obj → Obj → List (Addr × Obj)}
  (hd : dp + 18 < recursionLimit) (hu : un + 8 * 30 < cLine)
  (h1 : (σ.x,instObj 511 σ.dx) ∈ news) (h2 : (σ.dx,stDict w τ σ rip beg) ∈ news) (U1 : UpdF σ.regs (W.listOf vs.toArray ep) news g1) (hI : IntsAre vs ns) (hlen : ns.length = 16) (f1 : (σ.fl,instObj 188 σ.fd) ∈ news) (e1 : (σ.me,instObj 394 σ.md) ∈ news) (e2 : (σ.md,dictOf [ent w "held" th (.ref σ.held)] 1) ∈ news) (e3 : (σ.held,o) ∈ news) (e4 : IsMem w o D) (e5 : (σ.held == sysModules) = false) (e6 : OkD D) (hrf : σ.regs ≠ σ.fd) (U2 : ∀ o1,UpdF σ.fd (flDict w τf f) (g1 o1) (g2 o1)) (i1 : (ins,instObj 742 isd) ∈ news) (i2 : (isd,insDict w τi iname tp "") ∈ news) (i3 : (tp,tupObj []) ∈ news) (hs : (size = 8 ∧ iname = "cmpsb") ∨ (size = 16 ∧ iname = "cmpsw") ∨ (size = 32 ∧ iname = "cmpsd") ∨ (size = 64 ∧ iname = "cmpsq"))
  (ret : ∀ (vs' : List Value) (ep' : Nat) (o' : Obj) h' tk',Fr h₀ L h' m → News h₀ L h' (g2 (W.listOf vs'.toArray ep') o') → IntsAre vs' (goI (goI ns 7 (Int.fdiv size 8) f.df) 6 (Int.fdiv size 8) f.df) → (goI (goI ns 7 (Int.fdiv size 8) f.df) 6 (Int.fdiv size 8) f.df).length = 16 → IsFl w o' (subF f (readI D (ns.getD 6 0) (Int.fdiv size 8)) (readI D (ns.getD 7 0) (Int.fdiv size 8)) size) → Q (.bool true) ⟨h',gnS,drS,tk',osS⟩) :
  wpAny (model PySem.Challenge.rw_qd0115_01.row.prog w) (ktrTop dp un gd cn cs L a ccd cl outer) (call (.ref 952) [.ref σ.x,.ref ins]) Q E ⟨hpS,gnS,drS,tkS,osS⟩:=by
  have sz4 : size = 8 ∨ size = 16 ∨ size = 32 ∨ size = 64:=by
    rcases hs with h | h | h | h
    · exact .inl h.1
    · exact .inr (.inl h.1)
    · exact .inr (.inr (.inl h.1))
    · exact .inr (.inr (.inr h.1))
  obtain ⟨l,p,nm,no⟩:=nm_cmps hs
  have hA : ∀ i : List Value × Nat × Obj,(IntsAre i.1 (goI (goI ns 7 (Int.fdiv size 8) f.df) 6 (Int.fdiv size 8) f.df) ∧ (goI (goI ns 7 (Int.fdiv size 8) f.df) 6 (Int.fdiv size 8) f.df).length = 16 ∧ IsFl w i.2.2 (subF f (readI D (ns.getD 6 0) (Int.fdiv size 8)) (readI D (ns.getD 7 0) (Int.fdiv size 8)) size)) → Adr news (g2 (W.listOf (i.1).toArray i.2.1) i.2.2):=fun i _=>adr_trans (adr_upd U1) (adr_upd (U2 _))
  refine does_use (transfer_string (post:=fun i : List Value × Nat × Obj=>g2 (W.listOf (i.1).toArray i.2.1) i.2.2) (Pf:=fun i=>IntsAre i.1 (goI (goI ns 7 (Int.fdiv size 8) f.df) 6 (Int.fdiv size 8) f.df) ∧ (goI (goI ns 7 (Int.fdiv size 8) f.df) 6 (Int.fdiv size 8) f.df).length = 16 ∧ IsFl w i.2.2 (subF f (readI D (ns.getD 6 0) (Int.fdiv size 8)) (readI D (ns.getD 7 0) (Int.fdiv size 8)) size)) no i1 i2 hA (string_does nm i1 i2 i3 hA fun t1 t2=>?_)) B F X N T hk hd hu fun i h' tk' P F' N'=>ret i.1 i.2.1 i.2.2 h' tk' F' N' P.1 P.2.1 P.2.2
  intro dp un gd cn cs L a ccd cl outer A₀ base h₀ m hpS gnS drS tkS osS Q E B F X N T hk hd hu ret
  exact r_cmps B F X N T hk (by omega) (by omega) h1 h2 U1 hI hlen f1 e1 e2 e3 e4 e5 e6 hrf U2 sz4 (fun vs' ep' o' h' tk' F' N' a0 a1 a2=>ret (vs',ep',o') h' tk' ⟨a0,a1,a2⟩ F' N')
theorem d_lea {σ : StA} {τ : StT} {rip beg : Int} {vs : List Value} {ns : List Int} {ep : Nat} {τi : StT} {ins isd tp : Addr} {τo τ' : StT} {ro rod rg rd : Addr} {rn : Value} {number size : Int} {τm τb : StT} {mo mod brg brd : Addr} {bn : Value} {disp msz : Int} {u1 u2 : Tok} {g : Obj → List (Addr × Obj)}
  (h1 : (σ.x,instObj 511 σ.dx) ∈ news) (h2 : (σ.dx,stDict w τ σ rip beg) ∈ news) (U : UpdF σ.regs (W.listOf vs.toArray ep) news g) (hI : IntsAre vs ns) (hlen : ns.length = 16) (i1 : (ins,instObj 742 isd) ∈ news) (i2 : (isd,insDict w τi "lea" tp "") ∈ news) (i3 : (tp,tupObj [.ref ro,.ref mo]) ∈ news) (r1 : (ro,instObj 602 rod) ∈ news) (r2 : (rod,roDict w τo rg) ∈ news) (r3 : (rg,instObj 279 rd) ∈ news) (r4 : (rd,rgDict w τ' rn number size) ∈ news) (b1 : (brg,instObj 279 brd) ∈ news) (b2 : (brd,rgDict w τb bn 7 64) ∈ news) (o1 : (mo,instObj 689 mod) ∈ news) (o2 : (mod,moDict w τm brg disp msz u1 u2) ∈ news) (hnb : 0 ≤ number) (hnb2 : number < 16) (hsz : 0 ≤ size) (hsz2 : size ≤ 128) :
  Does w loose mean mg mb 13 13 781 [.ref σ.x,.ref ins] (.bool true) news (fun i : List Value × Nat=>g (W.listOf (i.1).toArray i.2)) (fun i=>IntsAre i.1 (putI ns number size (offI ns disp)) ∧ (putI ns number size (offI ns disp)).length = 16):=by
  intro dp un gd cn cs L a ccd cl outer A₀ base h₀ m hpS gnS drS tkS osS Q E B F X N T hk hd hu ret
  have h3:=upd_in U
  have q_h1:=ne_of_cls N h1 h3 (by walk_at "cls")
  have q_h2:=ne_of_cls N h2 h3 (by walk_at "cls")
  have q_i1:=ne_of_cls N i1 h3 (by walk_at "cls")
  have q_i2:=ne_of_cls N i2 h3 (by walk_at "cls")
  have q_i3:=ne_of_cls N i3 h3 (by walk_at "cls")
  have q_r1:=ne_of_cls N r1 h3 (by walk_at "cls")
  have q_r2:=ne_of_cls N r2 h3 (by walk_at "cls")
  have q_r3:=ne_of_cls N r3 h3 (by walk_at "cls")
  have q_r4:=ne_of_cls N r4 h3 (by walk_at "cls")
  have q_b1:=ne_of_cls N b1 h3 (by walk_at "cls")
  have q_b2:=ne_of_cls N b2 h3 (by walk_at "cls")
  have q_o1:=ne_of_cls N o1 h3 (by walk_at "cls")
  have q_o2:=ne_of_cls N o2 h3 (by walk_at "cls")
  have hS : ∀ q ∈ news,q ∈ news:=hs_self
  k_with "k_mem"=>((fail_if_success have:=off38);first | exact upd_keep U (by assumption) (by assumption) | exact upd_new U)
  k_with "k_updF"=>((fail_if_success have:=off38);exact upd_again U)
  refine wpAny_call ?_
  ktr_enter
  k_steps
  all_goals (refine withKept_ok fun hK=>?_)
  all_goals (show Q _ _)
  rename IntsAre _ _=>iE
  all_goals (exact ret (_,_) _ _ ⟨iE,(by simp only [putI_length,pushRegs,popRegs,List.length_set,hlen])⟩ (by k_asm) (does_end N hK (adr_upd U) (by walk_at "nn")))
theorem t_lea (B : Below A₀ base outer h₀) (F : Fr h₀ L hpS m) (X : (heapK w.params).In h₀) (N : News h₀ L hpS news) (T : Top viewK loose mean mg mb h₀) (hk : cs.kind = .function)
  {σ : StA} {τ : StT} {rip beg : Int} {vs : List Value} {ns : List Int} {ep : Nat} {τi : StT} {ins isd tp : Addr} {τo τ' : StT} {ro rod rg rd : Addr} {rn : Value} {number size : Int} {τm τb : StT} {mo mod brg brd : Addr} {bn : Value} {disp msz : Int} {u1 u2 : Tok} {g : Obj → List (Addr × Obj)}
  (hd : dp + 14 < recursionLimit) (hu : un + 8 * 14 < cLine)
  (h1 : (σ.x,instObj 511 σ.dx) ∈ news) (h2 : (σ.dx,stDict w τ σ rip beg) ∈ news) (U : UpdF σ.regs (W.listOf vs.toArray ep) news g) (hI : IntsAre vs ns) (hlen : ns.length = 16) (i1 : (ins,instObj 742 isd) ∈ news) (i2 : (isd,insDict w τi "lea" tp "") ∈ news) (i3 : (tp,tupObj [.ref ro,.ref mo]) ∈ news) (r1 : (ro,instObj 602 rod) ∈ news) (r2 : (rod,roDict w τo rg) ∈ news) (r3 : (rg,instObj 279 rd) ∈ news) (r4 : (rd,rgDict w τ' rn number size) ∈ news) (b1 : (brg,instObj 279 brd) ∈ news) (b2 : (brd,rgDict w τb bn 7 64) ∈ news) (o1 : (mo,instObj 689 mod) ∈ news) (o2 : (mod,moDict w τm brg disp msz u1 u2) ∈ news) (hnb : 0 ≤ number) (hnb2 : number < 16) (hsz : 0 ≤ size) (hsz2 : size ≤ 128)
  (ret : ∀ (vs' : List Value) (ep' : Nat) h' tk',Fr h₀ L h' m → News h₀ L h' (g (W.listOf vs'.toArray ep')) → IntsAre vs' (putI ns number size (offI ns disp)) → (putI ns number size (offI ns disp)).length = 16 → Q (.bool true) ⟨h',gnS,drS,tk',osS⟩) :
  wpAny (model PySem.Challenge.rw_qd0115_01.row.prog w) (ktrTop dp un gd cn cs L a ccd cl outer) (call (.ref 952) [.ref σ.x,.ref ins]) Q E ⟨hpS,gnS,drS,tkS,osS⟩ :=
  does_use (transfer_move (fun i _=>adr_upd U) (d_lea h1 h2 U hI hlen i1 i2 i3 r1 r2 r3 r4 b1 b2 o1 o2 hnb hnb2 hsz hsz2)) B F X N T hk hd hu fun i h' tk' P F' N'=>ret i.1 i.2 h' tk' F' N' P.1 P.2
theorem d_movrm {σ : StA} {τ : StT} {rip beg : Int} {vs : List Value} {ns : List Int} {ep : Nat} {τi : StT} {ins isd tp : Addr} {τo τ' : StT} {ro rod rg rd : Addr} {rn : Value} {number size : Int} {τm τb : StT} {mo mod brg brd : Addr} {bn : Value} {disp msz : Int} {u1 u2 : Tok} {o : Obj} {D : List (Int × Int)} {th : Tok} {g : Obj → List (Addr × Obj)}
  (h1 : (σ.x,instObj 511 σ.dx) ∈ news) (h2 : (σ.dx,stDict w τ σ rip beg) ∈ news) (U : UpdF σ.regs (W.listOf vs.toArray ep) news g) (hI : IntsAre vs ns) (hlen : ns.length = 16) (i1 : (ins,instObj 742 isd) ∈ news) (i2 : (isd,insDict w τi "mov" tp "") ∈ news) (i3 : (tp,tupObj [.ref ro,.ref mo]) ∈ news) (r1 : (ro,instObj 602 rod) ∈ news) (r2 : (rod,roDict w τo rg) ∈ news) (r3 : (rg,instObj 279 rd) ∈ news) (r4 : (rd,rgDict w τ' rn number size) ∈ news) (b1 : (brg,instObj 279 brd) ∈ news) (b2 : (brd,rgDict w τb bn 7 64) ∈ news) (o1 : (mo,instObj 689 mod) ∈ news) (o2 : (mod,moDict w τm brg disp msz u1 u2) ∈ news) (e1 : (σ.me,instObj 394 σ.md) ∈ news) (e2 : (σ.md,dictOf [ent w "held" th (.ref σ.held)] 1) ∈ news) (e3 : (σ.held,o) ∈ news) (e4 : IsMem w o D) (e5 : (σ.held == sysModules) = false) (e6 : OkD D) (hnb : 0 ≤ number) (hnb2 : number < 16) (hsz : 0 ≤ size) (hsz2 : size ≤ 128) :
  Does w loose mean mg mb 13 13 781 [.ref σ.x,.ref ins] (.bool true) news (fun i : List Value × Nat=>g (W.listOf (i.1).toArray i.2)) (fun i=>IntsAre i.1 (putI ns number size (readI D (placeI ns disp) (Int.fdiv size 8))) ∧ (putI ns number size (readI D (placeI ns disp) (Int.fdiv size 8))).length = 16):=by
  intro dp un gd cn cs L a ccd cl outer A₀ base h₀ m hpS gnS drS tkS osS Q E B F X N T hk hd hu ret
  have h3:=upd_in U
  have q_h1:=ne_of_cls N h1 h3 (by walk_at "cls")
  have q_h2:=ne_of_cls N h2 h3 (by walk_at "cls")
  have q_i1:=ne_of_cls N i1 h3 (by walk_at "cls")
  have q_i2:=ne_of_cls N i2 h3 (by walk_at "cls")
  have q_i3:=ne_of_cls N i3 h3 (by walk_at "cls")
  have q_r1:=ne_of_cls N r1 h3 (by walk_at "cls")
  have q_r2:=ne_of_cls N r2 h3 (by walk_at "cls")
  have q_r3:=ne_of_cls N r3 h3 (by walk_at "cls")
  have q_r4:=ne_of_cls N r4 h3 (by walk_at "cls")
  have q_b1:=ne_of_cls N b1 h3 (by walk_at "cls")
  have q_b2:=ne_of_cls N b2 h3 (by walk_at "cls")
  have q_o1:=ne_of_cls N o1 h3 (by walk_at "cls")
  have q_o2:=ne_of_cls N o2 h3 (by walk_at "cls")
  have q_e1:=ne_of_cls N e1 h3 (by walk_at "cls")
  have q_e2:=ne_of_cls N e2 h3 (by walk_at "cls")
  have hq:=fdiv8 hsz hsz2
  have q_e3:=ne_of_obj N e3 h3 (isMem_list e4 (by walk_at "cls"))
  have hS : ∀ q ∈ news,q ∈ news:=hs_self
  k_with "k_mem"=>((fail_if_success have:=off38);first | exact upd_keep U (by assumption) (by assumption) | exact upd_new U)
  k_with "k_updF"=>((fail_if_success have:=off38);exact upd_again U)
  refine wpAny_call ?_
  ktr_enter
  k_steps
  all_goals (refine withKept_ok fun hK=>?_)
  all_goals (show Q _ _)
  rename IntsAre _ _=>iE
  all_goals (exact ret (_,_) _ _ ⟨iE,(by simp only [putI_length,pushRegs,popRegs,List.length_set,hlen])⟩ (by k_asm) (does_end N hK (adr_upd U) (by walk_at "nn")))
theorem t_movrm (B : Below A₀ base outer h₀) (F : Fr h₀ L hpS m) (X : (heapK w.params).In h₀) (N : News h₀ L hpS news) (T : Top viewK loose mean mg mb h₀) (hk : cs.kind = .function)
  {σ : StA} {τ : StT} {rip beg : Int} {vs : List Value} {ns : List Int} {ep : Nat} {τi : StT} {ins isd tp : Addr} {τo τ' : StT} {ro rod rg rd : Addr} {rn : Value} {number size : Int} {τm τb : StT} {mo mod brg brd : Addr} {bn : Value} {disp msz : Int} {u1 u2 : Tok} {o : Obj} {D : List (Int × Int)} {th : Tok} {g : Obj → List (Addr × Obj)}
  (hd : dp + 14 < recursionLimit) (hu : un + 8 * 14 < cLine)
  (h1 : (σ.x,instObj 511 σ.dx) ∈ news) (h2 : (σ.dx,stDict w τ σ rip beg) ∈ news) (U : UpdF σ.regs (W.listOf vs.toArray ep) news g) (hI : IntsAre vs ns) (hlen : ns.length = 16) (i1 : (ins,instObj 742 isd) ∈ news) (i2 : (isd,insDict w τi "mov" tp "") ∈ news) (i3 : (tp,tupObj [.ref ro,.ref mo]) ∈ news) (r1 : (ro,instObj 602 rod) ∈ news) (r2 : (rod,roDict w τo rg) ∈ news) (r3 : (rg,instObj 279 rd) ∈ news) (r4 : (rd,rgDict w τ' rn number size) ∈ news) (b1 : (brg,instObj 279 brd) ∈ news) (b2 : (brd,rgDict w τb bn 7 64) ∈ news) (o1 : (mo,instObj 689 mod) ∈ news) (o2 : (mod,moDict w τm brg disp msz u1 u2) ∈ news) (e1 : (σ.me,instObj 394 σ.md) ∈ news) (e2 : (σ.md,dictOf [ent w "held" th (.ref σ.held)] 1) ∈ news) (e3 : (σ.held,o) ∈ news) (e4 : IsMem w o D) (e5 : (σ.held == sysModules) = false) (e6 : OkD D) (hnb : 0 ≤ number) (hnb2 : number < 16) (hsz : 0 ≤ size) (hsz2 : size ≤ 128)
  (ret : ∀ (vs' : List Value) (ep' : Nat) h' tk',Fr h₀ L h' m → News h₀ L h' (g (W.listOf vs'.toArray ep')) → IntsAre vs' (putI ns number size (readI D (placeI ns disp) (Int.fdiv size 8))) → (putI ns number size (readI D (placeI ns disp) (Int.fdiv size 8))).length = 16 → Q (.bool true) ⟨h',gnS,drS,tk',osS⟩) :
  wpAny (model PySem.Challenge.rw_qd0115_01.row.prog w) (ktrTop dp un gd cn cs L a ccd cl outer) (call (.ref 952) [.ref σ.x,.ref ins]) Q E ⟨hpS,gnS,drS,tkS,osS⟩ :=
  does_use (transfer_move (fun i _=>adr_upd U) (d_movrm h1 h2 U hI hlen i1 i2 i3 r1 r2 r3 r4 b1 b2 o1 o2 e1 e2 e3 e4 e5 e6 hnb hnb2 hsz hsz2)) B F X N T hk hd hu fun i h' tk' P F' N'=>ret i.1 i.2 h' tk' F' N' P.1 P.2
theorem d_movmi {σ : StA} {τ : StT} {rip beg : Int} {vs : List Value} {ns : List Int} {ep : Nat} {τi : StT} {ins isd tp : Addr} {τm τb : StT} {mo mod brg brd : Addr} {bn : Value} {disp msz : Int} {u1 u2 : Tok} {o : Obj} {D : List (Int × Int)} {th : Tok} {τo : StT} {io iod : Addr} {y : Int} {g : Obj → List (Addr × Obj)}
  (h1 : (σ.x,instObj 511 σ.dx) ∈ news) (h2 : (σ.dx,stDict w τ σ rip beg) ∈ news) (h3 : (σ.regs,W.listOf vs.toArray ep) ∈ news) (hI : IntsAre vs ns) (hlen : ns.length = 16) (i1 : (ins,instObj 742 isd) ∈ news) (i2 : (isd,insDict w τi "mov" tp "") ∈ news) (i3 : (tp,tupObj [.ref mo,.ref io]) ∈ news) (b1 : (brg,instObj 279 brd) ∈ news) (b2 : (brd,rgDict w τb bn 7 64) ∈ news) (o1 : (mo,instObj 689 mod) ∈ news) (o2 : (mod,moDict w τm brg disp msz u1 u2) ∈ news) (j1 : (io,instObj 636 iod) ∈ news) (j2 : (iod,ioDict w τo y) ∈ news) (e1 : (σ.me,instObj 394 σ.md) ∈ news) (e2 : (σ.md,dictOf [ent w "held" th (.ref σ.held)] 1) ∈ news) (hm : 0 < msz) (hm2 : msz ≤ 128) (U : UpdF σ.held o news g) (e4 : IsMem w o D) (e5 : (σ.held == sysModules) = false) (e6 : OkD D) (hl : D.length ≤ 3900) :
  Does w loose mean mg mb 13 13 781 [.ref σ.x,.ref ins] (.bool true) news (fun i : Obj=>g i) (fun i=>IsMem w i (writeI D (placeI ns disp) (Int.fdiv msz 8) (wrapI y msz)) ∧ OkD (writeI D (placeI ns disp) (Int.fdiv msz 8) (wrapI y msz)) ∧ (writeI D (placeI ns disp) (Int.fdiv msz 8) (wrapI y msz)).length ≤ D.length + 16):=by
  intro dp un gd cn cs L a ccd cl outer A₀ base h₀ m hpS gnS drS tkS osS Q E B F X N T hk hd hu ret
  have e3:=upd_in U
  have w_h2:=ne_of_obj N h2 e3 (isMem_ne e4)
  have w_i2:=ne_of_obj N i2 e3 (isMem_ne e4)
  have w_b2:=ne_of_obj N b2 e3 (isMem_ne e4)
  have w_o2:=ne_of_obj N o2 e3 (isMem_ne e4)
  have w_j2:=ne_of_obj N j2 e3 (isMem_ne e4)
  have w_e2:=ne_of_obj N e2 e3 (isMem_ne e4)
  have w_h1:=ne_of_obj N h1 e3 (isMem_inst e4 (by walk_at "cls"))
  have w_h3:=ne_of_obj N h3 e3 (isMem_inst e4 (by walk_at "cls"))
  have w_i1:=ne_of_obj N i1 e3 (isMem_inst e4 (by walk_at "cls"))
  have w_i3:=ne_of_obj N i3 e3 (isMem_inst e4 (by walk_at "cls"))
  have w_b1:=ne_of_obj N b1 e3 (isMem_inst e4 (by walk_at "cls"))
  have w_o1:=ne_of_obj N o1 e3 (isMem_inst e4 (by walk_at "cls"))
  have w_j1:=ne_of_obj N j1 e3 (isMem_inst e4 (by walk_at "cls"))
  have w_e1:=ne_of_obj N e1 e3 (isMem_inst e4 (by walk_at "cls"))
  have hq:=fdiv8 (Int.le_of_lt hm) hm2
  have hS : ∀ q ∈ news,q ∈ news:=hs_self
  k_with "k_mem"=>((fail_if_success have:=off38);first | exact upd_keep U (by assumption) (by assumption) | exact upd_new U)
  k_with "k_updF"=>((fail_if_success have:=off38);exact upd_again U)
  refine wpAny_call ?_
  ktr_enter
  k_steps
  all_goals (refine withKept_ok fun hK=>?_)
  all_goals (show Q _ _)
  rename IsMem _ _ _=>mE
  all_goals (exact ret _ _ _ ⟨mE,(by assumption),(by assumption)⟩ (by k_asm) (does_end N hK (adr_upd U) (by walk_at "nn")))
theorem t_movmi (B : Below A₀ base outer h₀) (F : Fr h₀ L hpS m) (X : (heapK w.params).In h₀) (N : News h₀ L hpS news) (T : Top viewK loose mean mg mb h₀) (hk : cs.kind = .function)
  {σ : StA} {τ : StT} {rip beg : Int} {vs : List Value} {ns : List Int} {ep : Nat} {τi : StT} {ins isd tp : Addr} {τm τb : StT} {mo mod brg brd : Addr} {bn : Value} {disp msz : Int} {u1 u2 : Tok} {o : Obj} {D : List (Int × Int)} {th : Tok} {τo : StT} {io iod : Addr} {y : Int} {g : Obj → List (Addr × Obj)}
  (hd : dp + 14 < recursionLimit) (hu : un + 8 * 14 < cLine)
  (h1 : (σ.x,instObj 511 σ.dx) ∈ news) (h2 : (σ.dx,stDict w τ σ rip beg) ∈ news) (h3 : (σ.regs,W.listOf vs.toArray ep) ∈ news) (hI : IntsAre vs ns) (hlen : ns.length = 16) (i1 : (ins,instObj 742 isd) ∈ news) (i2 : (isd,insDict w τi "mov" tp "") ∈ news) (i3 : (tp,tupObj [.ref mo,.ref io]) ∈ news) (b1 : (brg,instObj 279 brd) ∈ news) (b2 : (brd,rgDict w τb bn 7 64) ∈ news) (o1 : (mo,instObj 689 mod) ∈ news) (o2 : (mod,moDict w τm brg disp msz u1 u2) ∈ news) (j1 : (io,instObj 636 iod) ∈ news) (j2 : (iod,ioDict w τo y) ∈ news) (e1 : (σ.me,instObj 394 σ.md) ∈ news) (e2 : (σ.md,dictOf [ent w "held" th (.ref σ.held)] 1) ∈ news) (hm : 0 < msz) (hm2 : msz ≤ 128) (U : UpdF σ.held o news g) (e4 : IsMem w o D) (e5 : (σ.held == sysModules) = false) (e6 : OkD D) (hl : D.length ≤ 3900)
  (ret : ∀ o' h' tk',Fr h₀ L h' m → News h₀ L h' (g o') → IsMem w o' (writeI D (placeI ns disp) (Int.fdiv msz 8) (wrapI y msz)) → OkD (writeI D (placeI ns disp) (Int.fdiv msz 8) (wrapI y msz)) → (writeI D (placeI ns disp) (Int.fdiv msz 8) (wrapI y msz)).length ≤ D.length + 16 → Q (.bool true) ⟨h',gnS,drS,tk',osS⟩) :
  wpAny (model PySem.Challenge.rw_qd0115_01.row.prog w) (ktrTop dp un gd cn cs L a ccd cl outer) (call (.ref 952) [.ref σ.x,.ref ins]) Q E ⟨hpS,gnS,drS,tkS,osS⟩ :=
  does_use (transfer_move (fun i _=>adr_upd U) (d_movmi h1 h2 h3 hI hlen i1 i2 i3 b1 b2 o1 o2 j1 j2 e1 e2 hm hm2 U e4 e5 e6 hl)) B F X N T hk hd hu fun i h' tk' P F' N'=>ret i h' tk' F' N' P.1 P.2.1 P.2.2
theorem d_xchg {σ : StA} {τ : StT} {rip beg : Int} {vs : List Value} {ns : List Int} {ep : Nat} {τi : StT} {ins isd tp : Addr} {τo τ' : StT} {ro rod rg rd : Addr} {rn : Value} {number size : Int} {τm τb : StT} {mo mod brg brd : Addr} {bn : Value} {disp msz : Int} {u1 u2 : Tok} {o : Obj} {D : List (Int × Int)} {th : Tok} {g1 : Obj → List (Addr × Obj)} {g2 : Obj → Obj → List (Addr × Obj)}
  (h1 : (σ.x,instObj 511 σ.dx) ∈ news) (h2 : (σ.dx,stDict w τ σ rip beg) ∈ news) (U1 : UpdF σ.regs (W.listOf vs.toArray ep) news g1) (hI : IntsAre vs ns) (hlen : ns.length = 16) (i1 : (ins,instObj 742 isd) ∈ news) (i2 : (isd,insDict w τi "xchg" tp "") ∈ news) (i3 : (tp,tupObj [.ref mo,.ref ro]) ∈ news) (r1 : (ro,instObj 602 rod) ∈ news) (r2 : (rod,roDict w τo rg) ∈ news) (r3 : (rg,instObj 279 rd) ∈ news) (r4 : (rd,rgDict w τ' rn number size) ∈ news) (b1 : (brg,instObj 279 brd) ∈ news) (b2 : (brd,rgDict w τb bn 7 64) ∈ news) (o1 : (mo,instObj 689 mod) ∈ news) (o2 : (mod,moDict w τm brg disp msz u1 u2) ∈ news) (e1 : (σ.me,instObj 394 σ.md) ∈ news) (e2 : (σ.md,dictOf [ent w "held" th (.ref σ.held)] 1) ∈ news) (hnb : 0 ≤ number) (hnb2 : number < 16) (hsz : 0 ≤ size) (hsz2 : size ≤ 128) (hm : 0 < msz) (hm2 : msz ≤ 128) (hrh : σ.regs ≠ σ.held) (U2 : ∀ o1,UpdF σ.held o (g1 o1) (g2 o1)) (e4 : IsMem w o D) (e5 : (σ.held == sysModules) = false) (e6 : OkD D) (hl : D.length ≤ 3900) :
  Does w loose mean mg mb 13 13 781 [.ref σ.x,.ref ins] (.bool true) news (fun i : List Value × Nat × Obj=>g2 (W.listOf (i.1).toArray i.2.1) i.2.2) (fun i=>IntsAre i.1 (putI ns number size (readI D (placeI ns disp) (Int.fdiv msz 8))) ∧ (putI ns number size (readI D (placeI ns disp) (Int.fdiv msz 8))).length = 16 ∧ IsMem w i.2.2 (writeI D (placeI ns disp) (Int.fdiv msz 8) (wrapI (getI ns number size) msz)) ∧ OkD (writeI D (placeI ns disp) (Int.fdiv msz 8) (wrapI (getI ns number size) msz)) ∧ (writeI D (placeI ns disp) (Int.fdiv msz 8) (wrapI (getI ns number size) msz)).length ≤ D.length + 16):=by
  intro dp un gd cn cs L a ccd cl outer A₀ base h₀ m hpS gnS drS tkS osS Q E B F X N T hk hd hu ret
  have h3:=upd_in U1
  have e3 : (σ.held,o) ∈ news:=by
    rcases upd_mem U1 (upd_in (U2 (W.listOf vs.toArray ep))) with e | ⟨e,_⟩
    · exact absurd (congrArg Prod.fst e).symm hrh
    · exact e
  have q_e3:=Ne.symm hrh
  have q_h1:=ne_of_cls N h1 h3 (by walk_at "cls")
  have q_h2:=ne_of_cls N h2 h3 (by walk_at "cls")
  have q_i1:=ne_of_cls N i1 h3 (by walk_at "cls")
  have q_i2:=ne_of_cls N i2 h3 (by walk_at "cls")
  have q_i3:=ne_of_cls N i3 h3 (by walk_at "cls")
  have q_r1:=ne_of_cls N r1 h3 (by walk_at "cls")
  have q_r2:=ne_of_cls N r2 h3 (by walk_at "cls")
  have q_r3:=ne_of_cls N r3 h3 (by walk_at "cls")
  have q_r4:=ne_of_cls N r4 h3 (by walk_at "cls")
  have q_b1:=ne_of_cls N b1 h3 (by walk_at "cls")
  have q_b2:=ne_of_cls N b2 h3 (by walk_at "cls")
  have q_o1:=ne_of_cls N o1 h3 (by walk_at "cls")
  have q_o2:=ne_of_cls N o2 h3 (by walk_at "cls")
  have q_e1:=ne_of_cls N e1 h3 (by walk_at "cls")
  have q_e2:=ne_of_cls N e2 h3 (by walk_at "cls")
  have w_h2:=ne_of_obj N h2 e3 (isMem_ne e4)
  have w_i2:=ne_of_obj N i2 e3 (isMem_ne e4)
  have w_r2:=ne_of_obj N r2 e3 (isMem_ne e4)
  have w_r4:=ne_of_obj N r4 e3 (isMem_ne e4)
  have w_b2:=ne_of_obj N b2 e3 (isMem_ne e4)
  have w_o2:=ne_of_obj N o2 e3 (isMem_ne e4)
  have w_e2:=ne_of_obj N e2 e3 (isMem_ne e4)
  have w_h1:=ne_of_obj N h1 e3 (isMem_inst e4 (by walk_at "cls"))
  have w_i1:=ne_of_obj N i1 e3 (isMem_inst e4 (by walk_at "cls"))
  have w_i3:=ne_of_obj N i3 e3 (isMem_inst e4 (by walk_at "cls"))
  have w_r1:=ne_of_obj N r1 e3 (isMem_inst e4 (by walk_at "cls"))
  have w_r3:=ne_of_obj N r3 e3 (isMem_inst e4 (by walk_at "cls"))
  have w_b1:=ne_of_obj N b1 e3 (isMem_inst e4 (by walk_at "cls"))
  have w_o1:=ne_of_obj N o1 e3 (isMem_inst e4 (by walk_at "cls"))
  have w_e1:=ne_of_obj N e1 e3 (isMem_inst e4 (by walk_at "cls"))
  have hq:=fdiv8 (Int.le_of_lt hm) hm2
  have hS : ∀ q ∈ news,q ∈ news:=hs_self
  k_with "k_mem"=>((fail_if_success have:=off38);first | exact upd_keep (upd_swap U1 U2) (by assumption) (by assumption) | exact upd_new (upd_swap U1 U2) | exact upd_new (U2 _))
  k_with "k_updF"=>((fail_if_success have:=off38);first | exact upd_swap U1 U2 | exact upd_swap2 U1 U2 hrh)
  refine wpAny_call ?_
  ktr_enter
  k_steps
  all_goals (refine withKept_ok fun hK=>?_)
  all_goals (show Q _ _)
  rename IntsAre _ _=>iE
  rename IsMem _ _ _=>mE
  all_goals (exact ret (_,_,_) _ _ ⟨iE,(by simp only [putI_length,pushRegs,popRegs,List.length_set,hlen]),mE,(by assumption),(by assumption)⟩ (by k_asm) (does_end N hK (adr_upd2 U1 U2) (by walk_at "nn")))
theorem t_xchg (B : Below A₀ base outer h₀) (F : Fr h₀ L hpS m) (X : (heapK w.params).In h₀) (N : News h₀ L hpS news) (T : Top viewK loose mean mg mb h₀) (hk : cs.kind = .function)
  {σ : StA} {τ : StT} {rip beg : Int} {vs : List Value} {ns : List Int} {ep : Nat} {τi : StT} {ins isd tp : Addr} {τo τ' : StT} {ro rod rg rd : Addr} {rn : Value} {number size : Int} {τm τb : StT} {mo mod brg brd : Addr} {bn : Value} {disp msz : Int} {u1 u2 : Tok} {o : Obj} {D : List (Int × Int)} {th : Tok} {g1 : Obj → List (Addr × Obj)} {g2 : Obj → Obj → List (Addr × Obj)}
  (hd : dp + 14 < recursionLimit) (hu : un + 8 * 14 < cLine)
  (h1 : (σ.x,instObj 511 σ.dx) ∈ news) (h2 : (σ.dx,stDict w τ σ rip beg) ∈ news) (U1 : UpdF σ.regs (W.listOf vs.toArray ep) news g1) (hI : IntsAre vs ns) (hlen : ns.length = 16) (i1 : (ins,instObj 742 isd) ∈ news) (i2 : (isd,insDict w τi "xchg" tp "") ∈ news) (i3 : (tp,tupObj [.ref mo,.ref ro]) ∈ news) (r1 : (ro,instObj 602 rod) ∈ news) (r2 : (rod,roDict w τo rg) ∈ news) (r3 : (rg,instObj 279 rd) ∈ news) (r4 : (rd,rgDict w τ' rn number size) ∈ news) (b1 : (brg,instObj 279 brd) ∈ news) (b2 : (brd,rgDict w τb bn 7 64) ∈ news) (o1 : (mo,instObj 689 mod) ∈ news) (o2 : (mod,moDict w τm brg disp msz u1 u2) ∈ news) (e1 : (σ.me,instObj 394 σ.md) ∈ news) (e2 : (σ.md,dictOf [ent w "held" th (.ref σ.held)] 1) ∈ news) (hnb : 0 ≤ number) (hnb2 : number < 16) (hsz : 0 ≤ size) (hsz2 : size ≤ 128) (hm : 0 < msz) (hm2 : msz ≤ 128) (hrh : σ.regs ≠ σ.held) (U2 : ∀ o1,UpdF σ.held o (g1 o1) (g2 o1)) (e4 : IsMem w o D) (e5 : (σ.held == sysModules) = false) (e6 : OkD D) (hl : D.length ≤ 3900)
  (ret : ∀ (vs' : List Value) (ep' : Nat) (o' : Obj) h' tk',Fr h₀ L h' m → News h₀ L h' (g2 (W.listOf vs'.toArray ep') o') → IntsAre vs' (putI ns number size (readI D (placeI ns disp) (Int.fdiv msz 8))) → (putI ns number size (readI D (placeI ns disp) (Int.fdiv msz 8))).length = 16 → IsMem w o' (writeI D (placeI ns disp) (Int.fdiv msz 8) (wrapI (getI ns number size) msz)) → OkD (writeI D (placeI ns disp) (Int.fdiv msz 8) (wrapI (getI ns number size) msz)) → (writeI D (placeI ns disp) (Int.fdiv msz 8) (wrapI (getI ns number size) msz)).length ≤ D.length + 16 → Q (.bool true) ⟨h',gnS,drS,tk',osS⟩) :
  wpAny (model PySem.Challenge.rw_qd0115_01.row.prog w) (ktrTop dp un gd cn cs L a ccd cl outer) (call (.ref 952) [.ref σ.x,.ref ins]) Q E ⟨hpS,gnS,drS,tkS,osS⟩ :=
  does_use (transfer_move (fun i _=>adr_upd2 U1 U2) (d_xchg h1 h2 U1 hI hlen i1 i2 i3 r1 r2 r3 r4 b1 b2 o1 o2 e1 e2 hnb hnb2 hsz hsz2 hm hm2 hrh U2 e4 e5 e6 hl)) B F X N T hk hd hu fun i h' tk' P F' N'=>ret i.1 i.2.1 i.2.2 h' tk' F' N' P.1 P.2.1 P.2.2.1 P.2.2.2.1 P.2.2.2.2
theorem d_push {σ : StA} {τ : StT} {rip beg : Int} {vs : List Value} {ns : List Int} {ep : Nat} {τi : StT} {ins isd tp : Addr} {τo τ' : StT} {ro rod rg rd : Addr} {rn : Value} {number size : Int} {o : Obj} {D : List (Int × Int)} {th : Tok} {g1 : Obj → List (Addr × Obj)} {g2 : Obj → Obj → List (Addr × Obj)}
  (h1 : (σ.x,instObj 511 σ.dx) ∈ news) (h2 : (σ.dx,stDict w τ σ rip beg) ∈ news) (U1 : UpdF σ.regs (W.listOf vs.toArray ep) news g1) (hI : IntsAre vs ns) (hlen : ns.length = 16) (i1 : (ins,instObj 742 isd) ∈ news) (i2 : (isd,insDict w τi "push" tp "") ∈ news) (i3 : (tp,tupObj [.ref ro]) ∈ news) (r1 : (ro,instObj 602 rod) ∈ news) (r2 : (rod,roDict w τo rg) ∈ news) (r3 : (rg,instObj 279 rd) ∈ news) (r4 : (rd,rgDict w τ' rn number size) ∈ news) (e1 : (σ.me,instObj 394 σ.md) ∈ news) (e2 : (σ.md,dictOf [ent w "held" th (.ref σ.held)] 1) ∈ news) (hnb : 0 ≤ number) (hnb2 : number < 16) (hsz : 0 ≤ size) (hsz2 : size ≤ 128) (hrh : σ.regs ≠ σ.held) (U2 : ∀ o1,UpdF σ.held o (g1 o1) (g2 o1)) (e4 : IsMem w o D) (e5 : (σ.held == sysModules) = false) (e6 : OkD D) (hl : D.length ≤ 3900) :
  Does w loose mean mg mb 13 13 802 [.ref σ.x,.ref ins] (.bool true) news (fun i : List Value × Nat × Obj=>g2 (W.listOf (i.1).toArray i.2.1) i.2.2) (fun i=>IntsAre i.1 (pushRegs ns (Int.fdiv size 8)) ∧ (pushRegs ns (Int.fdiv size 8)).length = 16 ∧ IsMem w i.2.2 (writeI D ((pushRegs ns (Int.fdiv size 8)).getD 4 0) (Int.fdiv size 8) (wrapI (getI ns number size) size)) ∧ OkD (writeI D ((pushRegs ns (Int.fdiv size 8)).getD 4 0) (Int.fdiv size 8) (wrapI (getI ns number size) size)) ∧ (writeI D ((pushRegs ns (Int.fdiv size 8)).getD 4 0) (Int.fdiv size 8) (wrapI (getI ns number size) size)).length ≤ D.length + 16):=by
  intro dp un gd cn cs L a ccd cl outer A₀ base h₀ m hpS gnS drS tkS osS Q E B F X N T hk hd hu ret
  have h3:=upd_in U1
  have e3 : (σ.held,o) ∈ news:=by
    rcases upd_mem U1 (upd_in (U2 (W.listOf vs.toArray ep))) with e | ⟨e,_⟩
    · exact absurd (congrArg Prod.fst e).symm hrh
    · exact e
  have q_e3:=Ne.symm hrh
  have q_h1:=ne_of_cls N h1 h3 (by walk_at "cls")
  have q_h2:=ne_of_cls N h2 h3 (by walk_at "cls")
  have q_i1:=ne_of_cls N i1 h3 (by walk_at "cls")
  have q_i2:=ne_of_cls N i2 h3 (by walk_at "cls")
  have q_i3:=ne_of_cls N i3 h3 (by walk_at "cls")
  have q_r1:=ne_of_cls N r1 h3 (by walk_at "cls")
  have q_r2:=ne_of_cls N r2 h3 (by walk_at "cls")
  have q_r3:=ne_of_cls N r3 h3 (by walk_at "cls")
  have q_r4:=ne_of_cls N r4 h3 (by walk_at "cls")
  have q_e1:=ne_of_cls N e1 h3 (by walk_at "cls")
  have q_e2:=ne_of_cls N e2 h3 (by walk_at "cls")
  have w_h2:=ne_of_obj N h2 e3 (isMem_ne e4)
  have w_i2:=ne_of_obj N i2 e3 (isMem_ne e4)
  have w_r2:=ne_of_obj N r2 e3 (isMem_ne e4)
  have w_r4:=ne_of_obj N r4 e3 (isMem_ne e4)
  have w_e2:=ne_of_obj N e2 e3 (isMem_ne e4)
  have w_h1:=ne_of_obj N h1 e3 (isMem_inst e4 (by walk_at "cls"))
  have w_i1:=ne_of_obj N i1 e3 (isMem_inst e4 (by walk_at "cls"))
  have w_i3:=ne_of_obj N i3 e3 (isMem_inst e4 (by walk_at "cls"))
  have w_r1:=ne_of_obj N r1 e3 (isMem_inst e4 (by walk_at "cls"))
  have w_r3:=ne_of_obj N r3 e3 (isMem_inst e4 (by walk_at "cls"))
  have w_e1:=ne_of_obj N e1 e3 (isMem_inst e4 (by walk_at "cls"))
  have hq:=fdiv8 hsz hsz2
  have hS : ∀ q ∈ news,q ∈ news:=hs_self
  k_with "k_mem"=>((fail_if_success have:=off38);first | exact upd_keep U1 (by assumption) (by assumption) | exact upd_new U1 | exact upd_keep (U2 _) (upd_keep U1 (by assumption) (by assumption)) (by assumption))
  k_with "k_updF"=>((fail_if_success have:=off38);first | exact U2 _ | exact upd_again U1)
  refine wpAny_call ?_
  ktr_enter
  k_steps
  all_goals (refine withKept_ok fun hK=>?_)
  all_goals (show Q _ _)
  rename IntsAre _ _=>iE
  rename IsMem _ _ _=>mE
  all_goals (exact ret (_,_,_) _ _ ⟨iE,(by simp only [putI_length,pushRegs,popRegs,List.length_set,hlen]),mE,(by assumption),(by assumption)⟩ (by k_asm) (does_end N hK (adr_upd2 U1 U2) (by walk_at "nn")))
theorem t_push (B : Below A₀ base outer h₀) (F : Fr h₀ L hpS m) (X : (heapK w.params).In h₀) (N : News h₀ L hpS news) (T : Top viewK loose mean mg mb h₀) (hk : cs.kind = .function)
  {σ : StA} {τ : StT} {rip beg : Int} {vs : List Value} {ns : List Int} {ep : Nat} {τi : StT} {ins isd tp : Addr} {τo τ' : StT} {ro rod rg rd : Addr} {rn : Value} {number size : Int} {o : Obj} {D : List (Int × Int)} {th : Tok} {g1 : Obj → List (Addr × Obj)} {g2 : Obj → Obj → List (Addr × Obj)}
  (hd : dp + 14 < recursionLimit) (hu : un + 8 * 14 < cLine)
  (h1 : (σ.x,instObj 511 σ.dx) ∈ news) (h2 : (σ.dx,stDict w τ σ rip beg) ∈ news) (U1 : UpdF σ.regs (W.listOf vs.toArray ep) news g1) (hI : IntsAre vs ns) (hlen : ns.length = 16) (i1 : (ins,instObj 742 isd) ∈ news) (i2 : (isd,insDict w τi "push" tp "") ∈ news) (i3 : (tp,tupObj [.ref ro]) ∈ news) (r1 : (ro,instObj 602 rod) ∈ news) (r2 : (rod,roDict w τo rg) ∈ news) (r3 : (rg,instObj 279 rd) ∈ news) (r4 : (rd,rgDict w τ' rn number size) ∈ news) (e1 : (σ.me,instObj 394 σ.md) ∈ news) (e2 : (σ.md,dictOf [ent w "held" th (.ref σ.held)] 1) ∈ news) (hnb : 0 ≤ number) (hnb2 : number < 16) (hsz : 0 ≤ size) (hsz2 : size ≤ 128) (hrh : σ.regs ≠ σ.held) (U2 : ∀ o1,UpdF σ.held o (g1 o1) (g2 o1)) (e4 : IsMem w o D) (e5 : (σ.held == sysModules) = false) (e6 : OkD D) (hl : D.length ≤ 3900)
  (ret : ∀ (vs' : List Value) (ep' : Nat) (o' : Obj) h' tk',Fr h₀ L h' m → News h₀ L h' (g2 (W.listOf vs'.toArray ep') o') → IntsAre vs' (pushRegs ns (Int.fdiv size 8)) → (pushRegs ns (Int.fdiv size 8)).length = 16 → IsMem w o' (writeI D ((pushRegs ns (Int.fdiv size 8)).getD 4 0) (Int.fdiv size 8) (wrapI (getI ns number size) size)) → OkD (writeI D ((pushRegs ns (Int.fdiv size 8)).getD 4 0) (Int.fdiv size 8) (wrapI (getI ns number size) size)) → (writeI D ((pushRegs ns (Int.fdiv size 8)).getD 4 0) (Int.fdiv size 8) (wrapI (getI ns number size) size)).length ≤ D.length + 16 → Q (.bool true) ⟨h',gnS,drS,tk',osS⟩) :
  wpAny (model PySem.Challenge.rw_qd0115_01.row.prog w) (ktrTop dp un gd cn cs L a ccd cl outer) (call (.ref 952) [.ref σ.x,.ref ins]) Q E ⟨hpS,gnS,drS,tkS,osS⟩ :=
  does_use (transfer_stack (fun i _=>adr_upd2 U1 U2) (move_nod (by decide +kernel) (by decide +kernel) (by decide +kernel) (by decide +kernel) i1 i2) (d_push h1 h2 U1 hI hlen i1 i2 i3 r1 r2 r3 r4 e1 e2 hnb hnb2 hsz hsz2 hrh U2 e4 e5 e6 hl)) B F X N T hk hd hu fun i h' tk' P F' N'=>ret i.1 i.2.1 i.2.2 h' tk' F' N' P.1 P.2.1 P.2.2.1 P.2.2.2.1 P.2.2.2.2
theorem d_pop {σ : StA} {τ : StT} {rip beg : Int} {vs : List Value} {ns : List Int} {ep : Nat} {τi : StT} {ins isd tp : Addr} {τo τ' : StT} {ro rod rg rd : Addr} {rn : Value} {number size : Int} {o : Obj} {D : List (Int × Int)} {th : Tok} {g : Obj → List (Addr × Obj)}
  (h1 : (σ.x,instObj 511 σ.dx) ∈ news) (h2 : (σ.dx,stDict w τ σ rip beg) ∈ news) (U : UpdF σ.regs (W.listOf vs.toArray ep) news g) (hI : IntsAre vs ns) (hlen : ns.length = 16) (i1 : (ins,instObj 742 isd) ∈ news) (i2 : (isd,insDict w τi "pop" tp "") ∈ news) (i3 : (tp,tupObj [.ref ro]) ∈ news) (r1 : (ro,instObj 602 rod) ∈ news) (r2 : (rod,roDict w τo rg) ∈ news) (r3 : (rg,instObj 279 rd) ∈ news) (r4 : (rd,rgDict w τ' rn number size) ∈ news) (e1 : (σ.me,instObj 394 σ.md) ∈ news) (e2 : (σ.md,dictOf [ent w "held" th (.ref σ.held)] 1) ∈ news) (e3 : (σ.held,o) ∈ news) (e4 : IsMem w o D) (e5 : (σ.held == sysModules) = false) (e6 : OkD D) (hnb : 0 ≤ number) (hnb2 : number < 16) (hsz : 0 ≤ size) (hsz2 : size ≤ 128) :
  Does w loose mean mg mb 13 13 802 [.ref σ.x,.ref ins] (.bool true) news (fun i : List Value × Nat=>g (W.listOf (i.1).toArray i.2)) (fun i=>IntsAre i.1 (putI (popRegs ns (Int.fdiv size 8)) number size (readI D (ns.getD 4 0) (Int.fdiv size 8))) ∧ (putI (popRegs ns (Int.fdiv size 8)) number size (readI D (ns.getD 4 0) (Int.fdiv size 8))).length = 16):=by
  intro dp un gd cn cs L a ccd cl outer A₀ base h₀ m hpS gnS drS tkS osS Q E B F X N T hk hd hu ret
  have h3:=upd_in U
  have q_h1:=ne_of_cls N h1 h3 (by walk_at "cls")
  have q_h2:=ne_of_cls N h2 h3 (by walk_at "cls")
  have q_i1:=ne_of_cls N i1 h3 (by walk_at "cls")
  have q_i2:=ne_of_cls N i2 h3 (by walk_at "cls")
  have q_i3:=ne_of_cls N i3 h3 (by walk_at "cls")
  have q_r1:=ne_of_cls N r1 h3 (by walk_at "cls")
  have q_r2:=ne_of_cls N r2 h3 (by walk_at "cls")
  have q_r3:=ne_of_cls N r3 h3 (by walk_at "cls")
  have q_r4:=ne_of_cls N r4 h3 (by walk_at "cls")
  have q_e1:=ne_of_cls N e1 h3 (by walk_at "cls")
  have q_e2:=ne_of_cls N e2 h3 (by walk_at "cls")
  have hq:=fdiv8 hsz hsz2
  have q_e3:=ne_of_obj N e3 h3 (isMem_list e4 (by walk_at "cls"))
  have hS : ∀ q ∈ news,q ∈ news:=hs_self
  k_with "k_mem"=>((fail_if_success have:=off38);first | exact upd_keep U (by assumption) (by assumption) | exact upd_new U)
  k_with "k_updF"=>((fail_if_success have:=off38);exact upd_again U)
  refine wpAny_call ?_
  ktr_enter
  k_steps
  all_goals (refine withKept_ok fun hK=>?_)
  all_goals (show Q _ _)
  rename IntsAre _ _=>iE
  all_goals (exact ret (_,_) _ _ ⟨iE,(by simp only [putI_length,pushRegs,popRegs,List.length_set,hlen])⟩ (by k_asm) (does_end N hK (adr_upd U) (by walk_at "nn")))
theorem t_pop (B : Below A₀ base outer h₀) (F : Fr h₀ L hpS m) (X : (heapK w.params).In h₀) (N : News h₀ L hpS news) (T : Top viewK loose mean mg mb h₀) (hk : cs.kind = .function)
  {σ : StA} {τ : StT} {rip beg : Int} {vs : List Value} {ns : List Int} {ep : Nat} {τi : StT} {ins isd tp : Addr} {τo τ' : StT} {ro rod rg rd : Addr} {rn : Value} {number size : Int} {o : Obj} {D : List (Int × Int)} {th : Tok} {g : Obj → List (Addr × Obj)}
  (hd : dp + 14 < recursionLimit) (hu : un + 8 * 14 < cLine)
  (h1 : (σ.x,instObj 511 σ.dx) ∈ news) (h2 : (σ.dx,stDict w τ σ rip beg) ∈ news) (U : UpdF σ.regs (W.listOf vs.toArray ep) news g) (hI : IntsAre vs ns) (hlen : ns.length = 16) (i1 : (ins,instObj 742 isd) ∈ news) (i2 : (isd,insDict w τi "pop" tp "") ∈ news) (i3 : (tp,tupObj [.ref ro]) ∈ news) (r1 : (ro,instObj 602 rod) ∈ news) (r2 : (rod,roDict w τo rg) ∈ news) (r3 : (rg,instObj 279 rd) ∈ news) (r4 : (rd,rgDict w τ' rn number size) ∈ news) (e1 : (σ.me,instObj 394 σ.md) ∈ news) (e2 : (σ.md,dictOf [ent w "held" th (.ref σ.held)] 1) ∈ news) (e3 : (σ.held,o) ∈ news) (e4 : IsMem w o D) (e5 : (σ.held == sysModules) = false) (e6 : OkD D) (hnb : 0 ≤ number) (hnb2 : number < 16) (hsz : 0 ≤ size) (hsz2 : size ≤ 128)
  (ret : ∀ (vs' : List Value) (ep' : Nat) h' tk',Fr h₀ L h' m → News h₀ L h' (g (W.listOf vs'.toArray ep')) → IntsAre vs' (putI (popRegs ns (Int.fdiv size 8)) number size (readI D (ns.getD 4 0) (Int.fdiv size 8))) → (putI (popRegs ns (Int.fdiv size 8)) number size (readI D (ns.getD 4 0) (Int.fdiv size 8))).length = 16 → Q (.bool true) ⟨h',gnS,drS,tk',osS⟩) :
  wpAny (model PySem.Challenge.rw_qd0115_01.row.prog w) (ktrTop dp un gd cn cs L a ccd cl outer) (call (.ref 952) [.ref σ.x,.ref ins]) Q E ⟨hpS,gnS,drS,tkS,osS⟩ :=
  does_use (transfer_stack (fun i _=>adr_upd U) (move_nod (by decide +kernel) (by decide +kernel) (by decide +kernel) (by decide +kernel) i1 i2) (d_pop h1 h2 U hI hlen i1 i2 i3 r1 r2 r3 r4 e1 e2 e3 e4 e5 e6 hnb hnb2 hsz hsz2)) B F X N T hk hd hu fun i h' tk' P F' N'=>ret i.1 i.2 h' tk' F' N' P.1 P.2
theorem off38 : True:=trivial
example : True:=by (k_with "getMethod type:Exception"=>(k_here;k_dflt (refine' method_type ?F ?X ?ht ?hs ?e ?hh ?_;(case F=>k_asm);(case X=>k_asm);(case ht=>first | rfl | kernel_rfl);(case hs=>decide +kernel);(case e=>k_is);(case hh=>rfl);k_whole)));trivial
theorem init_c (B : Below A₀ base outer h₀) (F : Fr h₀ L hpS m) (X : (heapK w.params).In h₀) (N : News h₀ L hpS news) (T : Top viewK loose mean mg mb h₀) (hk : cs.kind = .function)
  {e t0 : Addr} {x : Str} {t1 : Tok} {g : Obj → List (Addr × Obj)}
  (hd : dp + 6 < recursionLimit) (hu : un + 8 * 30 < cLine)
  (U : UpdF e (excO t0 none) news g)
  (ret : ∀ t2 d2 h' tk',Fr h₀ L h' m → News h₀ L h' (g (excO t2 (some d2))) → Q (.none) ⟨h',gnS,drS,tk',osS⟩) :
  wpAny (model PySem.Challenge.rw_qd0115_01.row.prog w) (ktrTop dp un gd cn cs L a ccd cl outer) (call (.ref 36) [.ref e,.str x t1]) Q E ⟨hpS,gnS,drS,tkS,osS⟩:=by
  have hm:=upd_in U
  have hS : ∀ q ∈ [(e,excO t0 none)],q ∈ news:=by
    walk_at "hs in"
  refine wpAny_call ?_
  ktr_enter
  k_with "call builtin:Exception.__init__"=>((fail_if_success have:=off40);k_here;(with_reducible show wpAny _ _ (call (Value.builtin "Exception.__init__") _) _ _ _);k_dflt (refine' base_init71 ?F ?N ?X ?U ?_;(case F=>k_asm);(case N=>k_asm);(case X=>k_asm);(case U=>k_updF);k_whole);intro t2 h' F' N';(try dsimp only at N'))
  k_with "setAttr ref"=>((fail_if_success have:=off40);k_here;first | (with_reducible show wpAny _ _ (setAttr _ ("what" : Str) _) _ _ _;k_dflt (refine' set_new71 ?F ?N ?X ?U tk71w ?_;(case F=>k_asm);(case N=>k_asm);(case X=>k_asm);(case U=>k_updF);k_whole);intro d' k' h' F' N' l';(try dsimp only at N' l');(try k_lt l')) | (with_reducible show wpAny _ _ (setAttr _ ("at" : Str) _) _ _ _;k_dflt (refine' set_old71 ?F ?N ?X ?he ?U ?_;(case F=>k_asm);(case N=>k_asm);(case X=>k_asm);(case he=>k_mem);(case U=>k_updF);k_whole);intro k' h' F' N';(try dsimp only at N')) | fail "setAttr: no row")
  k_steps
  all_goals (refine withKept_ok fun hK=>?_)
  all_goals (show Q _ _)
  all_goals (exact ret _ _ _ _ (by k_asm) (news_upd1 U N hK hS (by k_asm) (by k_mem) (by walk_at "hs all")))

theorem mk71 (B : Below A₀ base outer h₀) (F : Fr h₀ L hpS m) (X : (heapK w.params).In h₀) (N : News h₀ L hpS news) (T : Top viewK loose mean mg mb h₀) (hk : cs.kind = .function)
  {x : Str} {t1 : Tok}
  (hd : dp + 7 < recursionLimit) (hu : un + 8 * 31 < cLine)
  (ret : ∀ e t2 d2 h' tk',Fr h₀ L h' m → News h₀ L h' ((e,excO t2 (some d2)) :: news) → Off news e → Q (.ref e) ⟨h',gnS,drS,tk',osS⟩) :
  wpAny (model PySem.Challenge.rw_qd0115_01.row.prog w) (ktrTop dp un gd cn cs L a ccd cl outer) (call (.ref 71) [.str x t1]) Q E ⟨hpS,gnS,drS,tkS,osS⟩:=by
  have X':=X.keeps F.keep
  refine exc_call PySem.F.excBase_Exception line71 (rest:=[.str x t1]) (fI:=36) (cls71 X') (looks_findIn X' find71i) (X' 36 _ rfl) rfl (fun h' e M=>?_) (by rw [sizeLine_eq];exact Nat.le_of_ble_eq_true rfl)
  show wpAny _ (ktrTop (dp + 1) (un + 1) ((ktrTop dp un gd cn cs L a ccd cl outer).under (.builtin "type.__call__" ⟨.ref 71 :: [.str x t1],[]⟩)).guards cn cs L a ccd cl outer) _ _ _ _
  obtain ⟨t0,he,ht0,-⟩:=M.there
  have F1 : Fr h₀ L h' m:=by
    obtain ⟨oL,es,ep,hL,r⟩:=F.ns
    exact ⟨⟨oL,es,ep,M.keeps _ _ hL,r⟩,fun b o q=>M.keeps _ _ (F.keep b o q),F.above⟩
  have hoff : Off news e:=fun p hp q=>by
    have:=(N p hp).1
    rw [q,M.new] at this
    cases this
  have N1 : News h₀ L h' ((e,excO t0 none) :: news):=by
    intro p hp
    rcases List.mem_cons.mp hp with rfl | hp
    · refine ⟨he,fun q=>?_,?_⟩
      · obtain ⟨oL,es,ep,hL,r⟩:=F.ns
        have z : e = L:=q
        rw [← z,M.new] at hL
        cases hL
      · cases q : h₀.get? e with
        | none=>rfl
        | some o=>have:=F.keep _ _ q;rw [M.new] at this;cases this
    · exact ⟨M.keeps _ _ (N p hp).1,(N p hp).2⟩
  exact init_c B F1 X N1 T hk (by omega) (by omega) (.head hoff) fun t2 d2 h2 tk2 F2 N2=>⟨rfl,ret e t2 d2 _ _ F2 N2 hoff⟩
theorem off40 : True:=trivial
theorem string_no {τi : StT} {ins isd tp sx : Addr} (i1 : (ins,instObj 742 isd) ∈ news) (i2 : (isd,insDict w τi "add" tp "") ∈ news) :
    Does w loose mean mg mb 6 9 858 [.ref sx,.ref ins] (.bool false) news (fun _ : Unit=>news) (fun _=>True):=by
  intro dp un gd cn cs L a ccd cl outer A₀ base h₀ m hpS gnS drS tkS osS Q E B F X N T hk hd hu ret
  have hS : ∀ q ∈ news,q ∈ news:=hs_self
  refine wpAny_call ?_
  ktr_enter
  k_steps
  all_goals (refine withKept_ok fun hK=>?_)
  all_goals (show Q _ _)
  all_goals (exact ret () _ _ trivial (by k_asm) (does_end N hK adr_refl fun q hq=>(by k_asm : News _ _ _ (_ :: _ :: _)) q (.tail _ (.tail _ hq))))
theorem vector_no {τi : StT} {ins isd tp sx : Addr} {τo τ' : StT} {ro rod rg rd : Addr} {rn : Value} {number size : Int} {τq : StT} {io iod : Addr} {y : Int} (i1 : (ins,instObj 742 isd) ∈ news) (i2 : (isd,insDict w τi "add" tp "") ∈ news) (i3 : (tp,tupObj [.ref ro,.ref io]) ∈ news) (r1 : (ro,instObj 602 rod) ∈ news) (r2 : (rod,roDict w τo rg) ∈ news) (r3 : (rg,instObj 279 rd) ∈ news) (r4 : (rd,rgDict w τ' rn number size) ∈ news) (j1 : (io,instObj 636 iod) ∈ news) (j2 : (iod,ioDict w τq y) ∈ news) :
    Does w loose mean mg mb 6 9 945 [.ref sx,.ref ins] (.bool false) news (fun _ : Unit=>news) (fun _=>True):=by
  intro dp un gd cn cs L a ccd cl outer A₀ base h₀ m hpS gnS drS tkS osS Q E B F X N T hk hd hu ret
  have hS : ∀ q ∈ news,q ∈ news:=hs_self
  refine wpAny_call ?_
  ktr_enter
  k_steps
  all_goals (refine withKept_ok fun hK=>?_)
  all_goals (show Q _ _)
  all_goals (exact ret () _ _ trivial (by k_asm) (does_end N hK adr_refl (by k_asm)))
theorem t_add (B : Below A₀ base outer h₀) (F : Fr h₀ L hpS m) (X : (heapK w.params).In h₀) (N : News h₀ L hpS news) (T : Top viewK loose mean mg mb h₀) (hk : cs.kind = .function)
  {τi : StT} {ins isd tp : Addr} {τo τ' : StT} {ro rod rg rd : Addr} {rn : Value} {number size : Int} {τq : StT} {io iod : Addr} {y : Int} {sx : Addr}
  (hd : dp + 14 < recursionLimit) (hu : un + 8 * 30 < cLine)
  (i1 : (ins,instObj 742 isd) ∈ news) (i2 : (isd,insDict w τi "add" tp "") ∈ news) (i3 : (tp,tupObj [.ref ro,.ref io]) ∈ news) (r1 : (ro,instObj 602 rod) ∈ news) (r2 : (rod,roDict w τo rg) ∈ news) (r3 : (rg,instObj 279 rd) ∈ news) (r4 : (rd,rgDict w τ' rn number size) ∈ news) (j1 : (io,instObj 636 iod) ∈ news) (j2 : (iod,ioDict w τq y) ∈ news)
  (ret : ∀  h' tk',Fr h₀ L h' m → News h₀ L h' (news) → Q (.bool false) ⟨h',gnS,drS,tk',osS⟩) :
  wpAny (model PySem.Challenge.rw_qd0115_01.row.prog w) (ktrTop dp un gd cn cs L a ccd cl outer) (call (.ref 952) [.ref sx,.ref ins]) Q E ⟨hpS,gnS,drS,tkS,osS⟩ :=
  does_use (transfer_none (l0:="a") (chkN_ok (by decide +kernel)) i1 i2 (string_no i1 i2) (vector_no i1 i2 i3 r1 r2 r3 r4 j1 j2)) B F X N T hk (by omega) (by omega) fun _ h' tk' _ F' N'=>ret h' tk' F' N'
theorem news_part {h₀ h : Heap} {L : Addr} {l₁ l₂ : List (Addr × Obj)} (N : News h₀ L h l₂) (hs : ∀ q ∈ l₁,q ∈ l₂) : News h₀ L h l₁:=fun p hp=>N p (hs p hp)
noncomputable def Stop (P : Prop) : Prop:=P
theorem stopI {P : Prop} (h : Stop P) : P:=h
section
variable {prog : Program} {w : World} {A : Around} {E : Value → Shared → Prop} {s : Shared} {env : Env} {h₀ : Heap} {x : Str} {body : List Stmt} {Q : Flow → Shared → Prop}
theorem listT {ax : Addr} {lo : Obj} {vs : List Value} {n : Nat} {m₀ : Str → Option Value} {news : List (Addr × Obj)} (J : Nat → (Str → Option Value) → List (Addr × Obj) → Prop)
    (hh : A.handled = none) (F : Fr h₀ env.locals s.heap m₀) (N : News h₀ env.locals s.heap news) (hc : lo.cls = .type "list") (hd : lo.data = .seq vs.toArray n) (hJm : ∀ i m l,J i m l → (ax,lo) ∈ l) (h0 : J 0 m₀ news)
    (turn : ∀ i v I it m₁ news₁ h tk,vs[i]? = some v → it.cls = .type "list_iterator" → (∀ p ∈ news₁,p.1 ≠ I) → J i m₁ news₁ → Fr h₀ env.locals h (fun y=>if y = x then some v else m₁ y) → News h₀ env.locals h ((I,it) :: news₁) →
      wpAny (model prog w) A (execs body env) (UnrPost h₀ env.locals { s with heap:=h,toks:=tk } I it (J (i + 1)) Q) E { s with heap:=h,toks:=tk })
    (done : ∀ m₁ news₁ h tk,J vs.length m₁ news₁ → Fr h₀ env.locals h m₁ → News h₀ env.locals h news₁ → Q .next { s with heap:=h,toks:=tk }) :
    wpAny (model prog w) A (pyIter (.ref ax)) (fun it s₂=>LoopAtV prog w A h₀ env x body Q E it s₂) E s:=by
  refine iter_listUnr hh F N (hJm 0 _ _ h0) hc hd fun I hI=>?_
  have main : ∀ (r : List Value) (i : Nat) (m : Str → Option Value) (l : List (Addr × Obj)),vs.drop i = r → i ≤ vs.length → (∀ p ∈ l,p.1 ≠ I) → J i m l → ListRest prog w A E h₀ env x body Q s I (ax,lo) r m l:=by
    intro r
    induction r with
    | nil =>
      intro i m l hr hi hoff hj
      refine ListRest.zero fun h tk F' N'=>?_
      have e : i = vs.length:=by
        have:=congrArg List.length hr
        simp only [List.length_drop,List.length_nil] at this
        omega
      exact done m l h tk (e ▸ hj) F' N'
    | cons v r ih =>
      intro i m l hr hi hoff hj
      refine ListRest.succ fun it h tk hc' F' N'=>?_
      have hv : vs[i]? = some v:=by
        have : (vs.drop i)[0]? = some v:=by rw [hr];rfl
        simpa using this
      have hi' : i + 1 ≤ vs.length:=by
        have:=congrArg List.length hr
        simp only [List.length_drop,List.length_cons] at this
        omega
      have hr' : vs.drop (i + 1) = r:=by
        have : (vs.drop i).drop 1 = r:=by rw [hr];rfl
        rw [List.drop_drop] at this
        exact this
      refine wpAny_mono (turn i v I it m l h tk hv hc' hoff hj F' N') (fun f s₂ p=>?_) fun _ _ e=>e
      have fin : UnrEnd h₀ env.locals { s with heap:=h,toks:=tk } I it (J (i + 1)) s₂ → UnrEnd h₀ env.locals { s with heap:=h,toks:=tk } I it (fun m' n'=>(ax,lo) ∈ n' ∧ ListRest prog w A E h₀ env x body Q s I (ax,lo) r m' n') s₂:=by
        intro w90
        refine sealG ?_
        intro G9 k9
        obtain ⟨h',tk',m',n',e,F₁,N₁,ho,hj'⟩:=w90
        refine k9 ?_
        clear k9 G9
        exact ⟨h',tk',m',n',e,F₁,N₁,ho,hJm _ _ _ hj',ih (i + 1) m' n' hr' hi' ho hj'⟩
      cases f with
      | ret v=>exact p
      | brk=>exact p
      | next=>exact fin p
      | cont=>exact fin p
  exact main vs 0 m₀ news rfl (Nat.zero_le _) (fun p hp=>Nat.ne_of_lt (hI p hp)) h0
end
section
variable {prog : Program} {w : World} {A : Around} {E : Value → Shared → Prop} {s : Shared} {env : Env} {h₀ : Heap} {x : Str} {body : List Stmt} {Q : Flow → Shared → Prop}
theorem bind_from {m₀ : Str → Option Value} {t x : Str} {v : Value} (ht : m₀ t = some v) : m₀ = bindM (fun y=>if y = t then some v else m₀ y) x (m₀ x):=by
  funext z
  unfold bindM
  by_cases hx : z = x
  · rw [if_pos hx,hx]
  · rw [if_neg hx]
    by_cases hz : z = t
    · rw [hz,ht];exact (if_pos rfl).symm
    · exact (if_neg hz).symm
theorem unrEnd_mono {s s₂ : Shared} {L I : Addr} {it : Obj} {J J' : (Str → Option Value) → List (Addr × Obj) → Prop} (h : UnrEnd h₀ L s I it J s₂) (k : ∀ m l,J m l → J' m l) : UnrEnd h₀ L s I it J' s₂:=by
  obtain ⟨h',tk',m',n',e,F₂,N₂,ho,j⟩:=h
  exact ⟨h',tk',m',n',e,F₂,N₂,ho,k _ _ j⟩
inductive LI (P : Nat → Int → Prop) (t x : Str) (m₀ : Str → Option Value) (news : List (Addr × Obj)) (i : Nat) : (Str → Option Value) → List (Addr × Obj) → Prop
  | mk (vl : Option Value) (a : Int) (ta : Tok) (h : P i a) : LI P t x m₀ news i (bindM (fun y=>if y = t then some (.int a ta) else m₀ y) x vl) news
theorem LI.mem {P : Nat → Int → Prop} {t x : Str} {m₀ m : Str → Option Value} {news l : List (Addr × Obj)} {i : Nat} {p : Addr × Obj} (hp : p ∈ news) (h : LI P t x m₀ news i m l) : p ∈ l:=by cases h;exact hp
theorem LI.step {P : Nat → Int → Prop} {t x : Str} {m₀ m : Str → Option Value} {news l : List (Addr × Obj)} {i : Nat} {k a : Int} {u ta : Tok} (htx : x ≠ t) (h : l = news ∧ ∃ a' ta',P i a' ∧ m = fun y=>if y = t then some (.int a' ta') else if y = x then some (.int k u) else if y = t then some (.int a ta) else m₀ y) : LI P t x m₀ news i m l:=by
  obtain ⟨rfl,a',ta',hP',rfl⟩:=h
  have e : (fun y=>if y = t then some (.int a' ta') else if y = x then some (.int k u) else if y = t then some (.int a ta) else m₀ y) = bindM (fun y=>if y = t then some (.int a' ta') else m₀ y) x (some (.int k u)):=by
    funext y
    unfold bindM
    by_cases h1 : y = x
    · rw [if_pos h1,if_pos h1,if_neg (h1 ▸ htx)]
    · rw [if_neg h1,if_neg h1]
      by_cases h2 : y = t
      · rw [if_pos h2];exact (if_pos h2).symm
      · rw [if_neg h2,if_neg h2];exact (if_neg h2).symm
  rw [e]
  exact .mk _ _ _ hP'
theorem ints_at {vs : List Value} {ns : List Int} {i : Nat} {v : Value} (hI : IntsAre vs ns) (hv : vs[i]? = some v) {G : Prop} (h : ∀ k u,ns[i]? = some k → v = .int k u → G) : G:=by
  have hlt : i < ns.length:=by
    rw [← hI.length]
    exact (List.getElem?_eq_some_iff.mp hv).1
  obtain ⟨u,hx⟩:=hI.get i ns[i] (by simp [hlt])
  rw [hx] at hv
  exact h ns[i] u (by simp [hlt]) (Option.some.inj hv).symm
theorem listI {ax : Addr} {vs : List Value} {ns : List Int} {n : Nat} {m₀ : Str → Option Value} {news : List (Addr × Obj)} {t : Str} {n₀ : Int} {t₀ : Tok} (P : Nat → Int → Prop)
    (hh : A.handled = none) (F : Fr h₀ env.locals s.heap m₀) (N : News h₀ env.locals s.heap news) (hm : (ax,W.listOf vs.toArray n) ∈ news) (hI : IntsAre vs ns)
    (hmt : m₀ t = some (.int n₀ t₀)) (htx : x ≠ t) (hP : P 0 n₀)
    (turn : ∀ i k u a ta I it h tk,ns[i]? = some k → P i a → (∀ p ∈ news,p.1 ≠ I) → Fr h₀ env.locals h (fun y=>if y = x then some (.int k u) else if y = t then some (.int a ta) else m₀ y) → News h₀ env.locals h ((I,it) :: news) →
      wpAny (model prog w) A (execs body env) (UnrPost h₀ env.locals { s with heap:=h,toks:=tk } I it (fun m' l'=>l' = news ∧ ∃ a' ta',P (i + 1) a' ∧ m' = fun y=>if y = t then some (.int a' ta') else if y = x then some (.int k u) else if y = t then some (.int a ta) else m₀ y) Q) E { s with heap:=h,toks:=tk })
    (done : ∀ a ta c h tk,P ns.length a → Fr h₀ env.locals h (fun y=>if y = x then c else if y = t then some (.int a ta) else m₀ y) → News h₀ env.locals h news → Q .next { s with heap:=h,toks:=tk }) :
    wpAny (model prog w) A (pyIter (.ref ax)) (fun it s₂=>LoopAtV prog w A h₀ env x body Q E it s₂) E s:=by
  refine listT (LI P t x m₀ news) (lo:=W.listOf vs.toArray n) hh F N rfl rfl (fun _ _ _ j=>j.mem hm) ((congrArg (fun mm=>LI P t x m₀ news 0 mm news) (bind_from (x:=x) hmt)).mpr (.mk _ _ _ hP)) ?_ ?_
  · intro i v I it m₁ news₁ h tk hv hic hoff w911 F₁ N₁
    obtain ⟨vl,a,ta,hPa⟩:=w911
    refine ints_at hI hv fun k u hk e=>?_
    subst e
    rw [bindM_bind] at F₁
    refine wpAny_mono (turn i k u a ta I it h tk hk hPa hoff F₁ N₁) (fun f s₂ p=>?_) fun _ _ e=>e
    cases f with
    | ret v=>exact p
    | brk=>exact p
    | next=>exact unrEnd_mono p fun m l j=>LI.step htx j
    | cont=>exact unrEnd_mono p fun m l j=>LI.step htx j
  · intro m₁ news₁ h tk w94 F₁ N₁
    obtain ⟨vl,a,ta,hPa⟩:=w94
    have e : vs.length = ns.length:=hI.length
    exact done a ta vl h tk (e ▸ hPa) F₁ N₁
end
section
variable {prog : Program} {w : World} {A : Around} {E : Value → Shared → Prop} {s : Shared} {env : Env} {h₀ : Heap} {x : Str} {body : List Stmt} {Q : Flow → Shared → Prop}
noncomputable def TurnU {ι : Type} (h₀ : Heap) (L : Addr) (nx : ι → List (Addr × Obj)) (Pf : ι → Prop) (x : Str) (m₀ : Str → Option Value) (own : List (Addr × Obj)) (adr : List Addr) (s₁ : Shared) (Q : Flow → Shared → Prop) (f : Flow) (s₂ : Shared) : Prop :=
  InvPostN h₀ L (fun m' nl=>(∃ j,nl = nx j ∧ Pf j) ∧ SameBut [x] m' m₀) own adr s₁ Q f s₂
theorem same_if {m₀ : Str → Option Value} {v : Option Value} : SameBut [x] (fun y=>if y = x then v else m₀ y) m₀:=fun z hz=>if_neg fun (e : z = x)=>hz (by rw [e];exact .head _)
theorem turnU_end {ι : Type} {L : Addr} {nx : ι → List (Addr × Obj)} {Pf : ι → Prop} {m' m₀ : Str → Option Value} {own : List (Addr × Obj)} {adr : List Addr} {s₁ : Shared} {h' : Heap} {tk : Nat} (j : ι) (F : Fr h₀ L h' m') (N : News h₀ L h' (nx j ++ own)) (hp : Pf j) (ha : (nx j).map (·.1) = adr)
    (hm : SameBut [x] m' m₀) : TurnU h₀ L nx Pf x m₀ own adr s₁ Q .next { s₁ with heap:=h',toks:=tk } :=
  InvEndN.intro F N ⟨⟨j,rfl,hp⟩,hm⟩ ha (fun _ h=>List.mem_append_left _ h) (fun _ h=>List.mem_append_right _ h)
theorem rangeU {ι σ : Type} {r : Addr} {a₀ b₀ : Int} {t₀ u₀ v₀ : Tok} {n : Nat} {m₀ : Str → Option Value} (nx : ι → List (Addr × Obj)) (Pf : Nat → σ → ι → Prop) (g : σ → Int → σ) (c₀ : σ) (j₀ : ι) (adr : List Addr)
    (hh : A.handled = none) (hr : IsRange s.heap r a₀ b₀ 1 t₀ u₀ v₀) (hsmall : Builtin.Range.small a₀ b₀ 1 = true) (hn : Builtin.Range.rangeSize a₀ b₀ 1 = (n : Int)) (F : Fr h₀ env.locals s.heap m₀) (N : News h₀ env.locals s.heap (nx j₀)) (hP : Pf 0 c₀ j₀) (hadr : (nx j₀).map (·.1) = adr)
    (turn : ∀ (i : Nat) k t h tk own (c : σ) (j : ι),a₀ ≤ k → k < a₀ + (n : Int) → k = a₀ + (i : Int) → i < n → c = (rangeKs a₀ i).foldl g c₀ → OwnOff own adr → Pf i c j → Fr h₀ env.locals h (fun y=>if y = x then some (.int k t) else m₀ y) → News h₀ env.locals h (nx j ++ own) →
      wpAny (model prog w) A (execs body env) (TurnU h₀ env.locals nx (Pf (i + 1) (g c k)) x m₀ own adr { s with heap:=h,toks:=tk } Q) E { s with heap:=h,toks:=tk })
    (done : ∀ (j : ι) (m₁ : Str → Option Value) h tk,Pf n ((rangeKs a₀ n).foldl g c₀) j → Fr h₀ env.locals h (fun z=>if z = x then m₁ z else m₀ z) → News h₀ env.locals h (nx j) → Q .next { s with heap:=h,toks:=tk }) :
    wpAny (model prog w) A (pyIter (.ref r)) (fun it s₂=>LoopAtV prog w A h₀ env x body Q E it s₂) E s:=by
  subst hadr
  refine rangeT (σ:=σ) (fun m₀ i c m' nl=>(∃ j,nl = nx j ∧ Pf i c j) ∧ SameBut [x] m' m₀) g c₀ hh hr hsmall hn F N ⟨⟨j₀,rfl,hP⟩,fun _ _=>rfl⟩ ?_ ?_
  · rintro i k t c m₁ nl h tk own h1 h2 h3 hi hc hof ⟨⟨j,rfl,hp⟩,hm⟩ F1 N1
    rw [same_ite hm] at F1
    exact turn i k t h tk own c j h1 h2 h3 hi hc hof hp F1 N1
  · rintro m₁ nl h tk ⟨⟨j,rfl,hp⟩,hm⟩ F1 N1
    rw [← same_done hm] at F1
    exact done j m₁ h tk hp F1 N1
end

structure Mach where
  ns : List Int
  f : Fl
  D : List (Int × Int)
inductive RowD where
  | stos (size : Int) | movs (size : Int) | lods (size : Int) | scas (size : Int) | cmps (size : Int)
  | movrm (number size disp : Int) | movmi (size disp y : Int) | push (number : Int) | pop (number : Int) | xchg (number size disp : Int) | lea (number size disp : Int)
noncomputable def stepR : RowD → Mach → Mach
  | .stos z,M=>⟨goI M.ns 7 (Int.fdiv z 8) M.f.df,M.f,writeI M.D (M.ns.getD 7 0) (Int.fdiv z 8) (wrapI (M.ns.getD 0 0) z)⟩
  | .movs z,M=>⟨goI (goI M.ns 7 (Int.fdiv z 8) M.f.df) 6 (Int.fdiv z 8) M.f.df,M.f,writeI M.D (M.ns.getD 7 0) (Int.fdiv z 8) (readI M.D (M.ns.getD 6 0) (Int.fdiv z 8))⟩
  | .lods z,M=>⟨goI (putI M.ns 0 z (readI M.D (M.ns.getD 6 0) (Int.fdiv z 8))) 6 (Int.fdiv z 8) M.f.df,M.f,M.D⟩
  | .scas z,M=>⟨goI M.ns 7 (Int.fdiv z 8) M.f.df,subF M.f (wrapI (M.ns.getD 0 0) z) (readI M.D (M.ns.getD 7 0) (Int.fdiv z 8)) z,M.D⟩
  | .cmps z,M=>⟨goI (goI M.ns 7 (Int.fdiv z 8) M.f.df) 6 (Int.fdiv z 8) M.f.df,subF M.f (readI M.D (M.ns.getD 6 0) (Int.fdiv z 8)) (readI M.D (M.ns.getD 7 0) (Int.fdiv z 8)) z,M.D⟩
  | .movrm n z d,M=>⟨putI M.ns n z (readI M.D (placeI M.ns d) (Int.fdiv z 8)),M.f,M.D⟩
  | .movmi z d y,M=>⟨M.ns,M.f,writeI M.D (placeI M.ns d) (Int.fdiv z 8) (wrapI y z)⟩
  | .push n,M=>⟨pushRegs M.ns (Int.fdiv 64 8),M.f,writeI M.D ((pushRegs M.ns (Int.fdiv 64 8)).getD 4 0) (Int.fdiv 64 8) (wrapI (getI M.ns n 64) 64)⟩
  | .pop n,M=>⟨putI (popRegs M.ns (Int.fdiv 64 8)) n 64 (readI M.D (M.ns.getD 4 0) (Int.fdiv 64 8)),M.f,M.D⟩
  | .xchg n z d,M=>⟨putI M.ns n z (readI M.D (placeI M.ns d) (Int.fdiv z 8)),M.f,writeI M.D (placeI M.ns d) (Int.fdiv z 8) (wrapI (getI M.ns n z) z)⟩
  | .lea n z d,M=>⟨putI M.ns n 64 (offI M.ns d),M.f,M.D⟩

inductive RegAt (w : World) (l : List (Addr × Obj)) (ro : Addr) (number size : Int) : Prop
  | mk (rod rg rd : Addr) (τo τ' : StT) (rn : Value) (h1 : (ro,instObj 602 rod) ∈ l) (h2 : (rod,roDict w τo rg) ∈ l) (h3 : (rg,instObj 279 rd) ∈ l) (h4 : (rd,rgDict w τ' rn number size) ∈ l)
inductive MemAt (w : World) (l : List (Addr × Obj)) (mo : Addr) (disp size : Int) : Prop
  | mk (mod brg brd : Addr) (τm τb : StT) (bn : Value) (u1 u2 : Tok) (h1 : (brg,instObj 279 brd) ∈ l) (h2 : (brd,rgDict w τb bn 7 64) ∈ l) (h3 : (mo,instObj 689 mod) ∈ l) (h4 : (mod,moDict w τm brg disp size u1 u2) ∈ l)
inductive ImmAt (w : World) (l : List (Addr × Obj)) (io : Addr) (y : Int) : Prop
  | mk (iod : Addr) (τo : StT) (h1 : (io,instObj 636 iod) ∈ l) (h2 : (iod,ioDict w τo y) ∈ l)
inductive InsAt (w : World) (l : List (Addr × Obj)) (ins : Addr) (name prefx : Str) (ops : List Value) : Prop
  | mk (isd tp : Addr) (τi : StT) (h1 : (ins,instObj 742 isd) ∈ l) (h2 : (isd,insDict w τi name tp prefx) ∈ l) (h3 : (tp,tupObj ops) ∈ l)
noncomputable def OkN (n : Int) : Prop:=0 ≤ n ∧ n < 16
noncomputable def OkZ (z : Int) : Prop:=0 < z ∧ z ≤ 64
noncomputable def SzIn (a b c d nm : Str) (z : Int) : Prop:=(z = 8 ∧ nm = a) ∨ (z = 16 ∧ nm = b) ∨ (z = 32 ∧ nm = c) ∨ (z = 64 ∧ nm = d)
inductive RowAt (w : World) (l : List (Addr × Obj)) (ins : Addr) : RowD → Prop
  | stos (z : Int) (nm : Str) (hs : SzIn "stosb" "stosw" "stosd" "stosq" nm z) (hi : InsAt w l ins nm "" []) : RowAt w l ins (.stos z)
  | movs (z : Int) (nm : Str) (hs : SzIn "movsb" "movsw" "movsd" "movsq" nm z) (hi : InsAt w l ins nm "" []) : RowAt w l ins (.movs z)
  | lods (z : Int) (nm : Str) (hs : SzIn "lodsb" "lodsw" "lodsd" "lodsq" nm z) (hi : InsAt w l ins nm "" []) : RowAt w l ins (.lods z)
  | scas (z : Int) (nm : Str) (hs : SzIn "scasb" "scasw" "scasd" "scasq" nm z) (hi : InsAt w l ins nm "" []) : RowAt w l ins (.scas z)
  | cmps (z : Int) (nm : Str) (hs : SzIn "cmpsb" "cmpsw" "cmpsd" "cmpsq" nm z) (hi : InsAt w l ins nm "" []) : RowAt w l ins (.cmps z)
  | movrm (n z d : Int) (ro mo : Addr) (hn : OkN n) (hz : OkZ z) (hi : InsAt w l ins "mov" "" [.ref ro,.ref mo]) (hr : RegAt w l ro n z) (hm : MemAt w l mo d z) : RowAt w l ins (.movrm n z d)
  | xchg (n z d : Int) (ro mo : Addr) (hn : OkN n) (hz : OkZ z) (hi : InsAt w l ins "xchg" "" [.ref mo,.ref ro]) (hr : RegAt w l ro n z) (hm : MemAt w l mo d z) : RowAt w l ins (.xchg n z d)
  | lea (n z d : Int) (ro mo : Addr) (hn : OkN n) (hz : OkZ z) (hi : InsAt w l ins "lea" "" [.ref ro,.ref mo]) (hr : RegAt w l ro n 64) (hm : MemAt w l mo d z) : RowAt w l ins (.lea n z d)
  | movmi (z d y : Int) (mo io : Addr) (hz : OkZ z) (hi : InsAt w l ins "mov" "" [.ref mo,.ref io]) (hm : MemAt w l mo d z) (hy : ImmAt w l io y) : RowAt w l ins (.movmi z d y)
  | push (n : Int) (ro : Addr) (hn : OkN n) (hi : InsAt w l ins "push" "" [.ref ro]) (hr : RegAt w l ro n 64) : RowAt w l ins (.push n)
  | pop (n : Int) (ro : Addr) (hn : OkN n) (hi : InsAt w l ins "pop" "" [.ref ro]) (hr : RegAt w l ro n 64) : RowAt w l ins (.pop n)
section
variable {l l' : List (Addr × Obj)}
theorem RegAt.mono (hl : ∀ p ∈ l,p ∈ l') {ro : Addr} {n z : Int} (h : RegAt w l ro n z) : RegAt w l' ro n z:=by
  obtain ⟨a1,a2,a3,a4,a5,a6,b1,b2,b3,b4⟩:=h
  exact ⟨a1,a2,a3,a4,a5,a6,hl _ b1,hl _ b2,hl _ b3,hl _ b4⟩
theorem MemAt.mono (hl : ∀ p ∈ l,p ∈ l') {ro : Addr} {n z : Int} (h : MemAt w l ro n z) : MemAt w l' ro n z:=by
  obtain ⟨a1,a2,a3,a4,a5,a6,a7,a8,b1,b2,b3,b4⟩:=h
  exact ⟨a1,a2,a3,a4,a5,a6,a7,a8,hl _ b1,hl _ b2,hl _ b3,hl _ b4⟩
theorem ImmAt.mono (hl : ∀ p ∈ l,p ∈ l') {ro : Addr} {n : Int} (h : ImmAt w l ro n) : ImmAt w l' ro n:=by
  obtain ⟨a1,a2,b1,b2⟩:=h
  exact ⟨a1,a2,hl _ b1,hl _ b2⟩
theorem InsAt.mono (hl : ∀ p ∈ l,p ∈ l') {ro : Addr} {n p : Str} {v : List Value} (h : InsAt w l ro n p v) : InsAt w l' ro n p v:=by
  obtain ⟨a1,a2,a3,b1,b2,b3⟩:=h
  exact ⟨a1,a2,a3,hl _ b1,hl _ b2,hl _ b3⟩
theorem RowAt.mono (hl : ∀ p ∈ l,p ∈ l') {ins : Addr} {r : RowD} (h : RowAt w l ins r) : RowAt w l' ins r:=by
  cases h with
  | stos z nm hs hi=>exact .stos z nm hs (hi.mono hl)
  | movs z nm hs hi=>exact .movs z nm hs (hi.mono hl)
  | lods z nm hs hi=>exact .lods z nm hs (hi.mono hl)
  | scas z nm hs hi=>exact .scas z nm hs (hi.mono hl)
  | cmps z nm hs hi=>exact .cmps z nm hs (hi.mono hl)
  | movrm n z d ro mo a b c e f=>exact .movrm n z d ro mo a b (c.mono hl) (e.mono hl) (f.mono hl)
  | xchg n z d ro mo a b c e f=>exact .xchg n z d ro mo a b (c.mono hl) (e.mono hl) (f.mono hl)
  | lea n z d ro mo a b c e f=>exact .lea n z d ro mo a b (c.mono hl) (e.mono hl) (f.mono hl)
  | movmi z d y mo io b c e f=>exact .movmi z d y mo io b (c.mono hl) (e.mono hl) (f.mono hl)
  | push n ro a c e=>exact .push n ro a (c.mono hl) (e.mono hl)
  | pop n ro a c e=>exact .pop n ro a (c.mono hl) (e.mono hl)
end
inductive StAt (w : World) (l : List (Addr × Obj)) (σ : StA) (rip beg : Int) : Prop
  | mk (h1 : (σ.x,instObj 511 σ.dx) ∈ l) (h2 : ∃ τ,(σ.dx,stDict w τ σ rip beg) ∈ l) (f1 : (σ.fl,instObj 188 σ.fd) ∈ l) (e1 : (σ.me,instObj 394 σ.md) ∈ l) (e2 : ∃ th,(σ.md,dictOf [ent w "held" th (.ref σ.held)] 1) ∈ l) (o1 : Off l σ.regs) (o2 : Off l σ.held) (o3 : Off l σ.fd) (n12 : σ.regs ≠ σ.held) (n13 : σ.regs ≠ σ.fd) (n23 : σ.held ≠ σ.fd) (sys : (σ.held == sysModules) = false)
structure MaAt (w : World) (M : Mach) (vs : List Value) (o of : Obj) : Prop where
  hI : IntsAre vs M.ns
  len : M.ns.length = 16
  mem : IsMem w o M.D
  ok : OkD M.D
  fl : IsFl w of M.f
noncomputable abbrev led (σ : StA) (vs : List Value) (ep : Nat) (o of : Obj) (l : List (Addr × Obj)) : List (Addr × Obj):=(σ.regs,W.listOf vs.toArray ep) :: (σ.held,o) :: (σ.fd,of) :: l
theorem transfer_all {σ : StA} {rip beg : Int} {l : List (Addr × Obj)} {M : Mach} {vs : List Value} {ep : Nat} {o of : Obj} {ins : Addr} {r : RowD}
  (B : Below A₀ base outer h₀) (F : Fr h₀ L hpS m) (X : (heapK w.params).In h₀) (N : News h₀ L hpS (led σ vs ep o of l)) (T : Top viewK loose mean mg mb h₀) (hk : cs.kind = .function)
  (hd : dp + 18 < recursionLimit) (hu : un + 8 * 30 < cLine) (S : StAt w l σ rip beg) (H : MaAt w M vs o of) (R : RowAt w l ins r) (hl : M.D.length ≤ 3900)
  (ret : ∀ vs' ep' o' of' h' tk',Fr h₀ L h' m → News h₀ L h' (led σ vs' ep' o' of' l) → MaAt w (stepR r M) vs' o' of' → (stepR r M).D.length ≤ M.D.length + 16 → Q (.bool true) ⟨h',gnS,drS,tk',osS⟩) :
  wpAny (model PySem.Challenge.rw_qd0115_01.row.prog w) (ktrTop dp un gd cn cs L a ccd cl outer) (call (.ref 952) [.ref σ.x,.ref ins]) Q E ⟨hpS,gnS,drS,tkS,osS⟩:=by
  have up : ∀ {p : Addr × Obj},p ∈ l → p ∈ led σ vs ep o of l:=fun h=>.tail _ (.tail _ (.tail _ h))
  refine sealG ?_
  intro G9 k9
  obtain ⟨⟨h1,⟨τ,h2⟩,f1,e1,⟨th,e2⟩,o1,o2,o3,n12,n13,n23,sys⟩,⟨hI,len,mem,ok,⟨τf,rfl⟩⟩⟩:=And.intro S H
  refine k9 ?_
  clear k9 G9
  have e3 : (σ.held,o) ∈ led σ vs ep o (flDict w τf M.f) l:=.tail _ (.head _)
  have f2 : (σ.fd,flDict w τf M.f) ∈ led σ vs ep o (flDict w τf M.f) l:=.tail _ (.tail _ (.head _))
  have h3 : (σ.regs,W.listOf vs.toArray ep) ∈ led σ vs ep o (flDict w τf M.f) l:=.head _
  have u1 : UpdF σ.regs (W.listOf vs.toArray ep) (led σ vs ep o (flDict w τf M.f) l) (fun o1=>(σ.regs,o1) :: (σ.held,o) :: (σ.fd,flDict w τf M.f) :: l):=.head fun p hp=>by
    rcases List.mem_cons.mp hp with rfl | hp
    · exact Ne.symm n12
    rcases List.mem_cons.mp hp with rfl | hp
    · exact Ne.symm n13
    · exact o1 p hp
  have u2 : ∀ x,UpdF σ.held o ((σ.regs,x) :: (σ.held,o) :: (σ.fd,flDict w τf M.f) :: l) (fun o2=>(σ.regs,x) :: (σ.held,o2) :: (σ.fd,flDict w τf M.f) :: l):=fun x=>.tail n12 (.head fun p hp=>by
    rcases List.mem_cons.mp hp with rfl | hp
    · exact Ne.symm n23
    · exact o2 p hp)
  have u3 : ∀ x,UpdF σ.fd (flDict w τf M.f) ((σ.regs,x) :: (σ.held,o) :: (σ.fd,flDict w τf M.f) :: l) (fun o3=>(σ.regs,x) :: (σ.held,o) :: (σ.fd,o3) :: l):=fun x=>.tail n13 (.tail n23 (.head fun p hp=>o3 p hp))
  have hz : ∀ {z : Int},OkZ z → 0 ≤ z ∧ z ≤ 128:=fun h=>⟨by have:=h.1;omega,by have:=h.2;omega⟩
  have hm : ∀ {z : Int},OkZ z → 0 < z ∧ z ≤ 128:=fun h=>⟨h.1,by have:=h.2;omega⟩
  have f0 : IsFl w (flDict w τf M.f) M.f:=⟨τf,rfl⟩
  cases R with
  | stos z nm hs hi =>
    obtain ⟨isd,tp,τi,b1,b2,b3⟩:=hi
    exact t_stos B F X N T hk (by omega) hu (up h1) (up h2) u1 hI len (up f1) f2 (up e1) (up e2) n12 u2 mem sys ok (up b1) (up b2) (up b3) hs hl (fun vs' ep' o' h' tk' F' N' a1 a2 a3 a4 a5=>ret vs' ep' o' _ h' tk' F' N' ⟨a1,a2,a3,a4,f0⟩ a5)
  | movs z nm hs hi =>
    obtain ⟨isd,tp,τi,b1,b2,b3⟩:=hi
    exact t_movs B F X N T hk (by omega) hu (up h1) (up h2) u1 hI len (up f1) f2 (up e1) (up e2) n12 u2 mem sys ok (up b1) (up b2) (up b3) hs hl (fun vs' ep' o' h' tk' F' N' a1 a2 a3 a4 a5=>ret vs' ep' o' _ h' tk' F' N' ⟨a1,a2,a3,a4,f0⟩ a5)
  | lods z nm hs hi =>
    obtain ⟨isd,tp,τi,b1,b2,b3⟩:=hi
    exact t_lods B F X N T hk (by omega) hu (up h1) (up h2) u1 hI len (up f1) f2 (up e1) (up e2) e3 mem sys ok (up b1) (up b2) (up b3) hs (fun vs' ep' h' tk' F' N' a1 a2=>ret vs' ep' o _ h' tk' F' N' ⟨a1,a2,mem,ok,f0⟩ (Nat.le_add_right _ _))
  | scas z nm hs hi =>
    obtain ⟨isd,tp,τi,b1,b2,b3⟩:=hi
    exact t_scas B F X N T hk hd hu (up h1) (up h2) u1 hI len (up f1) (up e1) (up e2) e3 mem sys ok n13 u3 (up b1) (up b2) (up b3) hs (fun vs' ep' o' h' tk' F' N' a1 a2 a3=>ret vs' ep' o o' h' tk' F' N' ⟨a1,a2,mem,ok,a3⟩ (Nat.le_add_right _ _))
  | cmps z nm hs hi =>
    obtain ⟨isd,tp,τi,b1,b2,b3⟩:=hi
    exact t_cmps B F X N T hk hd hu (up h1) (up h2) u1 hI len (up f1) (up e1) (up e2) e3 mem sys ok n13 u3 (up b1) (up b2) (up b3) hs (fun vs' ep' o' h' tk' F' N' a1 a2 a3=>ret vs' ep' o o' h' tk' F' N' ⟨a1,a2,mem,ok,a3⟩ (Nat.le_add_right _ _))
  | movrm n z d ro mo hn hsz hi hr hmm =>
    obtain ⟨isd,tp,τi,b1,b2,b3⟩:=hi
    obtain ⟨rod,rg,rd,τo,τ',rn,g1,g2,g3,g4⟩:=hr
    obtain ⟨mod,brg,brd,τm,τb,bn,x1,x2,m1,m2,m3,m4⟩:=hmm
    exact t_movrm B F X N T hk (by omega) (by omega) (up h1) (up h2) u1 hI len (up b1) (up b2) (up b3) (up g1) (up g2) (up g3) (up g4) (up m1) (up m2) (up m3) (up m4) (up e1) (up e2) e3 mem sys ok hn.1 hn.2 (hz hsz).1 (hz hsz).2 (fun vs' ep' h' tk' F' N' a1 a2=>ret vs' ep' o _ h' tk' F' N' ⟨a1,a2,mem,ok,f0⟩ (Nat.le_add_right _ _))
  | movmi z d y mo io hsz hi hmm hy =>
    obtain ⟨isd,tp,τi,b1,b2,b3⟩:=hi
    obtain ⟨mod,brg,brd,τm,τb,bn,x1,x2,m1,m2,m3,m4⟩:=hmm
    obtain ⟨iod,τo,j1,j2⟩:=hy
    exact t_movmi B F X N T hk (by omega) (by omega) (up h1) (up h2) h3 hI len (up b1) (up b2) (up b3) (up m1) (up m2) (up m3) (up m4) (up j1) (up j2) (up e1) (up e2) (hm hsz).1 (hm hsz).2 (u2 _) mem sys ok hl (fun o' h' tk' F' N' a3 a4 a5=>ret vs ep o' _ h' tk' F' N' ⟨hI,len,a3,a4,f0⟩ a5)
  | push n ro hn hi hr =>
    obtain ⟨isd,tp,τi,b1,b2,b3⟩:=hi
    obtain ⟨rod,rg,rd,τo,τ',rn,g1,g2,g3,g4⟩:=hr
    exact t_push B F X N T hk (by omega) (by omega) (up h1) (up h2) u1 hI len (up b1) (up b2) (up b3) (up g1) (up g2) (up g3) (up g4) (up e1) (up e2) hn.1 hn.2 (by decide) (by decide) n12 u2 mem sys ok hl (fun vs' ep' o' h' tk' F' N' a1 a2 a3 a4 a5=>ret vs' ep' o' _ h' tk' F' N' ⟨a1,a2,a3,a4,f0⟩ a5)
  | pop n ro hn hi hr =>
    obtain ⟨isd,tp,τi,b1,b2,b3⟩:=hi
    obtain ⟨rod,rg,rd,τo,τ',rn,g1,g2,g3,g4⟩:=hr
    exact t_pop B F X N T hk (by omega) (by omega) (up h1) (up h2) u1 hI len (up b1) (up b2) (up b3) (up g1) (up g2) (up g3) (up g4) (up e1) (up e2) e3 mem sys ok hn.1 hn.2 (by decide) (by decide) (fun vs' ep' h' tk' F' N' a1 a2=>ret vs' ep' o _ h' tk' F' N' ⟨a1,a2,mem,ok,f0⟩ (Nat.le_add_right _ _))
  | xchg n z d ro mo hn hsz hi hr hmm =>
    obtain ⟨isd,tp,τi,b1,b2,b3⟩:=hi
    obtain ⟨rod,rg,rd,τo,τ',rn,g1,g2,g3,g4⟩:=hr
    obtain ⟨mod,brg,brd,τm,τb,bn,x1,x2,m1,m2,m3,m4⟩:=hmm
    exact t_xchg B F X N T hk (by omega) (by omega) (up h1) (up h2) u1 hI len (up b1) (up b2) (up b3) (up g1) (up g2) (up g3) (up g4) (up m1) (up m2) (up m3) (up m4) (up e1) (up e2) hn.1 hn.2 (hz hsz).1 (hz hsz).2 (hm hsz).1 (hm hsz).2 n12 u2 mem sys ok hl (fun vs' ep' o' h' tk' F' N' a1 a2 a3 a4 a5=>ret vs' ep' o' _ h' tk' F' N' ⟨a1,a2,a3,a4,f0⟩ a5)
  | lea n z d ro mo hn hsz hi hr hmm =>
    obtain ⟨isd,tp,τi,b1,b2,b3⟩:=hi
    obtain ⟨rod,rg,rd,τo,τ',rn,g1,g2,g3,g4⟩:=hr
    obtain ⟨mod,brg,brd,τm,τb,bn,x1,x2,m1,m2,m3,m4⟩:=hmm
    exact t_lea B F X N T hk (by omega) (by omega) (up h1) (up h2) u1 hI len (up b1) (up b2) (up b3) (up g1) (up g2) (up g3) (up g4) (up m1) (up m2) (up m3) (up m4) hn.1 hn.2 (by decide) (by decide) (fun vs' ep' h' tk' F' N' a1 a2=>ret vs' ep' o _ h' tk' F' N' ⟨a1,a2,mem,ok,f0⟩ (Nat.le_add_right _ _))
example : True:=by (k_with "kmem0"=>assumption);trivial
inductive NoTrap (nm : Str) : Prop
  | mk (n0 : (nm == ("hlt" : Str)) = false) (any : ([("ud2" : Str),"int","int3","syscall","cpuid"].any fun x=>x == nm) = false)
inductive InsOk (w : World) (l : List (Addr × Obj)) (ins : Addr) : Prop
  | mk (nm : Str) (ops : List Value) (h : InsAt w l ins nm "" ops) (n : NoTrap nm)
theorem SzIn.ok {a b c d nm : Str} {z : Int} (h : SzIn a b c d nm z) (h1 : NoTrap a) (h2 : NoTrap b) (h3 : NoTrap c) (h4 : NoTrap d) : NoTrap nm :=
  h.elim (fun e=>e.2 ▸ h1) fun h=>h.elim (fun e=>e.2 ▸ h2) fun h=>h.elim (fun e=>e.2 ▸ h3) fun e=>e.2 ▸ h4
theorem RowAt.ins {l : List (Addr × Obj)} {ins : Addr} {r : RowD} (h : RowAt w l ins r) : InsOk w l ins:=by
  cases h with
  | stos z nm hs c=>exact ⟨nm,_,c,hs.ok ⟨by decide,by decide⟩ ⟨by decide,by decide⟩ ⟨by decide,by decide⟩ ⟨by decide,by decide⟩⟩
  | movs z nm hs c=>exact ⟨nm,_,c,hs.ok ⟨by decide,by decide⟩ ⟨by decide,by decide⟩ ⟨by decide,by decide⟩ ⟨by decide,by decide⟩⟩
  | lods z nm hs c=>exact ⟨nm,_,c,hs.ok ⟨by decide,by decide⟩ ⟨by decide,by decide⟩ ⟨by decide,by decide⟩ ⟨by decide,by decide⟩⟩
  | scas z nm hs c=>exact ⟨nm,_,c,hs.ok ⟨by decide,by decide⟩ ⟨by decide,by decide⟩ ⟨by decide,by decide⟩ ⟨by decide,by decide⟩⟩
  | cmps z nm hs c=>exact ⟨nm,_,c,hs.ok ⟨by decide,by decide⟩ ⟨by decide,by decide⟩ ⟨by decide,by decide⟩ ⟨by decide,by decide⟩⟩
  | movrm n z d ro mo a b c e f=>exact ⟨_,_,c,⟨by decide,by decide⟩⟩
  | xchg n z d ro mo a b c e f=>exact ⟨_,_,c,⟨by decide,by decide⟩⟩
  | lea n z d ro mo a b c e f=>exact ⟨_,_,c,⟨by decide,by decide⟩⟩
  | movmi z d y mo io b c e f=>exact ⟨_,_,c,⟨by decide,by decide⟩⟩
  | push n ro a c e=>exact ⟨_,_,c,⟨by decide,by decide⟩⟩
  | pop n ro a c e=>exact ⟨_,_,c,⟨by decide,by decide⟩⟩
theorem news_whole {h₀ h h' g : Heap} {L L' : Addr} {l₁ l₂ : List (Addr × Obj)} (N : News h₀ L h l₁) (N' : News g L' h' l₂) (ha : ∀ p ∈ l₂,∃ q ∈ l₁,q.1 = p.1) : News h₀ L h' l₂:=fun p hp=>by
  obtain ⟨q,hq,e⟩:=ha p hp
  exact ⟨(N' p hp).1,e ▸ (N q hq).2⟩
theorem led_adr {σ : StA} {vs vs' : List Value} {ep ep' : Nat} {o o' of of' : Obj} {l : List (Addr × Obj)} : ∀ p ∈ led σ vs' ep' o' of' l,∃ q ∈ led σ vs ep o of l,q.1 = p.1:=fun p hp=>by
  rcases List.mem_cons.mp hp with rfl | hp
  · exact ⟨_,.head _,rfl⟩
  rcases List.mem_cons.mp hp with rfl | hp
  · exact ⟨_,.tail _ (.head _),rfl⟩
  rcases List.mem_cons.mp hp with rfl | hp
  · exact ⟨_,.tail _ (.tail _ (.head _)),rfl⟩
  exact ⟨p,.tail _ (.tail _ (.tail _ hp)),rfl⟩
theorem done_ok {σ : StA} {rip beg : Int} {l : List (Addr × Obj)} {M : Mach} {vs : List Value} {ep : Nat} {o of : Obj} {ins dl : Addr} {de : Nat} {r : RowD}
  (B : Below A₀ base outer h₀) (F : Fr h₀ L hpS m) (X : (heapK w.params).In h₀) (N : News h₀ L hpS (led σ vs ep o of l)) (T : Top viewK loose mean mg mb h₀) (hk : cs.kind = .function)
  (hd : dp + 22 < recursionLimit) (hu : un + 8 * 40 < cLine) (S : StAt w l σ rip beg) (H : MaAt w M vs o of) (R : RowAt w l ins r) (hl : M.D.length ≤ 3900) (hdl : (dl,W.listOf #[.ref 952] de) ∈ l)
  (ret : ∀ vs' ep' o' of' h' tk',Fr h₀ L h' m → News h₀ L h' (led σ vs' ep' o' of' l) → MaAt w (stepR r M) vs' o' of' → (stepR r M).D.length ≤ M.D.length + 16 → Q .none ⟨h',gnS,drS,tk',osS⟩) :
  wpAny (model PySem.Challenge.rw_qd0115_01.row.prog w) (ktrTop dp un gd cn cs L a ccd cl outer) (call (.ref 522) [.ref σ.x,.ref ins,.ref dl]) Q E ⟨hpS,gnS,drS,tkS,osS⟩:=by
  obtain ⟨nm,ops,⟨isd,tp,τi,b1,b2,b3⟩,⟨n0,nt⟩⟩:=R.ins
  have hS : ∀ q ∈ ((σ.regs,W.listOf vs.toArray ep) :: (σ.held,o) :: (σ.fd,of) :: l),q ∈ led σ vs ep o of l:=fun _ h=>h
  refine wpAny_call ?_
  ktr_enter
  k_with "exec For"=>((fail_if_success have:=off51);(rename Fr _ _ _ _=>lF');(with_unfolding_all refine' For_invVF lF' ?k1 ?k2 ?_;(case k1=>exact rfl);(case k2=>exact rfl);k_whole))
  k_with "call ref"=>((fail_if_success have:=off51);k_here;(with_reducible show wpAny _ _ (call (Value.ref 952) _) _ _ _);(rename News _ _ _ _=>lN);k_dflt (refine' transfer_all (σ:=σ) (l:=l) (vs:=vs) (ep:=ep) (o:=o) (of:=of) (M:=M) (r:=r) ?k1 ?k2 ?k3 (news_part lN (fun _ h=>.tail _ (.tail _ h))) ?k5 ?kK ?kd ?ku S H R hl ?_;(case k1=>k_asm);(case k2=>k_asm);(case k3=>k_asm);(case k5=>k_asm);(case kK=>exact rfl);(case kd=>ktr_room);(case ku=>ktr_units));k_whole;clear lN;intro vs' ep' o' of' h' tk' F' N' H' hl')
  k_steps
  · exact Bool.noConfusion (Eq.trans (by symm;assumption) nt)
  · rename Fr _ _ _ _=>lF'
    rename News _ _ _ _=>lN'
    with_unfolding_all refine iter_listUnr (lo:=W.listOf #[.ref 952] de) (vs:=[.ref 952]) (by rfl) lF' lN' (by k_mem) (by rfl) (by rfl) ?_
    clear lF'
    intro i' l1
    k_steps
    refine withKept_ok fun hK=>?_
    show Q _ _
    rename News _ _ _ (led σ _ _ _ _ l)=>lN

    rename MaAt w (stepR r M) _ _ _=>lH
    exact ret _ _ _ _ _ _ (by k_asm) (news_whole N lN led_adr) lH (by assumption)
theorem off51 : True:=trivial
inductive IsPen (k : Nat) : Obj → Prop
  | mk (p0 p1 p2 : Int) (t0 t1 t2 : Tok) (ep : Nat) (h1 : 0 ≤ p2) (h2 : p2 ≤ (k : Int)) : IsPen k (W.listOf #[.int p0 t0,.int p1 t1,.int p2 t2] ep)
theorem isPen {k : Nat} {p0 p1 p2 : Int} {t0 t1 t2 : Tok} {ep : Nat} (h1 : 0 ≤ p2) (h2 : p2 ≤ (k : Int)) : IsPen k (W.listOf #[.int p0 t0,.int p1 t1,.int p2 t2] ep):=.mk _ _ _ _ _ _ _ h1 h2
theorem IsPen.le {k k' : Nat} {o : Obj} (h : IsPen k o) (hk : k ≤ k') : IsPen k' o:=by
  obtain ⟨p0,p1,p2,t0,t1,t2,ep,h1,h2⟩:=h
  exact isPen h1 (by omega)
theorem lbase_c 
  (B : Below A₀ base outer h₀) (F : Fr h₀ L hpS m) (X : (heapK w.params).In h₀) (N : News h₀ L hpS news) (T : Top viewK loose mean mg mb h₀) (hk : cs.kind = .function)
  (hd : dp + 2 < recursionLimit) (hu : un + 8 * 2 < cLine)
  
  (ret : ∀ t h' tk',Fr h₀ L h' m → News h₀ L h' (news) → Q (.int 1000000000000000000000000000057 t) ⟨h',gnS,drS,tk',osS⟩) :
  wpAny (model PySem.Challenge.rw_qd0115_01.row.prog w) (ktrTop dp un gd cn cs L a ccd cl outer) (call (.ref 959) []) Q E ⟨hpS,gnS,drS,tkS,osS⟩:=by
  have hS : ∀ q ∈ ([] : List (Addr × Obj)),q ∈ news:=fun q h=>nomatch h
  refine wpAny_call ?_
  ktr_enter
  k_steps
  all_goals (refine withKept_ok fun hK=>?_)
  all_goals (show Q _ _)
  all_goals (exact ret _ _ _ (by k_asm) (news_same N hK hS (nn:=[]) (fun _ h=>nomatch h) (fun _ h=>nomatch h)))
example : True:=by (k_with "call ref"=>(k_here;(with_reducible show wpAny _ _ (call (Value.ref 959) _ _) _ _ _);k_dflt (refine' lbase_c ?k1 ?k2 ?k3 ?k4 ?k5 ?kK ?kd ?ku  ?_;walk_at "ks"; k_whole;intro t' h' tk' F' N';(try k_sweep))));trivial

theorem take_c (B : Below A₀ base outer h₀) (F : Fr h₀ L hpS m) (X : (heapK w.params).In h₀) (N : News h₀ L hpS news) (T : Top viewK loose mean mg mb h₀) (hk : cs.kind = .function)
  {pa : Addr} {k : Nat} {o : Obj} {many : Int} {t1 : Tok} {g : Obj → List (Addr × Obj)}
  (hd : dp + 2 < recursionLimit) (hu : un + 8 * 2 < cLine)
  (hp : IsPen k o) (hk2 : k < 1000000000) (U : UpdF pa o news g) (hmany : 0 < many) (hmany2 : many < 1073741824)
  (ret : ∀ r t o' h' tk',Fr h₀ L h' m → News h₀ L h' (g o') → IsPen (k + 1) o' → 0 ≤ r → r < many → Q (.int r t) ⟨h',gnS,drS,tk',osS⟩) :
  wpAny (model PySem.Challenge.rw_qd0115_01.row.prog w) (ktrTop dp un gd cn cs L a ccd cl outer) (call (.ref 973) [.ref pa,.int many t1]) Q E ⟨hpS,gnS,drS,tkS,osS⟩:=by
  obtain ⟨p0,p1,p2,v0,v1,v2,ep,hp1,hp2⟩:=hp
  have hm:=upd_in U
  have h64 : IntMulOk (p2 + 1) (p2 + 1):=IntMulOk.of_right (intBits_le_64 (by omega) (by omega))
  have hS : ∀ q ∈ [(pa,W.listOf #[.int p0 v0,.int p1 v1,.int p2 v2] ep)],q ∈ news:=by
    walk_at "hs in"
  refine wpAny_call ?_
  ktr_enter
  k_with "binaryOp Mult int int"=>((fail_if_success have:=off60);k_here;first | (refine' mul_int ?_ (IntMulOk.of_right (intBits_le_64 (by decide) (by decide)))) | (refine' mul_int ?_ h64) | fail "mult: no row")
  k_with "binaryOp FloorDiv int int"=>((fail_if_success have:=off60);k_here;first | (refine' floordiv_int ?ha ?_ (Or.inl (PyProof.noPylong_small ?hb));(case ha=>first | decide | omega);(case hb=>first | decide | omega)) | fail "floordiv: no row")
  k_steps
  all_goals (refine withKept_ok fun hK=>?_)
  all_goals (show Q _ _)
  all_goals (exact ret _ _ _ _ _ (by k_asm) (news_upd1 U N hK hS (by k_asm) (by k_mem) (by walk_at "hs all")) (by first | exact isPen (k:=k + 1) (p2:=p2) hp1 (by omega) | exact isPen (k:=k + 1) (p2:=p2 + 1) (by omega) (by omega)) (by rw [Int.fmod_eq_emod_of_nonneg _ (Int.le_of_lt hmany)];exact Int.emod_nonneg _ (by omega)) (by rw [Int.fmod_eq_emod_of_nonneg _ (Int.le_of_lt hmany)];exact Int.emod_lt_of_pos _ hmany))
example : True:=by (k_with "call ref"=>(k_here;(with_reducible show wpAny _ _ (call (Value.ref 973) _ _) _ _ _);k_dflt (refine' take_c ?k1 ?k2 ?k3 ?k4 ?k5 ?kK ?kd ?ku ?m0 ?m1 ?m2 ?m3 ?m4 ?_;walk_at "ks";(case m0=>k_asm);(case m1=>walk_at "om");(case m2=>k_updF);(case m3=>first | decide | omega);(case m4=>first | decide | omega);k_whole;intro r' t' o' h' tk' F' N' hx0' hx1' hx2';(try dsimp only at N');(try k_sweep))));trivial

theorem mul_pen {a : Int} {i : Nat} (h0 : 0 ≤ a) (h1 : a < 2 ^ (100 * i)) (hi : i < 40) : IntMulOk a 1000000000000000000000000000057:=by
  have hle : (2 : Int) ^ (100 * i) ≤ 2 ^ 4000:=by
    have h : (2 : Nat) ^ (100 * i) ≤ 2 ^ 4000:=Nat.pow_le_pow_right (by decide) (by omega)
    exact_mod_cast h
  have hn : a.natAbs < 2 ^ 4000:=by
    have h2 : (a.natAbs : Int) < ((2 ^ 4000 : Nat) : Int):=by
      rw [Int.natAbs_of_nonneg h0]
      push_cast
      exact Int.lt_of_lt_of_le h1 hle
    exact_mod_cast h2
  have hb : Builtin.Int.intBits a ≤ 4000:=by
    unfold Builtin.Int.intBits
    split
    · exact Nat.zero_le _
    · rename_i hne
      have hne' : a.natAbs ≠ 0:=by
        intro z;exact hne (by simpa using z)
      exact (Nat.log2_lt hne').mpr hn
  have hc : Builtin.Int.intBits 1000000000000000000000000000057 ≤ 100:=by decide +kernel
  have ht : Builtin.Int.intTooBig ((Builtin.Int.intBits a : Int) + (Builtin.Int.intBits 1000000000000000000000000000057 : Int)) = false:=by
    unfold Builtin.Int.intTooBig
    rw [decide_eq_false_iff_not,bitsLine_eq]
    omega
  unfold IntMulOk
  rw [ht]
  simp
theorem pen_step {a k : Int} {i : Nat} (h0 : 0 ≤ a) (h1 : a < 2 ^ (100 * i)) : 0 ≤ a * 1000000000000000000000000000057 + k.fmod 1000000000000000000000000000057 ∧ a * 1000000000000000000000000000057 + k.fmod 1000000000000000000000000000057 < 2 ^ (100 * (i + 1)):=by
  have e : (2 : Int) ^ (100 * (i + 1)) = 2 ^ (100 * i) * 1267650600228229401496703205376:=by
    rw [Nat.mul_add,Int.pow_add]
    rfl
  rw [e,Int.fmod_eq_emod_of_nonneg _ (by decide)]
  have r0:=Int.emod_nonneg k (b:=1000000000000000000000000000057) (by decide)
  have r1:=Int.emod_lt_of_pos k (b:=1000000000000000000000000000057) (by decide)
  generalize k % 1000000000000000000000000000057 = r at *
  generalize (2 : Int) ^ (100 * i) = p at *
  omega
theorem pen_c (B : Below A₀ base outer h₀) (F : Fr h₀ L hpS m) (X : (heapK w.params).In h₀) (N : News h₀ L hpS news) (T : Top viewK loose mean mg mb h₀) (hk : cs.kind = .function)
  {sl : Addr} {vs : List Value} {ns : List Int}
  (hd : dp + 4 < recursionLimit) (hu : un + 8 * 4 < cLine)
  (hl : h₀.IsList sl vs.toArray) (hI : IntsAre vs ns) (hlen : ns.length ≤ 63)
  (ret : ∀ pa o' h' tk',Fr h₀ L h' m → News h₀ L h' ((pa,o') :: news) → IsPen 0 o' → Off news pa → Q (.ref pa) ⟨h',gnS,drS,tk',osS⟩) :
  wpAny (model PySem.Challenge.rw_qd0115_01.row.prog w) (ktrTop dp un gd cn cs L a ccd cl outer) (call (.ref 966) [.ref sl]) Q E ⟨hpS,gnS,drS,tkS,osS⟩:=by
  have hS : ∀ q ∈ ([] : List (Addr × Obj)),q ∈ news:=fun q h=>nomatch h
  refine wpAny_call ?_
  ktr_enter
  rename Fr h₀ _ _ _=>FG
  have hlg : Heap.IsList _ sl vs.toArray:=hl.at fun o e=>FG.keep _ o e
  k_with "exec For"=>((fail_if_success have:=off60);(rename Fr _ _ _ _=>lF');(with_unfolding_all refine' For_invVF lF' ?k1 ?k2 ?_;(case k1=>exact rfl);(case k2=>exact rfl);k_whole))
  k_with "binaryOp Mult int int"=>((fail_if_success have:=off60);k_here;first | (refine' mul_int ?_ (PySem.IntMulOk.of_right (PySem.intBits_le_64 (by decide) (by decide)))) | (refine' mul_int ?_ (mul_pen (by assumption) (by assumption) (by omega))) | fail "mult: no row")
  k_with "pyIter ref"=>((fail_if_success have:=off60);k_here;(with_reducible show wpAny _ _ (pyIter (Value.ref _)) (fun it s₂=>LoopAtV _ _ _ _ _ _ _ _ _ it s₂) _ _);(rename IntsAre _ (List.reverse _)=>lI);refine stopI ?_)
  k_steps
  delta Stop
  rename Fr _ _ _ _=>lF
  rename News _ _ _ _=>lN
  rename IntsAre _ (List.reverse _)=>lI
  rename (List.reverse _).length = _=>hC
  rename (List.take _ _).length = _=>hC2
  with_unfolding_all refine listI (t:="store") (n₀:=0) (n:=0) (fun i a=>0 ≤ a ∧ a < 2 ^ (100 * i)) (by rfl) lF lN (by exact List.Mem.head _) lI (by rfl) (by decide) ⟨by decide,by decide⟩ ?_ ?_
  · clear lF lN
    rintro i k u aa ta I it h tk hi ⟨ha0,ha1⟩ hoff lF lN
    have hi1 : i < 40:=Nat.lt_of_lt_of_le (List.getElem?_eq_some_iff.mp hi).1 (by rw [hC,hC2];exact Nat.min_le_left _ _)
    k_steps
    rename Fr _ _ _ _=>lF
    rename News _ _ _ _=>lN
    exact UnrEnd.intro lF lN _ (fun _ h=>h) hoff ⟨rfl,_,_,pen_step ha0 ha1,rfl⟩
  · clear lF lN
    rintro aa ta c h tk ⟨ha0,ha1⟩ lF lN
    k_steps
    refine withKept_ok fun hK=>?_
    show Q _ _
    rename News h₀ _ _ _=>nH
    exact ret _ _ _ _ (by k_asm) (news_cons nH (by k_mem) (news_same N hK hS (nn:=[]) (fun _ h=>nomatch h) (fun _ h=>nomatch h))) (isPen (by decide) (by decide)) (ne_alloc N hG' (by assumption) (by k_mem) (fun _ h=>nomatch h))
example : True:=by (k_with "call ref"=>(k_here;(with_reducible show wpAny _ _ (call (Value.ref 966) _ _) _ _ _);k_dflt (refine' pen_c ?k1 ?k2 ?k3 ?k4 ?k5 ?kK ?kd ?ku ?m0 ?m1 ?m2 ?_;walk_at "ks";(case m0=>first | assumption | exact Heap.IsList.at (by assumption) (fun o e=>Fr.keep (by assumption) _ o e));(case m1=>k_asm);(case m2=>walk_at "om");k_whole;intro pa' o' h' tk' F' N' hx0' hx1';(skip);(try k_sweep))));trivial
theorem off60 : True:=trivial
example : True:=by (k_with "kmem0"=>assumption);trivial
theorem allLt_mem {d : Nat} : ∀ {l : List (Addr × Obj)},AllLt d l → ∀ p ∈ l,p.1 < d
  | [],_,_,h=>nomatch h
  | _ :: _,x,p,h=>by
    rcases List.mem_cons.mp h with rfl | h
    · exact x.1
    · exact allLt_mem x.2 p h
theorem mkreg_c (B : Below A₀ base outer h₀) (F : Fr h₀ L hpS m) (X : (heapK w.params).In h₀) (N : News h₀ L hpS news) (T : Top viewK loose mean mg mb h₀) (hk : cs.kind = .function)
  {rg : Addr}
  (hd : dp + 6 < recursionLimit) (hu : un + 8 * 20 < cLine)
  
  (ret : ∀ (ro rod : Addr) (τ' : StT) h' tk',Fr h₀ L h' m → News h₀ L h' ((ro,instObj 602 rod) :: (rod,roDict w τ' rg) :: news) → Off (news) rod → Off ((rod,roDict w τ' rg) :: news) ro → Q (.ref ro) ⟨h',gnS,drS,tk',osS⟩) :
  wpAny (model PySem.Challenge.rw_qd0115_01.row.prog w) (ktrTop dp un gd cn cs L a ccd cl outer) (call (.ref 602) [.ref rg]) Q E ⟨hpS,gnS,drS,tkS,osS⟩:=by
  have hS : ∀ q ∈ ([] : List (Addr × Obj)),q ∈ news:=fun q h=>nomatch h
  k_steps
  all_goals (show Q _ _)
  rename Fr h₀ _ _ _=>nF
  rename News h₀ _ _ _=>nH
  rename (∀ p ∈ news,_ < _)=>l1
  rename (_ : Nat) < _=>l2
  exact ret _ _ ⟨_,_,_,0,0,0,0,0,0,0,0,0⟩ _ _ nF nH (fun q hq=>Nat.ne_of_lt (l1 q hq)) (off_cons (Nat.ne_of_lt l2) (fun q hq=>Nat.ne_of_lt (Nat.lt_trans (l1 q hq) l2)))
example : True:=by (k_with "call ref"=>(k_here;(with_reducible show wpAny _ _ (call (Value.ref 602) _ _) _ _ _);k_dflt (refine' mkreg_c ?k1 ?k2 ?k3 ?k4 ?k5 ?kK ?kd ?ku  ?_;walk_at "ks"; k_whole;intro ro' rod' τ' h' tk' F' N' hx0' hx1';(try k_sweep))));trivial

theorem mkmem_c (B : Below A₀ base outer h₀) (F : Fr h₀ L hpS m) (X : (heapK w.params).In h₀) (N : News h₀ L hpS news) (T : Top viewK loose mean mg mb h₀) (hk : cs.kind = .function)
  {rg : Addr} {disp size : Int} {t1 t2 t3 : Tok}
  (hd : dp + 6 < recursionLimit) (hu : un + 8 * 20 < cLine)
  
  (ret : ∀ (mo mod : Addr) (τ' : StT) (u v : Tok) h' tk',Fr h₀ L h' m → News h₀ L h' ((mo,instObj 689 mod) :: (mod,moDict w τ' rg disp size u v) :: news) → Off (news) mod → Off ((mod,moDict w τ' rg disp size u v) :: news) mo → Q (.ref mo) ⟨h',gnS,drS,tk',osS⟩) :
  wpAny (model PySem.Challenge.rw_qd0115_01.row.prog w) (ktrTop dp un gd cn cs L a ccd cl outer) (call (.ref 689) [.ref rg,.none,.int 1 t1,.int disp t2,.int size t3]) Q E ⟨hpS,gnS,drS,tkS,osS⟩:=by
  have hS : ∀ q ∈ ([] : List (Addr × Obj)),q ∈ news:=fun q h=>nomatch h
  k_steps
  all_goals (show Q _ _)
  rename Fr h₀ _ _ _=>nF
  rename News h₀ _ _ _=>nH
  rename (∀ p ∈ news,_ < _)=>l1
  rename (_ : Nat) < _=>l2
  exact ret _ _ ⟨_,_,_,_,_,_,_,_,_,_,_,_⟩ _ _ _ _ nF nH (fun q hq=>Nat.ne_of_lt (l1 q hq)) (off_cons (Nat.ne_of_lt l2) (fun q hq=>Nat.ne_of_lt (Nat.lt_trans (l1 q hq) l2)))
example : True:=by (k_with "call ref"=>(k_here;(with_reducible show wpAny _ _ (call (Value.ref 689) _ _) _ _ _);k_dflt (refine' mkmem_c ?k1 ?k2 ?k3 ?k4 ?k5 ?kK ?kd ?ku  ?_;walk_at "ks"; k_whole;intro mo' mod' τ' u' v' h' tk' F' N' hx0' hx1';(try k_sweep))));trivial

theorem mkimm_c (B : Below A₀ base outer h₀) (F : Fr h₀ L hpS m) (X : (heapK w.params).In h₀) (N : News h₀ L hpS news) (T : Top viewK loose mean mg mb h₀) (hk : cs.kind = .function)
  {y : Int} {t1 : Tok}
  (hd : dp + 6 < recursionLimit) (hu : un + 8 * 20 < cLine)
  
  (ret : ∀ (io iod : Addr) (τ' : StT) h' tk',Fr h₀ L h' m → News h₀ L h' ((io,instObj 636 iod) :: (iod,ioDict w τ' y) :: news) → Off (news) iod → Off ((iod,ioDict w τ' y) :: news) io → Q (.ref io) ⟨h',gnS,drS,tk',osS⟩) :
  wpAny (model PySem.Challenge.rw_qd0115_01.row.prog w) (ktrTop dp un gd cn cs L a ccd cl outer) (call (.ref 636) [.int y t1]) Q E ⟨hpS,gnS,drS,tkS,osS⟩:=by
  have hS : ∀ q ∈ ([] : List (Addr × Obj)),q ∈ news:=fun q h=>nomatch h
  k_steps
  all_goals (show Q _ _)
  rename Fr h₀ _ _ _=>nF
  rename News h₀ _ _ _=>nH
  rename (∀ p ∈ news,_ < _)=>l1
  rename (_ : Nat) < _=>l2
  exact ret _ _ ⟨_,_,_,_,_,_,0,0,0,0,0,0⟩ _ _ nF nH (fun q hq=>Nat.ne_of_lt (l1 q hq)) (off_cons (Nat.ne_of_lt l2) (fun q hq=>Nat.ne_of_lt (Nat.lt_trans (l1 q hq) l2)))
example : True:=by (k_with "call ref"=>(k_here;(with_reducible show wpAny _ _ (call (Value.ref 636) _ _) _ _ _);k_dflt (refine' mkimm_c ?k1 ?k2 ?k3 ?k4 ?k5 ?kK ?kd ?ku  ?_;walk_at "ks"; k_whole;intro io' iod' τ' h' tk' F' N' hx0' hx1';(try k_sweep))));trivial

theorem mkins0_c (B : Below A₀ base outer h₀) (F : Fr h₀ L hpS m) (X : (heapK w.params).In h₀) (N : News h₀ L hpS news) (T : Top viewK loose mean mg mb h₀) (hk : cs.kind = .function)
  {nm : Str} {t1 : Tok} {ol : Addr} {n : Nat}
  (hd : dp + 6 < recursionLimit) (hu : un + 8 * 20 < cLine)
  (hol : (ol,W.listOf #[] n) ∈ news)
  (ret : ∀ (tp ins isd : Addr) (τ' : StT) h' tk',Fr h₀ L h' m → News h₀ L h' ((tp,tupObj []) :: (ins,instObj 742 isd) :: (isd,insDict w τ' nm tp "") :: news) → Off (news) isd → Off ((isd,insDict w τ' nm tp "") :: news) ins → Off ((ins,instObj 742 isd) :: (isd,insDict w τ' nm tp "") :: news) tp → Q (.ref ins) ⟨h',gnS,drS,tk',osS⟩) :
  wpAny (model PySem.Challenge.rw_qd0115_01.row.prog w) (ktrTop dp un gd cn cs L a ccd cl outer) (call (.ref 742) [.str nm t1,.ref ol]) Q E ⟨hpS,gnS,drS,tkS,osS⟩:=by
  have hS : ∀ q ∈ [(ol,W.listOf #[] n)],q ∈ news:=by
    walk_at "hs in"
  k_steps
  all_goals (show Q _ _)
  rename Fr h₀ _ _ _=>nF
  rename News h₀ _ _ _=>nH
  rename (_ ∧ _ ∧ AllLt _ news)=>l3
  rename (∀ p ∈ news,_ < _)=>l1
  rename (_ : Nat) < _=>l2
  exact ret _ _ _ ⟨_,_,_,_,_,0,0,0,0,0,0,0⟩ _ _ nF nH (fun q hq=>Nat.ne_of_lt (l1 q hq)) (off_cons (Nat.ne_of_lt l2) (fun q hq=>Nat.ne_of_lt (Nat.lt_trans (l1 q hq) l2))) (off_cons (Nat.ne_of_lt l3.1) (off_cons (Nat.ne_of_lt l3.2.1) (fun q hq=>Nat.ne_of_lt (allLt_mem l3.2.2 q hq))))
example : True:=by (k_with "call ref"=>(k_here;(with_reducible show wpAny _ _ (call (Value.ref 742) _ _) _ _ _);k_dflt (refine' mkins0_c ?k1 ?k2 ?k3 ?k4 ?k5 ?kK ?kd ?ku ?m0 ?_;walk_at "ks";(case m0=>k_mem);k_whole;intro tp' ins' isd' τ' h' tk' F' N' hx0' hx1' hx2';(try k_sweep))));trivial

theorem mkins1_c (B : Below A₀ base outer h₀) (F : Fr h₀ L hpS m) (X : (heapK w.params).In h₀) (N : News h₀ L hpS news) (T : Top viewK loose mean mg mb h₀) (hk : cs.kind = .function)
  {nm : Str} {t1 : Tok} {ol : Addr} {n : Nat} {u1 : Addr}
  (hd : dp + 6 < recursionLimit) (hu : un + 8 * 20 < cLine)
  (hol : (ol,W.listOf #[.ref u1] n) ∈ news)
  (ret : ∀ (tp ins isd : Addr) (τ' : StT) h' tk',Fr h₀ L h' m → News h₀ L h' ((tp,tupObj [.ref u1]) :: (ins,instObj 742 isd) :: (isd,insDict w τ' nm tp "") :: news) → Off (news) isd → Off ((isd,insDict w τ' nm tp "") :: news) ins → Off ((ins,instObj 742 isd) :: (isd,insDict w τ' nm tp "") :: news) tp → Q (.ref ins) ⟨h',gnS,drS,tk',osS⟩) :
  wpAny (model PySem.Challenge.rw_qd0115_01.row.prog w) (ktrTop dp un gd cn cs L a ccd cl outer) (call (.ref 742) [.str nm t1,.ref ol]) Q E ⟨hpS,gnS,drS,tkS,osS⟩:=by
  have hS : ∀ q ∈ [(ol,W.listOf #[.ref u1] n)],q ∈ news:=by
    walk_at "hs in"
  k_steps
  all_goals (show Q _ _)
  rename Fr h₀ _ _ _=>nF
  rename News h₀ _ _ _=>nH
  rename (_ ∧ _ ∧ AllLt _ news)=>l3
  rename (∀ p ∈ news,_ < _)=>l1
  rename (_ : Nat) < _=>l2
  exact ret _ _ _ ⟨_,_,_,_,_,0,0,0,0,0,0,0⟩ _ _ nF nH (fun q hq=>Nat.ne_of_lt (l1 q hq)) (off_cons (Nat.ne_of_lt l2) (fun q hq=>Nat.ne_of_lt (Nat.lt_trans (l1 q hq) l2))) (off_cons (Nat.ne_of_lt l3.1) (off_cons (Nat.ne_of_lt l3.2.1) (fun q hq=>Nat.ne_of_lt (allLt_mem l3.2.2 q hq))))
example : True:=by (k_with "call ref"=>(k_here;(with_reducible show wpAny _ _ (call (Value.ref 742) _ _) _ _ _);k_dflt (refine' mkins1_c ?k1 ?k2 ?k3 ?k4 ?k5 ?kK ?kd ?ku ?m0 ?_;walk_at "ks";(case m0=>k_mem);k_whole;intro tp' ins' isd' τ' h' tk' F' N' hx0' hx1' hx2';(try k_sweep))));trivial

theorem mkins2_c (B : Below A₀ base outer h₀) (F : Fr h₀ L hpS m) (X : (heapK w.params).In h₀) (N : News h₀ L hpS news) (T : Top viewK loose mean mg mb h₀) (hk : cs.kind = .function)
  {nm : Str} {t1 : Tok} {ol : Addr} {n : Nat} {u1 u2 : Addr}
  (hd : dp + 6 < recursionLimit) (hu : un + 8 * 20 < cLine)
  (hol : (ol,W.listOf #[.ref u1,.ref u2] n) ∈ news)
  (ret : ∀ (tp ins isd : Addr) (τ' : StT) h' tk',Fr h₀ L h' m → News h₀ L h' ((tp,tupObj [.ref u1,.ref u2]) :: (ins,instObj 742 isd) :: (isd,insDict w τ' nm tp "") :: news) → Off (news) isd → Off ((isd,insDict w τ' nm tp "") :: news) ins → Off ((ins,instObj 742 isd) :: (isd,insDict w τ' nm tp "") :: news) tp → Q (.ref ins) ⟨h',gnS,drS,tk',osS⟩) :
  wpAny (model PySem.Challenge.rw_qd0115_01.row.prog w) (ktrTop dp un gd cn cs L a ccd cl outer) (call (.ref 742) [.str nm t1,.ref ol]) Q E ⟨hpS,gnS,drS,tkS,osS⟩:=by
  have hS : ∀ q ∈ [(ol,W.listOf #[.ref u1,.ref u2] n)],q ∈ news:=by
    walk_at "hs in"
  k_steps
  all_goals (show Q _ _)
  rename Fr h₀ _ _ _=>nF
  rename News h₀ _ _ _=>nH
  rename (_ ∧ _ ∧ AllLt _ news)=>l3
  rename (∀ p ∈ news,_ < _)=>l1
  rename (_ : Nat) < _=>l2
  exact ret _ _ _ ⟨_,_,_,_,_,0,0,0,0,0,0,0⟩ _ _ nF nH (fun q hq=>Nat.ne_of_lt (l1 q hq)) (off_cons (Nat.ne_of_lt l2) (fun q hq=>Nat.ne_of_lt (Nat.lt_trans (l1 q hq) l2))) (off_cons (Nat.ne_of_lt l3.1) (off_cons (Nat.ne_of_lt l3.2.1) (fun q hq=>Nat.ne_of_lt (allLt_mem l3.2.2 q hq))))
example : True:=by (k_with "call ref"=>(k_here;(with_reducible show wpAny _ _ (call (Value.ref 742) _ _) _ _ _);k_dflt (refine' mkins2_c ?k1 ?k2 ?k3 ?k4 ?k5 ?kK ?kd ?ku ?m0 ?_;walk_at "ks";(case m0=>k_mem);k_whole;intro tp' ins' isd' τ' h' tk' F' N' hx0' hx1' hx2';(try k_sweep))));trivial

theorem mkinsp_c (B : Below A₀ base outer h₀) (F : Fr h₀ L hpS m) (X : (heapK w.params).In h₀) (N : News h₀ L hpS news) (T : Top viewK loose mean mg mb h₀) (hk : cs.kind = .function)
  {nm pf : Str} {t1 t2 : Tok} {ol : Addr} {n : Nat}
  (hd : dp + 6 < recursionLimit) (hu : un + 8 * 20 < cLine)
  (hol : (ol,W.listOf #[] n) ∈ news)
  (ret : ∀ (tp ins isd : Addr) (τ' : StT) h' tk',Fr h₀ L h' m → News h₀ L h' ((tp,tupObj []) :: (ins,instObj 742 isd) :: (isd,insDict w τ' nm tp pf) :: news) → Off (news) isd → Off ((isd,insDict w τ' nm tp pf) :: news) ins → Off ((ins,instObj 742 isd) :: (isd,insDict w τ' nm tp pf) :: news) tp → Q (.ref ins) ⟨h',gnS,drS,tk',osS⟩) :
  wpAny (model PySem.Challenge.rw_qd0115_01.row.prog w) (ktrTop dp un gd cn cs L a ccd cl outer) (call (.ref 742) [.str nm t1,.ref ol,.str pf t2]) Q E ⟨hpS,gnS,drS,tkS,osS⟩:=by
  have hS : ∀ q ∈ [(ol,W.listOf #[] n)],q ∈ news:=by
    walk_at "hs in"
  k_steps
  all_goals (show Q _ _)
  rename Fr h₀ _ _ _=>nF
  rename News h₀ _ _ _=>nH
  rename (_ ∧ _ ∧ AllLt _ news)=>l3
  rename (∀ p ∈ news,_ < _)=>l1
  rename (_ : Nat) < _=>l2
  exact ret _ _ _ ⟨_,_,_,_,_,0,0,0,0,0,0,0⟩ _ _ nF nH (fun q hq=>Nat.ne_of_lt (l1 q hq)) (off_cons (Nat.ne_of_lt l2) (fun q hq=>Nat.ne_of_lt (Nat.lt_trans (l1 q hq) l2))) (off_cons (Nat.ne_of_lt l3.1) (off_cons (Nat.ne_of_lt l3.2.1) (fun q hq=>Nat.ne_of_lt (allLt_mem l3.2.2 q hq))))
example : True:=by (k_with "call ref"=>(k_here;(with_reducible show wpAny _ _ (call (Value.ref 742) _ _) _ _ _);k_dflt (refine' mkinsp_c ?k1 ?k2 ?k3 ?k4 ?k5 ?kK ?kd ?ku ?m0 ?_;walk_at "ks";(case m0=>k_mem);k_whole;intro tp' ins' isd' τ' h' tk' F' N' hx0' hx1' hx2';(try k_sweep))));trivial
section
 local macro_rules | `(tactic| k_lt $h) => `(tactic| replace $h := off_lt0 $h)
theorem ne_pen {h₀ h : Heap} {L pa a : Addr} {nn : List (Addr × Obj)} {o oP : Obj} {kP : Nat} (N : News h₀ L h nn) (ha : (a,o) ∈ nn) (hpa : (pa,oP) ∈ nn) (hP : IsPen kP oP) (hc : o.cls ≠ .type "list") : a ≠ pa:=by
  cases hP
  exact ne_of_cls N ha hpa hc
theorem mem4i {v : Value} {a b c d : Int} {t1 t2 t3 t4 : Tok} (h : v ∈ [.int a t1,.int b t2,.int c t3,.int d t4]) : ∃ n t,v = .int n t ∧ (n = d ∨ n = c ∨ n = b ∨ n = a):=by
  simp only [List.mem_cons,List.not_mem_nil,or_false] at h
  rcases h with rfl | rfl | rfl | rfl <;> exact ⟨_,_,rfl,by simp⟩
theorem mem5i {v : Value} {a b c d e : Int} {t1 t2 t3 t4 t5 : Tok} (h : v ∈ [.int a t1,.int b t2,.int c t3,.int d t4,.int e t5]) : ∃ n t,v = .int n t ∧ (n = a ∨ n = b ∨ n = c ∨ n = d ∨ n = e):=by
  simp only [List.mem_cons,List.not_mem_nil,or_false] at h
  rcases h with rfl | rfl | rfl | rfl | rfl <;> exact ⟨_,_,rfl,by simp⟩
theorem mem2s {v : Value} {a b : Str} {t1 t2 : Tok} (h : v ∈ [.str a t1,.str b t2]) : ∃ n t,v = .str n t ∧ (n = a ∨ n = b):=by
  simp only [List.mem_cons,List.not_mem_nil,or_false] at h
  rcases h with rfl | rfl <;> exact ⟨_,_,rfl,by simp⟩
theorem mem5s {v : Value} {a b c d e : Str} {t1 t2 t3 t4 t5 : Tok} (h : v ∈ [.str a t1,.str b t2,.str c t3,.str d t4,.str e t5]) : ∃ n t,v = .str n t ∧ (n = a ∨ n = b ∨ n = c ∨ n = d ∨ n = e):=by
  simp only [List.mem_cons,List.not_mem_nil,or_false] at h
  rcases h with rfl | rfl | rfl | rfl | rfl <;> exact ⟨_,_,rfl,by simp⟩
theorem vAt_hit {r : List (Value × Value)} {k : Int} {t : Tok} {v : Value} : valueAt (intKeyPairs ((.int k t,v) :: r)) k = some v:=by
  simp [valueAt,intKeyPairs]
theorem vAt_miss {r : List (Value × Value)} {k k' : Int} {t : Tok} {v : Value} {x : Option Value} (h : k' ≠ k) (e : valueAt (intKeyPairs r) k = x) : valueAt (intKeyPairs ((.int k' t,v) :: r)) k = x:=by
  rw [← e]
  simp [valueAt,intKeyPairs,h]
theorem str5 {x : Str} (hx : x = "movs" ∨ x = "stos" ∨ x = "lods" ∨ x = "cmps" ∨ x = "scas") : x.length ≤ 5:=by
  rcases hx with rfl | rfl | rfl | rfl | rfl <;> decide
theorem str_room {x c : Str} (h : x.length ≤ 5) (h2 : c.length ≤ 5) : x.length + c.length ≤ sizeLine:=by
  rw [sizeLine_eq];omega
noncomputable def RowF (w : World) (nn : List (Addr × Obj)) (pa ins : Addr) : Prop:=∃ nl r,(∀ p ∈ nl,p ∈ nn ∧ p.1 ≠ pa) ∧ RowAt w nl ins r
theorem nl_ok {nn : List (Addr × Obj)} {pa : Addr} : ∀ p ∈ nn.filter (fun p=>p.1 != pa),p ∈ nn ∧ p.1 ≠ pa:=fun p hp=>⟨(List.mem_filter.mp hp).1,by simpa using (List.mem_filter.mp hp).2⟩
theorem nl_in {h₀ h : Heap} {L pa : Addr} {nn : List (Addr × Obj)} {p : Addr × Obj} {oP : Obj} {kP : Nat} (N : News h₀ L h nn) (hpa : (pa,oP) ∈ nn) (hP : IsPen kP oP) (ha : p ∈ nn) (hc : p.2.cls ≠ .type "list") : p ∈ nn.filter (fun p=>p.1 != pa):=List.mem_filter.mpr ⟨ha,by simpa using ne_pen N ha hpa hP hc⟩
theorem okZ4 {z : Int} (h : z = 8 ∨ z = 16 ∨ z = 32 ∨ z = 64) : OkZ z:=by unfold OkZ;omega
theorem okN5 {n : Int} (h : n = 0 ∨ n = 1 ∨ n = 2 ∨ n = 6 ∨ n = 7) : OkN n:=by unfold OkN;omega
theorem rowF_movrm {nn : List (Addr × Obj)} {pa : Addr} {ins isd tp ro rod rg rd mo mod brg brd : Addr} {τi τo τ' τm τb : StT} {rn bn : Value} {n z d : Int} {u1 u2 : Tok} {h₀ h : Heap} {L : Addr} {oP : Obj} {kP : Nat} (nH : News h₀ L h nn)
  (a0 : (tp,tupObj [.ref ro,.ref mo]) ∈ nn)
  (a1 : (ins,instObj 742 isd) ∈ nn)
  (a2 : (isd,insDict w τi "mov" tp "") ∈ nn)
  (a3 : (ro,instObj 602 rod) ∈ nn)
  (a4 : (rod,roDict w τo rg) ∈ nn)
  (a5 : (rg,instObj 279 rd) ∈ nn)
  (a6 : (rd,rgDict w τ' rn n z) ∈ nn)
  (a7 : (mo,instObj 689 mod) ∈ nn)
  (a8 : (mod,moDict w τm brg d z u1 u2) ∈ nn)
  (a9 : (brg,instObj 279 brd) ∈ nn)
  (a10 : (brd,rgDict w τb bn 7 64) ∈ nn)
  (hpa : (pa,oP) ∈ nn) (hP : IsPen kP oP)
  (hn : OkN n) (hz : OkZ z) : RowF w nn pa ins:=by
  have f : ∀ {p : Addr × Obj},p ∈ nn → p.2.cls ≠ .type "list" → p ∈ nn.filter (fun p=>p.1 != pa):=fun ha hc=>nl_in nH hpa hP ha hc
  exact ⟨_,_,nl_ok,.movrm n z d ro mo hn hz ⟨isd,tp,τi,(f a1 (by walk_at "cls")),(f a2 (by walk_at "cls")),(f a0 (by walk_at "cls"))⟩ ⟨rod,rg,rd,τo,τ',rn,(f a3 (by walk_at "cls")),(f a4 (by walk_at "cls")),(f a5 (by walk_at "cls")),(f a6 (by walk_at "cls"))⟩ ⟨mod,brg,brd,τm,τb,bn,u1,u2,(f a9 (by walk_at "cls")),(f a10 (by walk_at "cls")),(f a7 (by walk_at "cls")),(f a8 (by walk_at "cls"))⟩⟩
theorem rowF_movmi {nn : List (Addr × Obj)} {pa : Addr} {ins isd tp mo mod brg brd io iod : Addr} {τi τo τm τb : StT} {bn : Value} {z d y : Int} {u1 u2 : Tok} {h₀ h : Heap} {L : Addr} {oP : Obj} {kP : Nat} (nH : News h₀ L h nn)
  (a0 : (tp,tupObj [.ref mo,.ref io]) ∈ nn)
  (a1 : (ins,instObj 742 isd) ∈ nn)
  (a2 : (isd,insDict w τi "mov" tp "") ∈ nn)
  (a3 : (io,instObj 636 iod) ∈ nn)
  (a4 : (iod,ioDict w τo y) ∈ nn)
  (a5 : (mo,instObj 689 mod) ∈ nn)
  (a6 : (mod,moDict w τm brg d z u1 u2) ∈ nn)
  (a7 : (brg,instObj 279 brd) ∈ nn)
  (a8 : (brd,rgDict w τb bn 7 64) ∈ nn)
  (hpa : (pa,oP) ∈ nn) (hP : IsPen kP oP)
  (hz : OkZ z) : RowF w nn pa ins:=by
  have f : ∀ {p : Addr × Obj},p ∈ nn → p.2.cls ≠ .type "list" → p ∈ nn.filter (fun p=>p.1 != pa):=fun ha hc=>nl_in nH hpa hP ha hc
  exact ⟨_,_,nl_ok,.movmi z d y mo io hz ⟨isd,tp,τi,(f a1 (by walk_at "cls")),(f a2 (by walk_at "cls")),(f a0 (by walk_at "cls"))⟩ ⟨mod,brg,brd,τm,τb,bn,u1,u2,(f a7 (by walk_at "cls")),(f a8 (by walk_at "cls")),(f a5 (by walk_at "cls")),(f a6 (by walk_at "cls"))⟩ ⟨iod,τo,(f a3 (by walk_at "cls")),(f a4 (by walk_at "cls"))⟩⟩
theorem rowF_pp {nn : List (Addr × Obj)} {pa : Addr} {ins isd tp ro rod rg rd : Addr} {τi τo τ' : StT} {rn : Value} {n : Int} {nm : Str} {h₀ h : Heap} {L : Addr} {oP : Obj} {kP : Nat} (nH : News h₀ L h nn)
  (a0 : (tp,tupObj [.ref ro]) ∈ nn)
  (a1 : (ins,instObj 742 isd) ∈ nn)
  (a2 : (isd,insDict w τi nm tp "") ∈ nn)
  (a3 : (ro,instObj 602 rod) ∈ nn)
  (a4 : (rod,roDict w τo rg) ∈ nn)
  (a5 : (rg,instObj 279 rd) ∈ nn)
  (a6 : (rd,rgDict w τ' rn n 64) ∈ nn)
  (hpa : (pa,oP) ∈ nn) (hP : IsPen kP oP)
  (hn : OkN n) (hnm : nm = "push" ∨ nm = "pop") : RowF w nn pa ins:=by
  have f : ∀ {p : Addr × Obj},p ∈ nn → p.2.cls ≠ .type "list" → p ∈ nn.filter (fun p=>p.1 != pa):=fun ha hc=>nl_in nH hpa hP ha hc
  rcases hnm with rfl | rfl
  · exact ⟨_,_,nl_ok,.push n ro hn ⟨isd,tp,τi,(f a1 (by walk_at "cls")),(f a2 (by walk_at "cls")),(f a0 (by walk_at "cls"))⟩ ⟨rod,rg,rd,τo,τ',rn,(f a3 (by walk_at "cls")),(f a4 (by walk_at "cls")),(f a5 (by walk_at "cls")),(f a6 (by walk_at "cls"))⟩⟩
  · exact ⟨_,_,nl_ok,.pop n ro hn ⟨isd,tp,τi,(f a1 (by walk_at "cls")),(f a2 (by walk_at "cls")),(f a0 (by walk_at "cls"))⟩ ⟨rod,rg,rd,τo,τ',rn,(f a3 (by walk_at "cls")),(f a4 (by walk_at "cls")),(f a5 (by walk_at "cls")),(f a6 (by walk_at "cls"))⟩⟩
theorem rowF_xchg {nn : List (Addr × Obj)} {pa : Addr} {ins isd tp ro rod rg rd mo mod brg brd : Addr} {τi τo τ' τm τb : StT} {rn bn : Value} {n z d : Int} {u1 u2 : Tok} {h₀ h : Heap} {L : Addr} {oP : Obj} {kP : Nat} (nH : News h₀ L h nn)
  (a0 : (tp,tupObj [.ref mo,.ref ro]) ∈ nn)
  (a1 : (ins,instObj 742 isd) ∈ nn)
  (a2 : (isd,insDict w τi "xchg" tp "") ∈ nn)
  (a3 : (ro,instObj 602 rod) ∈ nn)
  (a4 : (rod,roDict w τo rg) ∈ nn)
  (a5 : (rg,instObj 279 rd) ∈ nn)
  (a6 : (rd,rgDict w τ' rn n z) ∈ nn)
  (a7 : (mo,instObj 689 mod) ∈ nn)
  (a8 : (mod,moDict w τm brg d z u1 u2) ∈ nn)
  (a9 : (brg,instObj 279 brd) ∈ nn)
  (a10 : (brd,rgDict w τb bn 7 64) ∈ nn)
  (hpa : (pa,oP) ∈ nn) (hP : IsPen kP oP)
  (hn : OkN n) (hz : OkZ z) : RowF w nn pa ins:=by
  have f : ∀ {p : Addr × Obj},p ∈ nn → p.2.cls ≠ .type "list" → p ∈ nn.filter (fun p=>p.1 != pa):=fun ha hc=>nl_in nH hpa hP ha hc
  exact ⟨_,_,nl_ok,.xchg n z d ro mo hn hz ⟨isd,tp,τi,(f a1 (by walk_at "cls")),(f a2 (by walk_at "cls")),(f a0 (by walk_at "cls"))⟩ ⟨rod,rg,rd,τo,τ',rn,(f a3 (by walk_at "cls")),(f a4 (by walk_at "cls")),(f a5 (by walk_at "cls")),(f a6 (by walk_at "cls"))⟩ ⟨mod,brg,brd,τm,τb,bn,u1,u2,(f a9 (by walk_at "cls")),(f a10 (by walk_at "cls")),(f a7 (by walk_at "cls")),(f a8 (by walk_at "cls"))⟩⟩
theorem rowF_lea {nn : List (Addr × Obj)} {pa : Addr} {ins isd tp ro rod rg rd mo mod brg brd : Addr} {τi τo τ' τm τb : StT} {rn bn : Value} {n z d : Int} {u1 u2 : Tok} {h₀ h : Heap} {L : Addr} {oP : Obj} {kP : Nat} (nH : News h₀ L h nn)
  (a0 : (tp,tupObj [.ref ro,.ref mo]) ∈ nn)
  (a1 : (ins,instObj 742 isd) ∈ nn)
  (a2 : (isd,insDict w τi "lea" tp "") ∈ nn)
  (a3 : (ro,instObj 602 rod) ∈ nn)
  (a4 : (rod,roDict w τo rg) ∈ nn)
  (a5 : (rg,instObj 279 rd) ∈ nn)
  (a6 : (rd,rgDict w τ' rn n 64) ∈ nn)
  (a7 : (mo,instObj 689 mod) ∈ nn)
  (a8 : (mod,moDict w τm brg d z u1 u2) ∈ nn)
  (a9 : (brg,instObj 279 brd) ∈ nn)
  (a10 : (brd,rgDict w τb bn 7 64) ∈ nn)
  (hpa : (pa,oP) ∈ nn) (hP : IsPen kP oP)
  (hn : OkN n) (hz : OkZ z) : RowF w nn pa ins:=by
  have f : ∀ {p : Addr × Obj},p ∈ nn → p.2.cls ≠ .type "list" → p ∈ nn.filter (fun p=>p.1 != pa):=fun ha hc=>nl_in nH hpa hP ha hc
  exact ⟨_,_,nl_ok,.lea n z d ro mo hn hz ⟨isd,tp,τi,(f a1 (by walk_at "cls")),(f a2 (by walk_at "cls")),(f a0 (by walk_at "cls"))⟩ ⟨rod,rg,rd,τo,τ',rn,(f a3 (by walk_at "cls")),(f a4 (by walk_at "cls")),(f a5 (by walk_at "cls")),(f a6 (by walk_at "cls"))⟩ ⟨mod,brg,brd,τm,τb,bn,u1,u2,(f a9 (by walk_at "cls")),(f a10 (by walk_at "cls")),(f a7 (by walk_at "cls")),(f a8 (by walk_at "cls"))⟩⟩
theorem sz4 {x y c n1 n2 n3 n4 : Str} {z : Int} (e : x = y) (hc : (z = 8 ∧ c = "b") ∨ (z = 16 ∧ c = "w") ∨ (z = 32 ∧ c = "d") ∨ (z = 64 ∧ c = "q")) (e1 : y ++ "b" = n1) (e2 : y ++ "w" = n2) (e3 : y ++ "d" = n3) (e4 : y ++ "q" = n4) : (z = 8 ∧ x ++ c = n1) ∨ (z = 16 ∧ x ++ c = n2) ∨ (z = 32 ∧ x ++ c = n3) ∨ (z = 64 ∧ x ++ c = n4):=by
  subst e
  exact hc.imp (And.imp_right fun h=>by rw [h];exact e1) (Or.imp (And.imp_right fun h=>by rw [h];exact e2) (Or.imp (And.imp_right fun h=>by rw [h];exact e3) (And.imp_right fun h=>by rw [h];exact e4)))
theorem rowF_str {nn : List (Addr × Obj)} {pa : Addr} {ins isd tp : Addr} {τi : StT} {z : Int} {x c : Str} {h₀ h : Heap} {L : Addr} {oP : Obj} {kP : Nat} (nH : News h₀ L h nn)
  (a0 : (tp,tupObj []) ∈ nn)
  (a1 : (ins,instObj 742 isd) ∈ nn)
  (a2 : (isd,insDict w τi (x ++ c) tp "") ∈ nn)
  (hpa : (pa,oP) ∈ nn) (hP : IsPen kP oP)
  (hx : x = "movs" ∨ x = "stos" ∨ x = "lods" ∨ x = "cmps" ∨ x = "scas") (hc : (z = 8 ∧ c = "b") ∨ (z = 16 ∧ c = "w") ∨ (z = 32 ∧ c = "d") ∨ (z = 64 ∧ c = "q")) : RowF w nn pa ins:=by
  have f : ∀ {p : Addr × Obj},p ∈ nn → p.2.cls ≠ .type "list" → p ∈ nn.filter (fun p=>p.1 != pa):=fun ha hc=>nl_in nH hpa hP ha hc
  have hi : ∀ nm,nm = x ++ c → InsAt w (nn.filter (fun p=>p.1 != pa)) ins nm "" []:=fun nm e=>⟨isd,tp,τi,(f a1 (by walk_at "cls")),e ▸ (f a2 (by walk_at "cls")),(f a0 (by walk_at "cls"))⟩
  rcases hx with e | e | e | e | e
  · exact ⟨_,_,nl_ok,.movs z _ (sz4 e hc (by decide) (by decide) (by decide) (by decide)) (hi _ rfl)⟩
  · exact ⟨_,_,nl_ok,.stos z _ (sz4 e hc (by decide) (by decide) (by decide) (by decide)) (hi _ rfl)⟩
  · exact ⟨_,_,nl_ok,.lods z _ (sz4 e hc (by decide) (by decide) (by decide) (by decide)) (hi _ rfl)⟩
  · exact ⟨_,_,nl_ok,.cmps z _ (sz4 e hc (by decide) (by decide) (by decide) (by decide)) (hi _ rfl)⟩
  · exact ⟨_,_,nl_ok,.scas z _ (sz4 e hc (by decide) (by decide) (by decide) (by decide)) (hi _ rfl)⟩
theorem news_app {h₀ h : Heap} {L : Addr} {nl nn l : List (Addr × Obj)} (N' : News h₀ L h nn) (hs : ∀ p ∈ nl,p ∈ nn) (N : News h₀ L h l) : News h₀ L h (nl ++ l):=fun p hp=>by
  rcases List.mem_append.mp hp with hp | hp
  · exact N' _ (hs p hp)
  · exact N _ hp
theorem row_lit {h₀ h : Heap} {L pa mo mod brg brd ro rod rg rd : Addr} {x1 x0 : Addr × Obj} {τm τb τo τ' : StT} {bn rn : Value} {disp msz number size : Int} {u1 u2 : Tok} {oP : Obj}
  (N : News h₀ L h [x0,(mo,instObj 689 mod),(mod,moDict w τm brg disp msz u1 u2),(brg,instObj 279 brd),(brd,rgDict w τb bn 7 64),(ro,instObj 602 rod),(rod,roDict w τo rg),(rg,instObj 279 rd),(rd,rgDict w τ' rn number size),x1,(pa,oP)]) : News h₀ L h [(mo,instObj 689 mod),(mod,moDict w τm brg disp msz u1 u2),(brg,instObj 279 brd),(brd,rgDict w τb bn 7 64),(ro,instObj 602 rod),(rod,roDict w τo rg),(rg,instObj 279 rd),(rd,rgDict w τ' rn number size),(pa,oP)] :=
  news_part N (hsi_cons (by k_mem) (hsi_cons (by k_mem) (hsi_cons (by k_mem) (hsi_cons (by k_mem) (hsi_cons (by k_mem) (hsi_cons (by k_mem) (hsi_cons (by k_mem) (hsi_cons (by k_mem) (hsi_cons (by k_mem) hsi_nil)))))))))
theorem vAt4 {z : Int} {t1 t2 t3 t4 k1 k2 k3 k4 : Tok} (h : z = 8 ∨ z = 16 ∨ z = 32 ∨ z = 64) : ∃ (c : Str) (t : Tok),valueAt (intKeyPairs [(.int 64 k1,.str "q" t1),(.int 32 k2,.str "d" t2),(.int 16 k3,.str "w" t3),(.int 8 k4,.str "b" t4)]) z = some (.str c t) ∧ c.length ≤ 5 ∧ ((z = 8 ∧ c = "b") ∨ (z = 16 ∧ c = "w") ∨ (z = 32 ∧ c = "d") ∨ (z = 64 ∧ c = "q")):=by
  rcases h with rfl | rfl | rfl | rfl
  · exact ⟨_,_,vAt_miss (by decide) (vAt_miss (by decide) (vAt_miss (by decide) vAt_hit)),by decide,.inl ⟨rfl,rfl⟩⟩
  · exact ⟨_,_,vAt_miss (by decide) (vAt_miss (by decide) vAt_hit),by decide,.inr (.inl ⟨rfl,rfl⟩)⟩
  · exact ⟨_,_,vAt_miss (by decide) vAt_hit,by decide,.inr (.inr (.inl ⟨rfl,rfl⟩))⟩
  · exact ⟨_,_,vAt_hit,by decide,.inr (.inr (.inr ⟨rfl,rfl⟩))⟩
theorem dict4_get {A : Around} {d : Addr} {o : Obj} {z : Int} {u t1 t2 t3 t4 k1 k2 k3 k4 : Tok} (N : News h₀ L hpS news) (hp : (d,o) ∈ news) (hd : o.IsDictOf (PySem.intKind PySem.Challenge.rw_qd0115_01.row.prog w) (intKeyPairs [(.int 64 k1,.str "q" t1),(.int 32 k2,.str "d" t2),(.int 16 k3,.str "w" t3),(.int 8 k4,.str "b" t4)]))
    (hz : z = 8 ∨ z = 16 ∨ z = 32 ∨ z = 64) (h : ∀ (c : Str) (t : Tok),c.length ≤ 5 → ((z = 8 ∧ c = "b") ∨ (z = 16 ∧ c = "w") ∨ (z = 32 ∧ c = "d") ∨ (z = 64 ∧ c = "q")) → Q (.str c t) ⟨hpS,gnS,drS,tkS + 1,osS⟩) :
    wpAny (model PySem.Challenge.rw_qd0115_01.row.prog w) A (getItem (.ref d) (.int z u)) Q E ⟨hpS,gnS,drS,tkS,osS⟩:=by
  obtain ⟨c,t,e,hl,r⟩:=vAt4 (t1:=t1) (t2:=t2) (t3:=t3) (t4:=t4) (k1:=k1) (k2:=k2) (k3:=k3) (k4:=k4) hz
  exact kdt_getItem (knd:=PySem.intKind _ _) N hp hd (intKind_is _ _ _ _) e (h c t hl r)
theorem row_fin {pa L' ins : Addr} {k k' : Nat} {o o' : Obj} {g : Obj → List (Addr × Obj)} {nn : List (Addr × Obj)} {g' h' : Heap} {tk' : Nat}
  (R : RowF w nn pa ins) (nH : News h₀ L h' nn) (nG : News g' L' h' nn) (N : News h₀ L hpS news) (U : UpdF pa o news g) (hK : Kept hpS h' [(pa,o)]) (hS : ∀ q ∈ [(pa,o)],q ∈ news) (hG' : ∀ b oo,hpS.get? b = some oo → (∀ p ∈ [(pa,o)],p.1 ≠ b) → g'.get? b = some oo) (ho : (pa,o') ∈ nn) (F : Fr h₀ L h' m) (hP : IsPen k' o') (hk : k' ≤ k + 5)
  (ret : ∀ ins nl o' r h' tk',Fr h₀ L h' m → News h₀ L h' (nl ++ g o') → IsPen (k + 5) o' → RowAt w nl ins r → (∀ p ∈ nl,Off news p.1) → Q (.ref ins) ⟨h',gnS,drS,tk',osS⟩) : Q (.ref ins) ⟨h',gnS,drS,tk',osS⟩:=by
  obtain ⟨nl,r,hsub,hrow⟩:=R
  exact ret _ nl _ r _ _ F (news_app nH (fun p hp=>(hsub p hp).1) (news_upd1 U N hK hS nH ho (by walk_at "hs all"))) (hP.le hk) hrow (fun p hp=>ne_alloc N hG' nG (hsub p hp).1 (fun q hq=>by rw [List.mem_singleton.mp hq];exact Ne.symm (hsub p hp).2))
noncomputable def StopR : Prop:=True
theorem row_c (B : Below A₀ base outer h₀) (F : Fr h₀ L hpS m) (X : (heapK w.params).In h₀) (N : News h₀ L hpS news) (T : Top viewK loose mean mg mb h₀) (hk : cs.kind = .function)
  {pa : Addr} {k : Nat} {o : Obj} {g : Obj → List (Addr × Obj)}
  (hd : dp + 9 < recursionLimit) (hu : un + 8 * 40 < cLine)
  (hp : IsPen k o) (hk2 : k < 1000000) (U : UpdF pa o news g)
  (ret : ∀ ins nl o' r h' tk',Fr h₀ L h' m → News h₀ L h' (nl ++ g o') → IsPen (k + 5) o' → RowAt w nl ins r → (∀ p ∈ nl,Off news p.1) → Q (.ref ins) ⟨h',gnS,drS,tk',osS⟩) :
  wpAny (model PySem.Challenge.rw_qd0115_01.row.prog w) (ktrTop dp un gd cn cs L a ccd cl outer) (call (.ref 980) [.ref pa]) Q E ⟨hpS,gnS,drS,tkS,osS⟩:=by
  have hm:=upd_in U
  have hS : ∀ q ∈ [(pa,o)],q ∈ news:=by
    walk_at "hs in"
  have hSM : StopR:=trivial
  refine wpAny_call ?_
  ktr_enter
  k_with "subscriptTail"=>((fail_if_success have:=off62);k_here;(with_reducible show wpAny _ _ (subscriptTail (PySem.Expr.List _ _) _ (Value.ref _) (Value.int _ _)) _ _ _);(rename News _ _ _ ((_,W.listOf _ _) :: _)=>lD);k_dflt (first | (refine item_i lD (by omega) (by simp only [List.length_cons,List.length_nil];omega) (by omega) (fun v h=>mem4i h) ?_ (by with_unfolding_all rfl);intro nI tI hnI lN) | (refine item_i lD (by omega) (by simp only [List.length_cons,List.length_nil];omega) (by omega) (fun v h=>mem5i h) ?_ (by with_unfolding_all rfl);intro nI tI hnI lN) | (refine item_s lD (by omega) (by simp only [List.length_cons,List.length_nil];omega) (by omega) (fun v h=>mem2s h) ?_ (by with_unfolding_all rfl);intro nI tI hnI lN) | (refine item_s lD (by omega) (by simp only [List.length_cons,List.length_nil];omega) (by omega) (fun v h=>mem5s h) ?_ (by with_unfolding_all rfl);intro nI tI hnI lN) | fail "item: no row");clear lD)
  k_with "getItem ref int"=>((fail_if_success have:=off62);k_here;(rename Obj.IsDictOf _ _ (intKeyPairs _)=>hd9);refine stopI ?_)
  k_with "isTrue Compare"=>((fail_if_success have:=off62);k_here;(rename StopR=>hSM9);refine stopI ?_)
  k_steps
  delta Stop
  clear hSM9
  rename News g' _ _ _=>lN
  replace lN:=row_lit lN
  k_steps
  · delta Stop
    rename Obj.IsDictOf _ _ _=>hd9
    rename _ = 8 ∨ _=>hs8
    rename _ = Str.ofString "movs" ∨ _=>hx
    rename News _ _ _ _=>lN
    have hxl : Str.length _ ≤ 5:=str5 hx
    refine dict4_get lN (List.Mem.head _) hd9 hs8 ?_
    intro c9 t9 hcl r9
    k_with "binaryOp Add str str"=>((fail_if_success have:=off62);k_here;(refine add_str ?_ (str_room hxl hcl));intro tA tkA)
    k_steps
    refine withKept_ok fun hK=>?_
    show Q _ _
    rename News h₀ _ _ _=>nH
    exact row_fin (rowF_str nH (by k_mem) (by k_mem) (by k_mem) (by k_mem) (by assumption) hx r9) nH (by k_asm) N U hK hS hG' (by k_mem) (by k_asm) (by assumption) (by omega) ret
  · refine withKept_ok fun hK=>?_
    show Q _ _
    rename News h₀ _ _ _=>nH
    exact row_fin (rowF_movrm nH (by k_mem) (by k_mem) (by k_mem) (by k_mem) (by k_mem) (by k_mem) (by k_mem) (by k_mem) (by k_mem) (by k_mem) (by k_mem) (by k_mem) (by assumption) (okN5 (by assumption)) (okZ4 (by assumption))) nH (by k_asm) N U hK hS hG' (by k_mem) (by k_asm) (by assumption) (by omega) ret
  · refine withKept_ok fun hK=>?_
    show Q _ _
    rename News h₀ _ _ _=>nH
    exact row_fin (rowF_movmi nH (by k_mem) (by k_mem) (by k_mem) (by k_mem) (by k_mem) (by k_mem) (by k_mem) (by k_mem) (by k_mem) (by k_mem) (by assumption) (okZ4 (by assumption))) nH (by k_asm) N U hK hS hG' (by k_mem) (by k_asm) (by assumption) (by omega) ret
  · refine withKept_ok fun hK=>?_
    show Q _ _
    rename News h₀ _ _ _=>nH
    exact row_fin (rowF_pp nH (by k_mem) (by k_mem) (by k_mem) (by k_mem) (by k_mem) (by k_mem) (by k_mem) (by k_mem) (by assumption) (okN5 (by assumption)) (by assumption)) nH (by k_asm) N U hK hS hG' (by k_mem) (by k_asm) (by assumption) (by omega) ret
  · refine withKept_ok fun hK=>?_
    show Q _ _
    rename News h₀ _ _ _=>nH
    exact row_fin (rowF_xchg nH (by k_mem) (by k_mem) (by k_mem) (by k_mem) (by k_mem) (by k_mem) (by k_mem) (by k_mem) (by k_mem) (by k_mem) (by k_mem) (by k_mem) (by assumption) (okN5 (by assumption)) (okZ4 (by assumption))) nH (by k_asm) N U hK hS hG' (by k_mem) (by k_asm) (by assumption) (by omega) ret
  · refine withKept_ok fun hK=>?_
    show Q _ _
    rename News h₀ _ _ _=>nH
    exact row_fin (rowF_lea nH (by k_mem) (by k_mem) (by k_mem) (by k_mem) (by k_mem) (by k_mem) (by k_mem) (by k_mem) (by k_mem) (by k_mem) (by k_mem) (by k_mem) (by assumption) (okN5 (by assumption)) (okZ4 (by assumption))) nH (by k_asm) N U hK hS hG' (by k_mem) (by k_asm) (by assumption) (by omega) ret
example : True:=by (k_with "call ref"=>(k_here;(with_reducible show wpAny _ _ (call (Value.ref 980) _ _) _ _ _);k_dflt (refine' row_c ?k1 ?k2 ?k3 ?k4 ?k5 ?kK ?kd ?ku ?m0 ?m1 ?m2 ?_;walk_at "ks";(case m0=>k_asm);(case m1=>walk_at "om");(case m2=>k_updF);k_whole;intro ins' nl' o' r' h' tk' F' N' hx0' hx1' hx2';(try dsimp only at N');(try k_sweep))));trivial
end
theorem off62 : True:=trivial
section
example : True:=by (k_with "kmem0"=>assumption);trivial
noncomputable def LtA (a b : Nat) : Prop:=a < b
theorem LtA.of {a b : Nat} (h : a < b) : LtA a b:=h
theorem LtA.trans {a b c : Nat} (h : LtA a b) (g : LtA b c) : LtA a c:=Nat.lt_trans h g
theorem LtA.ne {a b : Nat} (h : LtA a b) : a ≠ b:=Nat.ne_of_lt h
theorem LtA.ne' {a b : Nat} (h : LtA a b) : b ≠ a:=Nat.ne_of_gt h
theorem mkfl_c 
  (B : Below A₀ base outer h₀) (F : Fr h₀ L hpS m) (X : (heapK w.params).In h₀) (N : News h₀ L hpS news) (T : Top viewK loose mean mg mb h₀) (hk : cs.kind = .function)
  (hd : dp + 6 < recursionLimit) (hu : un + 8 * 20 < cLine)
  
  (ret : ∀ (fl fd : Addr) (τ' : FlT) h' tk',Fr h₀ L h' m → News h₀ L h' ((fl,instObj 188 fd) :: (fd,flDict w τ' ⟨0,0,0,0,0,0,0⟩) :: news) → Off (news) fd → Off ((fd,flDict w τ' ⟨0,0,0,0,0,0,0⟩) :: news) fl → (∀ p ∈ news,p.1 < fd) → LtA fd fl → Q (.ref fl) ⟨h',gnS,drS,tk',osS⟩) :
  wpAny (model PySem.Challenge.rw_qd0115_01.row.prog w) (ktrTop dp un gd cn cs L a ccd cl outer) (call (.ref 188) []) Q E ⟨hpS,gnS,drS,tkS,osS⟩:=by
  have hS : ∀ q ∈ ([] : List (Addr × Obj)),q ∈ news:=fun q h=>nomatch h
  k_steps
  all_goals (show Q _ _)
  rename Fr h₀ _ _ _=>nF
  rename News h₀ _ _ _=>nH
  rename (∀ p ∈ news,_ < _)=>l1
  exact ret _ _ ⟨_,_,_,_,_,_,_,_,_,_,_,_,_,_⟩ _ _ nF nH  (fun q hq=>Nat.ne_of_lt (Nat.lt_of_lt_of_le (l1 q hq) (by first | (dsimp only;omega) | (dsimp only [Array.size] at *;omega)))) (off_cons (Nat.ne_of_lt (by first | (dsimp only;omega) | (dsimp only [Array.size] at *;omega))) (fun q hq=>Nat.ne_of_lt (Nat.lt_of_lt_of_le (l1 q hq) (by first | (dsimp only;omega) | (dsimp only [Array.size] at *;omega))))) (fun q hq=>Nat.lt_of_lt_of_le (l1 q hq) (by first | (dsimp only;omega) | (dsimp only [Array.size] at *;omega))) (LtA.of (by first | (dsimp only;omega) | (dsimp only [Array.size] at *;omega)))
example : True:=by (k_with "call ref"=>(k_here;(with_reducible show wpAny _ _ (call (Value.ref 188) _ _) _ _ _);k_dflt (refine' mkfl_c ?k1 ?k2 ?k3 ?k4 ?k5 ?kK ?kd ?ku  ?_;walk_at "ks"; k_whole;intro fl' fd' τ' h' tk' F' N' hx0' hx1' hx2' hx3';(try k_sweep))));trivial

theorem mkme_c 
  (B : Below A₀ base outer h₀) (F : Fr h₀ L hpS m) (X : (heapK w.params).In h₀) (N : News h₀ L hpS news) (T : Top viewK loose mean mg mb h₀) (hk : cs.kind = .function)
  (hd : dp + 6 < recursionLimit) (hu : un + 8 * 20 < cLine)
  
  (ret : ∀ (held me md : Addr) (o : Obj) (th : Tok) h' tk',Fr h₀ L h' m → News h₀ L h' ((held,o) :: (me,instObj 394 md) :: (md,dictOf [ent w "held" th (.ref held)] 1) :: news) → IsMem w o [] → (held == sysModules) = false → Off (news) md → Off ((md,dictOf [ent w "held" th (.ref held)] 1) :: news) me → Off ((me,instObj 394 md) :: (md,dictOf [ent w "held" th (.ref held)] 1) :: news) held → (∀ p ∈ news,p.1 < md) → LtA md me → LtA me held → Q (.ref me) ⟨h',gnS,drS,tk',osS⟩) :
  wpAny (model PySem.Challenge.rw_qd0115_01.row.prog w) (ktrTop dp un gd cn cs L a ccd cl outer) (call (.ref 394) []) Q E ⟨hpS,gnS,drS,tkS,osS⟩:=by
  have hS : ∀ q ∈ ([] : List (Addr × Obj)),q ∈ news:=fun q h=>nomatch h
  k_steps
  all_goals (show Q _ _)
  rename Fr h₀ _ _ _=>nF
  rename News h₀ _ _ _=>nH
  rename (∀ p ∈ news,_ < _)=>l1
  exact ret _ _ _ _ _ _ _ nF nH ⟨[],by assumption,(fun _ h=>nomatch h),rfl⟩ (by assumption) (fun q hq=>Nat.ne_of_lt (Nat.lt_of_lt_of_le (l1 q hq) (by first | (dsimp only;omega) | (dsimp only [Array.size] at *;omega)))) (off_cons (Nat.ne_of_lt (by first | (dsimp only;omega) | (dsimp only [Array.size] at *;omega))) (fun q hq=>Nat.ne_of_lt (Nat.lt_of_lt_of_le (l1 q hq) (by first | (dsimp only;omega) | (dsimp only [Array.size] at *;omega))))) (off_cons (Nat.ne_of_lt (by first | (dsimp only;omega) | (dsimp only [Array.size] at *;omega))) (off_cons (Nat.ne_of_lt (by first | (dsimp only;omega) | (dsimp only [Array.size] at *;omega))) (fun q hq=>Nat.ne_of_lt (Nat.lt_of_lt_of_le (l1 q hq) (by first | (dsimp only;omega) | (dsimp only [Array.size] at *;omega)))))) (fun q hq=>Nat.lt_of_lt_of_le (l1 q hq) (by first | (dsimp only;omega) | (dsimp only [Array.size] at *;omega))) (LtA.of (by first | (dsimp only;omega) | (dsimp only [Array.size] at *;omega))) (LtA.of (by first | (dsimp only;omega) | (dsimp only [Array.size] at *;omega)))
example : True:=by (k_with "call ref"=>(k_here;(with_reducible show wpAny _ _ (call (Value.ref 394) _ _) _ _ _);k_dflt (refine' mkme_c ?k1 ?k2 ?k3 ?k4 ?k5 ?kK ?kd ?ku  ?_;walk_at "ks"; k_whole;intro held' me' md' o' th' h' tk' F' N' hx0' hx1' hx2' hx3' hx4' hx5' hx6' hx7';(try k_sweep))));trivial

noncomputable def IsSeg (w : World) (os : Obj) : Prop:=∃ t1 t2,os.IsDictOf (PySem.strKind PySem.Challenge.rw_qd0115_01.row.prog w) [("fs",.int 0 t1),("gs",.int 0 t2)]
noncomputable abbrev z16 : List Int:=List.replicate 16 0
theorem stL_news {h₀ h : Heap} {L : Addr} {nn news : List (Addr × Obj)} {w : World} {σ : StA} {τ : StT} {rip beg : Int} {vs xs : List Value} {ep xep : Nat} {th : Tok} {o os of : Obj} (nH : News h₀ L h nn) (nt : News h₀ L h news)
  (a1 : (σ.x,instObj 511 σ.dx) ∈ nn) (a2 : (σ.dx,stDict w τ σ rip beg) ∈ nn) (a3 : (σ.regs,W.listOf vs.toArray ep) ∈ nn) (a4 : (σ.xmm,W.listOf xs.toArray xep) ∈ nn) (a5 : (σ.fl,instObj 188 σ.fd) ∈ nn) (a6 : (σ.fd,of) ∈ nn) (a7 : (σ.me,instObj 394 σ.md) ∈ nn) (a8 : (σ.md,dictOf [ent w "held" th (.ref σ.held)] 1) ∈ nn) (a9 : (σ.held,o) ∈ nn) (a10 : (σ.seg,os) ∈ nn) :
  News h₀ L h ((σ.seg,os) :: (σ.held,o) :: (σ.me,instObj 394 σ.md) :: (σ.md,dictOf [ent w "held" th (.ref σ.held)] 1) :: (σ.fl,instObj 188 σ.fd) :: (σ.fd,of) :: (σ.xmm,W.listOf xs.toArray xep) :: (σ.regs,W.listOf vs.toArray ep) :: (σ.x,instObj 511 σ.dx) :: (σ.dx,stDict w τ σ rip beg) :: news) :=
  news_cons nH a10 (news_cons nH a9 (news_cons nH a7 (news_cons nH a8 (news_cons nH a5 (news_cons nH a6 (news_cons nH a4 (news_cons nH a3 (news_cons nH a1 (news_cons nH a2 nt)))))))))
theorem ltA_of {l : List (Addr × Obj)} {a b : Addr} {o : Obj} (h : ∀ p ∈ l,p.1 < b) (m : (a,o) ∈ l) : LtA a b:=h _ m
theorem off_lt3 {l : List (Addr × Obj)} {a b : Addr} (h : ∀ p ∈ l,p.1 < a) (c : a < b) : Off l b:=fun p hp=>Nat.ne_of_lt (Nat.lt_trans (h p hp) c)
 local macro_rules | `(tactic| k_lt $h) => `(tactic| have hof := off_lt0 $h)
 local macro_rules | `(tactic| k_lt2 $h) => `(tactic| (have hof := off_lt3 (by assumption) $h; have hla := LtA.of $h; clear $h))
example : True:=by (k_with "k_ne"=>(first | exact off_ne (by assumption) (by k_mem) | exact Ne.symm (off_ne (by assumption) (by k_mem)) | exact LtA.ne (by assumption) | exact LtA.ne' (by assumption) | fail "k_ne: no row"));trivial
theorem mkst_c 
  (B : Below A₀ base outer h₀) (F : Fr h₀ L hpS m) (X : (heapK w.params).In h₀) (N : News h₀ L hpS news) (T : Top viewK loose mean mg mb h₀) (hk : cs.kind = .function)
  (hd : dp + 8 < recursionLimit) (hu : un + 8 * 30 < cLine)
  
  (ret : ∀ (σ : StA) (τ : StT) (τf : FlT) (vs : List Value) (ep : Nat) (xs : List Value) (xep : Nat) (th : Tok) (o os : Obj) h' tk',Fr h₀ L h' m → News h₀ L h' ((σ.seg,os) :: (σ.held,o) :: (σ.me,instObj 394 σ.md) :: (σ.md,dictOf [ent w "held" th (.ref σ.held)] 1) :: (σ.fl,instObj 188 σ.fd) :: (σ.fd,flDict w τf ⟨0,0,0,0,0,0,0⟩) :: (σ.xmm,W.listOf xs.toArray xep) :: (σ.regs,W.listOf vs.toArray ep) :: (σ.x,instObj 511 σ.dx) :: (σ.dx,stDict w τ σ 0 0) :: news) → IntsAre vs z16 → IntsAre xs z16 → IsMem w o [] → IsSeg w os → (σ.held == sysModules) = false → (∀ p ∈ news,p.1 < σ.dx) → LtA σ.dx σ.x → LtA σ.x σ.regs → LtA σ.regs σ.xmm → LtA σ.xmm σ.fd → LtA σ.fd σ.fl → LtA σ.fl σ.md → LtA σ.md σ.me → LtA σ.me σ.held → LtA σ.held σ.seg → Q (.ref σ.x) ⟨h',gnS,drS,tk',osS⟩) :
  wpAny (model PySem.Challenge.rw_qd0115_01.row.prog w) (ktrTop dp un gd cn cs L a ccd cl outer) (call (.ref 511) [.none]) Q E ⟨hpS,gnS,drS,tkS,osS⟩:=by
  have hS : ∀ q ∈ ([] : List (Addr × Obj)),q ∈ news:=fun q h=>nomatch h
  k_steps
  all_goals (show Q _ _)
  rename Fr h₀ _ _ _=>nF
  rename News h₀ _ _ _=>nH
  rename (∀ p ∈ news,_ < _)=>l1
  exact ret ⟨_,_,_,_,_,_,_,_,_,_⟩ ⟨_,_,_,_,_,_,_,_,_,_,_,0⟩ ⟨_,_,_,_,_,_,_,_,_,_,_,_,_,_⟩ _ _ _ _ _ _ _ _ _ nF (stL_news nH (news_part nH (fun q hq=>.tail _ (.tail _ (.tail _ (.tail _ (.tail _ (.tail _ (.tail _ (.tail _ (.tail _ (.tail _ (.tail _ (.tail _ (hq)))))))))))))) (by k_mem) (by k_mem) (by k_mem) (by k_mem) (by k_mem) (by k_mem) (by k_mem) (by k_mem) (by k_mem) (by k_mem)) (by assumption) (by assumption) (by first | assumption | exact ⟨[],by assumption,(fun _ h=>nomatch h),rfl⟩) ⟨_,_,by assumption⟩ (by assumption) l1 (by first | assumption | exact LtA.of (by assumption) | exact ltA_of (by assumption) (by k_mem)) (by first | assumption | exact LtA.of (by assumption) | exact ltA_of (by assumption) (by k_mem)) (by first | assumption | exact LtA.of (by assumption) | exact ltA_of (by assumption) (by k_mem)) (by first | assumption | exact LtA.of (by assumption) | exact ltA_of (by assumption) (by k_mem)) (by first | assumption | exact LtA.of (by assumption) | exact ltA_of (by assumption) (by k_mem)) (by first | assumption | exact LtA.of (by assumption) | exact ltA_of (by assumption) (by k_mem)) (by first | assumption | exact LtA.of (by assumption) | exact ltA_of (by assumption) (by k_mem)) (by first | assumption | exact LtA.of (by assumption) | exact ltA_of (by assumption) (by k_mem)) (by first | assumption | exact LtA.of (by assumption) | exact ltA_of (by assumption) (by k_mem))
example : True:=by (k_with "call ref"=>(k_here;(with_reducible show wpAny _ _ (call (Value.ref 511) _ _) _ _ _);k_dflt (refine' mkst_c ?k1 ?k2 ?k3 ?k4 ?k5 ?kK ?kd ?ku  ?_;walk_at "ks"; k_whole;intro σ' τ' τf' vs' ep' xs' xep' th' o' os' h' tk' F' N' hx0' hx1' hx2' hx3' hx4' hx5' hx6' hx7' hx8' hx9' hx10' hx11' hx12' hx13' hx14';(try k_lt hx5');(try k_sweep))));trivial
end
noncomputable def FlOk (f : Fl) : Prop:=f.cf = 0 ∧ f.pf = 0 ∧ f.af = 0 ∧ f.zf = 0 ∧ f.sf = 0 ∧ f.of = 0 ∧ 0 ≤ f.df ∧ f.df < 2
theorem fm256 (x : Int) : 0 ≤ x.fmod 256 ∧ x.fmod 256 < 256:=by
  rw [Int.fmod_eq_emod_of_nonneg _ (by decide)]
  exact ⟨Int.emod_nonneg _ (by decide),Int.emod_lt_of_pos _ (by decide)⟩
example : True:=by (k_with "k_ne"=>(first | exact LtA.ne (by assumption) | exact LtA.ne' (by assumption) | fail "k_ne: no row"));trivial
example : True:=by (k_with "call ref"=>(k_here;(with_reducible show wpAny _ _ (call (Value.ref 511) _ _) _ _ _);k_dflt (refine' mkst_c ?k1 ?k2 ?k3 ?k4 ?k5 ?kK ?kd ?ku  ?_;walk_at "ks"; k_whole;intro σ' τ' τf' vs' ep' xs' xep' th' o' os' h' tk' F' N' hx0' hx1' hx2' hx3' hx4' hx5' hx6' hx7' hx8' hx9' hx10' hx11' hx12' hx13' hx14';k_lt hx5';have q02:=LtA.trans hx6' hx7';have q13:=LtA.trans hx7' hx8';have q24:=LtA.trans hx8' hx9';have q35:=LtA.trans hx9' hx10';have q46:=LtA.trans hx10' hx11';have q57:=LtA.trans hx11' hx12';have q68:=LtA.trans hx12' hx13';have q79:=LtA.trans hx13' hx14';have q03:=LtA.trans q02 hx8';have q14:=LtA.trans q13 hx9';have q25:=LtA.trans q24 hx10';have q36:=LtA.trans q35 hx11';have q47:=LtA.trans q46 hx12';have q58:=LtA.trans q57 hx13';have q69:=LtA.trans q68 hx14';have q04:=LtA.trans q03 hx9';have q15:=LtA.trans q14 hx10';have q26:=LtA.trans q25 hx11';have q37:=LtA.trans q36 hx12';have q48:=LtA.trans q47 hx13';have q59:=LtA.trans q58 hx14';have q05:=LtA.trans q04 hx10';have q16:=LtA.trans q15 hx11';have q27:=LtA.trans q26 hx12';have q38:=LtA.trans q37 hx13';have q49:=LtA.trans q48 hx14';have q06:=LtA.trans q05 hx11';have q17:=LtA.trans q16 hx12';have q28:=LtA.trans q27 hx13';have q39:=LtA.trans q38 hx14';have q07:=LtA.trans q06 hx12';have q18:=LtA.trans q17 hx13';have q29:=LtA.trans q28 hx14';have q08:=LtA.trans q07 hx13';have q19:=LtA.trans q18 hx14';have q09:=LtA.trans q08 hx14';have z0:=LtA.of hx5';clear hx5';have z1:=LtA.trans z0 hx6';have z2:=LtA.trans z0 q02;have z3:=LtA.trans z0 q03;have z4:=LtA.trans z0 q04;have z5:=LtA.trans z0 q05;have z6:=LtA.trans z0 q06;have z7:=LtA.trans z0 q07;have z8:=LtA.trans z0 q08;have z9:=LtA.trans z0 q09;(try k_sweep))));trivial
theorem one_ne {p : Addr × Obj} {a : Addr} (h : p.1 ≠ a) : ∀ q ∈ [p],q.1 ≠ a:=fun q hq=>by rw [List.mem_singleton.mp hq];exact h
theorem state_c (B : Below A₀ base outer h₀) (F : Fr h₀ L hpS m) (X : (heapK w.params).In h₀) (N : News h₀ L hpS news) (T : Top viewK loose mean mg mb h₀) (hk : cs.kind = .function)
  {pa : Addr} {k : Nat} {oP : Obj} {g : Obj → List (Addr × Obj)}
  (hd : dp + 12 < recursionLimit) (hu : un + 8 * 44 < cLine)
  (hp : IsPen k oP) (hk2 : k < 1000000) (U : UpdF pa oP news g)
  (ret : ∀ (σ : StA) (τ : StT) (of : Obj) (f : Fl) (vs : List Value) (ns : List Int) (ep : Nat) (xs : List Value) (xep : Nat) (th : Tok) (o os : Obj) (D : List (Int × Int)) (rip : Int) (o' : Obj) h' tk',Fr h₀ L h' m → News h₀ L h' ((σ.seg,os) :: (σ.held,o) :: (σ.me,instObj 394 σ.md) :: (σ.md,dictOf [ent w "held" th (.ref σ.held)] 1) :: (σ.fl,instObj 188 σ.fd) :: (σ.fd,of) :: (σ.xmm,W.listOf xs.toArray xep) :: (σ.regs,W.listOf vs.toArray ep) :: (σ.x,instObj 511 σ.dx) :: (σ.dx,stDict w τ σ rip 0) :: g o') → IsPen (k + 19) o' → IntsAre vs ns → ns.length = 16 → IntsAre xs z16 → IsFl w of f → FlOk f → IsMem w o D → OkD D → D.length ≤ 48 → IsSeg w os → (σ.held == sysModules) = false → LtA σ.dx σ.x → LtA σ.x σ.regs → LtA σ.regs σ.xmm → LtA σ.xmm σ.fd → LtA σ.fd σ.fl → LtA σ.fl σ.md → LtA σ.md σ.me → LtA σ.me σ.held → LtA σ.held σ.seg → Off news σ.dx → Off news σ.x → Off news σ.regs → Off news σ.xmm → Off news σ.fd → Off news σ.fl → Off news σ.md → Off news σ.me → Off news σ.held → Off news σ.seg → Q (.ref σ.x) ⟨h',gnS,drS,tk',osS⟩) :
  wpAny (model PySem.Challenge.rw_qd0115_01.row.prog w) (ktrTop dp un gd cn cs L a ccd cl outer) (call (.ref 987) [.ref pa]) Q E ⟨hpS,gnS,drS,tkS,osS⟩:=by
  have hm:=upd_in U
  have hS : ∀ q ∈ [(pa,oP)],q ∈ news:=by
    walk_at "hs in"
  refine wpAny_call ?_
  ktr_enter
  k_with "exec For Name Call cons nil"=>((fail_if_success have:=off64);(rename Fr _ _ _ _=>lF');(with_unfolding_all refine' For_invVF lF' ?k1 ?k2 ?_;(case k1=>exact rfl);(case k2=>exact rfl);k_whole))
  k_with "pyIter ref"=>((fail_if_success have:=off64);k_here;(with_reducible show wpAny _ _ (pyIter (Value.ref _)) (fun it s₂=>LoopAtV _ _ _ _ _ _ _ _ _ it s₂) _ _);(rename IsRange _ _ _ _ _ _ _ _=>rgX);refine stopI ?_)
  k_steps
  delta Stop
  rename Fr _ _ _ _=>lF
  rename News _ _ _ _=>lN
  rename IsRange _ _ _ _ _ _ _ _=>rgX
  with_unfolding_all refine rangeU (ι:=List Value × List Int × Obj) (σ:=Unit) (fun j=>[(σ'.seg,os'),(σ'.held,o'),(σ'.me,instObj 394 σ'.md),(σ'.md,dictOf [ent w "held" th' (.ref σ'.held)] 1),(σ'.fl,instObj 188 σ'.fd),(σ'.fd,flDict w τf' ⟨0,0,0,0,0,0,0⟩),(σ'.xmm,W.listOf xs'.toArray xep'),(σ'.regs,W.listOf j.1.toArray _),(σ'.x,instObj 511 σ'.dx),(σ'.dx,stDict w τ' σ' 0 0),(pa,j.2.2)]) (fun i _ j=>IntsAre j.1 j.2.1 ∧ j.2.1.length = 16 ∧ IsPen (k + i) j.2.2) (fun _ _=>()) () (_,_,_) _ (by rfl) rgX (by exact small_one (by omega) (by omega) (by omega) (by omega)) (rangeSize_nat _ _) lF lN ⟨by assumption,by rfl,hp⟩ rfl ?turn ?done
  · intro i kk t h tk own _ j hk1 hk2 _ hi _ hoff hP F1 N1
    have hI1:=hP.1
    have hlen1:=hP.2.1
    have hp1:=hP.2.2
    clear hP
    dsimp only [List.cons_append,List.nil_append] at N1
    clear lF lN
    have hi16 : i < 16:=hi
    have hk16 : kk < 16:=by omega
    k_steps
    rename News _ _ _ _=>nE
    rename IntsAre _ _=>iE
    rename IsPen _ _=>pE
    exact turnU_end (_,_,_) (by k_asm) nE ⟨iE,(List.length_set ..).trans hlen1,pE⟩ rfl same_if
  · intro j m₁ h tk hP F1 N1
    have hI1:=hP.1
    have hlen1:=hP.2.1
    have hp1:=hP.2.2
    clear hP
    (try dsimp only at N1)
    clear lF lN
    k_steps
    delta Stop
    rename Fr _ _ _ _=>lF
    rename News _ _ _ _=>lN
    rename IsRange _ _ _ _ _ _ _ _=>rgX
    rename IsMem w _ []=>mE0
    rename IsPen _ _=>pE
    rename IntsAre _ (List.set _ _ _)=>iE
    with_unfolding_all refine rangeU (ι:=Obj × List (Int × Int)) (σ:=Unit) (fun j=>[(σ'.seg,os'),(σ'.held,j.1),(σ'.me,instObj 394 σ'.md),(σ'.md,dictOf [ent w "held" th' (.ref σ'.held)] 1),_,_,_,_,_,_,_]) (fun i _ j=>IsMem w j.1 j.2 ∧ OkD j.2 ∧ j.2.length ≤ i) (fun _ _=>()) () (_,_) _ (by rfl) rgX (by exact small_one (by omega) (by omega) (by omega) (by omega)) (rangeSize_nat _ _) lF (news_part lN (fun q hq=>List.Mem.tail _ hq)) ⟨mE0,(fun _ h=>nomatch h),Nat.le_refl _⟩ rfl ?turn2 ?done2
    · intro i kk t h tk own _ j hk1 hk2 _ hi _ hoff hP F2 N2
      have hM2:=hP.1
      have hO2:=hP.2.1
      have hl2:=hP.2.2
      clear hP
      dsimp only [List.cons_append,List.nil_append] at N2
      clear lF lN
      have hi48 : i < 48:=hi
      k_steps
      rename News _ _ _ _=>nE
      rename IsMem _ _ (memStore _ _ _)=>mE
      exact turnU_end (_,_) (by k_asm) nE ⟨mE,memStore_ok hO2 (fm256 _).1 (fm256 _).2,Nat.le_trans (memStore_length _ _ _) (Nat.succ_le_succ hl2)⟩ rfl same_if
    · intro j m₁ h tk hP F2 N2
      have hM2:=hP.1
      have hO2:=hP.2.1
      have hl2:=hP.2.2
      clear hP
      (try dsimp only at N2)
      clear lF lN
      k_steps
      refine withKept_ok fun hK=>?_
      show Q _ _
      rename News g' _ _ _=>nE9
      rename News h₀ _ _ _=>nH
      exact ret σ' ⟨_,_,_,_,_,_,_,_,_,_,_,0⟩ _ ⟨0,0,0,0,0,0,r'⟩ _ _ _ xs' xep' th' j.1 os' j.2 _ _ _ _ (by k_asm) (stL_news nH (news_upd1 U N hK hS nH (by k_mem) (by walk_at "hs all")) (by k_mem) (by k_mem) (by k_mem) (by k_mem) (by k_mem) (by k_mem) (by k_mem) (by k_mem) (by k_mem) (by k_mem)) (IsPen.le (by assumption) (Nat.le_refl _)) iE (by rw [List.length_set];exact hlen1) (by assumption) (isFl_of rfl rfl rfl rfl rfl rfl rfl) ⟨rfl,rfl,rfl,rfl,rfl,rfl,hx1',hx2'⟩ hM2 hO2 hl2 (by assumption) (by assumption) hx6' hx7' hx8' hx9' hx10' hx11' hx12' hx13' hx14' (ne_alloc N hG' nE9 (by k_mem) (one_ne (LtA.ne z0))) (ne_alloc N hG' nE9 (by k_mem) (one_ne (LtA.ne z1))) (ne_alloc N hG' nE9 (by k_mem) (one_ne (LtA.ne z2))) (ne_alloc N hG' nE9 (by k_mem) (one_ne (LtA.ne z3))) (ne_alloc N hG' nE9 (by k_mem) (one_ne (LtA.ne z4))) (ne_alloc N hG' nE9 (by k_mem) (one_ne (LtA.ne z5))) (ne_alloc N hG' nE9 (by k_mem) (one_ne (LtA.ne z6))) (ne_alloc N hG' nE9 (by k_mem) (one_ne (LtA.ne z7))) (ne_alloc N hG' nE9 (by k_mem) (one_ne (LtA.ne z8))) (ne_alloc N hG' nE9 (by k_mem) (one_ne (LtA.ne z9)))
example : True:=by (k_with "call ref"=>(k_here;(with_reducible show wpAny _ _ (call (Value.ref 987) _ _) _ _ _);k_dflt (refine' state_c ?k1 ?k2 ?k3 ?k4 ?k5 ?kK ?kd ?ku ?m0 ?m1 ?m2 ?_;walk_at "ks";(case m0=>k_asm);(case m1=>walk_at "om");(case m2=>k_updF);k_whole;intro σ' τ' of' f' vs' ns' ep' xs' xep' th' o' os' D' rip' oP' h' tk' F' N' hx0' hx1' hx2' hx3' hx4' hx5' hx6' hx7' hx8' hx9' hx10' hx11' hx12' hx13' hx14' hx15' hx16' hx17' hx18' hx19' hx20' hx21' hx22' hx23' hx24' hx25' hx26' hx27' hx28' hx29';have q02:=LtA.trans hx11' hx12';have q13:=LtA.trans hx12' hx13';have q24:=LtA.trans hx13' hx14';have q35:=LtA.trans hx14' hx15';have q46:=LtA.trans hx15' hx16';have q57:=LtA.trans hx16' hx17';have q68:=LtA.trans hx17' hx18';have q79:=LtA.trans hx18' hx19';have q03:=LtA.trans q02 hx13';have q14:=LtA.trans q13 hx14';have q25:=LtA.trans q24 hx15';have q36:=LtA.trans q35 hx16';have q47:=LtA.trans q46 hx17';have q58:=LtA.trans q57 hx18';have q69:=LtA.trans q68 hx19';have q04:=LtA.trans q03 hx14';have q15:=LtA.trans q14 hx15';have q26:=LtA.trans q25 hx16';have q37:=LtA.trans q36 hx17';have q48:=LtA.trans q47 hx18';have q59:=LtA.trans q58 hx19';have q05:=LtA.trans q04 hx15';have q16:=LtA.trans q15 hx16';have q27:=LtA.trans q26 hx17';have q38:=LtA.trans q37 hx18';have q49:=LtA.trans q48 hx19';have q06:=LtA.trans q05 hx16';have q17:=LtA.trans q16 hx17';have q28:=LtA.trans q27 hx18';have q39:=LtA.trans q38 hx19';have q07:=LtA.trans q06 hx17';have q18:=LtA.trans q17 hx18';have q29:=LtA.trans q28 hx19';have q08:=LtA.trans q07 hx18';have q19:=LtA.trans q18 hx19';have q09:=LtA.trans q08 hx19';(try dsimp only at N');(try k_sweep))));trivial
theorem off64 : True:=trivial
section
variable {prog : Program} {w : World} {A : Around} {E Q : Value → Shared → Prop} {a b n : Int} {t u : Tok} {h : Heap} {gn : Array GenState} {dr : Drawn} {tk : Nat} {os : OsState}
theorem sh_c (hn : 0 ≤ n) (hn2 : n ≤ 1000000) (ha : 0 ≤ a ∧ a < 2) (k : Q (.int (a * 2 ^ n.toNat) tk) ⟨h,gn,dr,tk + 1,os⟩) : wpAny (model prog w) A (binaryOp .LShift (.int a t) (.int n u)) Q E ⟨h,gn,dr,tk,os⟩:=lshift_int_small hn hn2 (by omega) k
theorem or_c (k : Q (.int (Builtin.bitOr a b) tk) ⟨h,gn,dr,tk + 1,os⟩) : wpAny (model prog w) A (binaryOp .BitOr (.int a t) (.int b u)) Q E ⟨h,gn,dr,tk,os⟩:=or_int k
end
noncomputable def packI (f : Fl) : Int:=Builtin.bitOr (Builtin.bitOr (Builtin.bitOr (Builtin.bitOr (Builtin.bitOr (Builtin.bitOr (Builtin.bitOr 2 (f.cf * 2 ^ (0 : Int).toNat)) (f.pf * 2 ^ (2 : Int).toNat)) (f.af * 2 ^ (4 : Int).toNat)) (f.zf * 2 ^ (6 : Int).toNat)) (f.sf * 2 ^ (7 : Int).toNat)) (f.df * 2 ^ (10 : Int).toNat)) (f.of * 2 ^ (11 : Int).toNat)
theorem pack_c (B : Below A₀ base outer h₀) (F : Fr h₀ L hpS m) (X : (heapK w.params).In h₀) (N : News h₀ L hpS news) (T : Top viewK loose mean mg mb h₀) (hk : cs.kind = .function)
  {fl fd : Addr} {τ : FlT} {f : Fl}
  (hd : dp + 4 < recursionLimit) (hu : un + 8 * 10 < cLine)
  (h1 : (fl,instObj 188 fd) ∈ news) (h2 : (fd,flDict w τ f) ∈ news) (b0 : 0 ≤ f.cf ∧ f.cf < 2) (b1 : 0 ≤ f.pf ∧ f.pf < 2) (b2 : 0 ≤ f.af ∧ f.af < 2) (b3 : 0 ≤ f.zf ∧ f.zf < 2) (b4 : 0 ≤ f.sf ∧ f.sf < 2) (b5 : 0 ≤ f.of ∧ f.of < 2) (b6 : 0 ≤ f.df ∧ f.df < 2)
  (ret : ∀ t h' tk',Fr h₀ L h' m → News h₀ L h' (news) → Q (.int (packI f) t) ⟨h',gnS,drS,tk',osS⟩) :
  wpAny (model PySem.Challenge.rw_qd0115_01.row.prog w) (ktrTop dp un gd cn cs L a ccd cl outer) (call (.ref 143) [.ref fl]) Q E ⟨hpS,gnS,drS,tkS,osS⟩:=by
  have hS : ∀ q ∈ [(fl,instObj 188 fd),(fd,flDict w τ f)],q ∈ news:=by
    walk_at "hs in"
  refine wpAny_call ?_
  ktr_enter
  k_with "binaryOp LShift int int"=>((fail_if_success have:=off65);k_here;(try dsimp only);refine' sh_c ?ka ?kb ?kc ?_;(case ka=>decide);(case kb=>decide);(case kc=>assumption);k_whole)
  k_with "binaryOp BitOr int int"=>((fail_if_success have:=off65);k_here;(try dsimp only);refine' or_c ?_;(try dsimp only);k_whole)
  k_steps
  all_goals (refine withKept_ok fun hK=>?_)
  all_goals (show Q _ _)
  all_goals (exact ret _ _ _ (by k_asm) (news_same N hK hS (by k_asm) (by walk_at "hs sub")))
example : True:=by (k_with "call ref"=>(k_here;(with_reducible show wpAny _ _ (call (Value.ref 143) _ _) _ _ _);k_dflt (refine' pack_c ?k1 ?k2 ?k3 ?k4 ?k5 ?kK ?kd ?ku ?m0 ?m1 ?m2 ?m3 ?m4 ?m5 ?m6 ?m7 ?m8 ?_;walk_at "ks";(case m0=>k_mem);(case m1=>k_mem);(case m2=>assumption);(case m3=>assumption);(case m4=>assumption);(case m5=>assumption);(case m6=>assumption);(case m7=>assumption);(case m8=>assumption);k_whole;intro t' h' tk' F' N';(try k_sweep))));trivial

theorem unpack_ok {f : Fl} (hf : FlOk f) : bitI (packI f) 0 = f.cf ∧ bitI (packI f) 2 = f.pf ∧ bitI (packI f) 4 = f.af ∧ bitI (packI f) 6 = f.zf ∧ bitI (packI f) 7 = f.sf ∧ bitI (packI f) 11 = f.of ∧ bitI (packI f) 10 = f.df:=by
  obtain ⟨a,b,c,d,e,g,h⟩:=f
  obtain ⟨z1,z2,z3,z4,z5,z6,z7,z8⟩:=hf
  dsimp only at z1 z2 z3 z4 z5 z6 z7 z8
  subst z1 z2 z3 z4 z5 z6
  have hd : h = 0 ∨ h = 1:=by omega
  rcases hd with rfl | rfl <;> decide +kernel
theorem fcopy_c (B : Below A₀ base outer h₀) (F : Fr h₀ L hpS m) (X : (heapK w.params).In h₀) (N : News h₀ L hpS news) (T : Top viewK loose mean mg mb h₀) (hk : cs.kind = .function)
  {fl fd : Addr} {of : Obj} {f : Fl}
  (hd : dp + 8 < recursionLimit) (hu : un + 8 * 30 < cLine)
  (h1 : (fl,instObj 188 fd) ∈ news) (h2 : (fd,of) ∈ news) (hof : IsFl w of f) (hf : FlOk f)
  (ret : ∀ (fl2 fd2 : Addr) (of2 : Obj) h' tk',Fr h₀ L h' m → News h₀ L h' ((fl2,instObj 188 fd2) :: (fd2,of2) :: news) → IsFl w of2 f → Off news fd2 → Off ((fd2,of2) :: news) fl2 → Q (.ref fl2) ⟨h',gnS,drS,tk',osS⟩) :
  wpAny (model PySem.Challenge.rw_qd0115_01.row.prog w) (ktrTop dp un gd cn cs L a ccd cl outer) (call (.ref 164) [.ref fl]) Q E ⟨hpS,gnS,drS,tkS,osS⟩:=by
  obtain ⟨τ,rfl⟩:=hof
  obtain ⟨u1,u2,u3,u4,u5,u6,u7⟩:=unpack_ok hf
  obtain ⟨z1,z2,z3,z4,z5,z6,z7,z8⟩:=id hf
  have b0 : 0 ≤ f.cf ∧ f.cf < 2:=by omega
  have b1 : 0 ≤ f.pf ∧ f.pf < 2:=by omega
  have b2 : 0 ≤ f.af ∧ f.af < 2:=by omega
  have b3 : 0 ≤ f.zf ∧ f.zf < 2:=by omega
  have b4 : 0 ≤ f.sf ∧ f.sf < 2:=by omega
  have b5 : 0 ≤ f.of ∧ f.of < 2:=by omega
  have b6 : 0 ≤ f.df ∧ f.df < 2:=by omega
  clear z1 z2 z3 z4 z5 z6 z7 z8
  have hS : ∀ q ∈ [(fl,instObj 188 fd),(fd,flDict w τ f)],q ∈ news:=by
    walk_at "hs in"
  refine wpAny_call ?_
  ktr_enter
  k_steps
  refine withKept_ok fun hK=>?_
  show Q _ _
  rename News h₀ _ _ _=>nH
  exact ret _ _ _ _ _ (by k_asm) (news_cons nH (.head _) (news_cons nH (.tail _ (.head _)) (news_same N hK hS nH (by intro q hq;simp only [List.mem_cons,List.not_mem_nil,or_false] at hq;rcases hq with rfl | rfl <;> k_mem)))) (isFl_of u1 u2 u3 u4 u5 u6 u7) (ne_alloc N hG' (by assumption) (.tail _ (.head _)) (fun q hq=>by simp only [List.mem_cons,List.not_mem_nil,or_false] at hq;rcases hq with rfl | rfl <;> k_ne)) (off_cons (by k_ne) (ne_alloc N hG' (by assumption) (.head _) (fun q hq=>by simp only [List.mem_cons,List.not_mem_nil,or_false] at hq;rcases hq with rfl | rfl <;> k_ne)))
example : True:=by (k_with "call ref"=>(k_here;(with_reducible show wpAny _ _ (call (Value.ref 164) _ _) _ _ _);k_dflt (refine' fcopy_c ?k1 ?k2 ?k3 ?k4 ?k5 ?kK ?kd ?ku ?m0 ?m1 ?m2 ?m3 ?_;walk_at "ks";(case m0=>k_mem);(case m1=>k_mem);(case m2=>k_asm);(case m3=>k_asm);k_whole;intro fl2' fd2' of2' h' tk' F' N' hx0' hx1' hx2';(try k_sweep))));trivial
theorem off65 : True:=trivial
section
variable {prog : Program} {w : World} {A : Around} {E : Value → Shared → Prop} {s : Shared} {env : Env} {h₀ : Heap} {x : Str} {body : List Stmt} {Q : Flow → Shared → Prop}
theorem dictT {d : Addr} {od : Obj} {kvs : List (Int × Value)} {m₀ : Str → Option Value} {news : List (Addr × Obj)} (J : Nat → (Str → Option Value) → List (Addr × Obj) → Prop)
    (hh : A.handled = none) (F : Fr h₀ env.locals s.heap m₀) (N : News h₀ env.locals s.heap news) (lo : (d == sysModules) = false) (hd : od.IsDictOf (intKind prog w) kvs) (hJm : ∀ i m l,J i m l → (d,od) ∈ l) (h0 : J 0 m₀ news)
    (turn : ∀ i k v t I it m₁ news₁ h tk,kvs[i]? = some (k,v) → it.cls = .type "dict_keyiterator" → (∀ p ∈ news₁,p.1 ≠ I) → J i m₁ news₁ → Fr h₀ env.locals h (fun y=>if y = x then some (.int k t) else m₁ y) → News h₀ env.locals h ((I,it) :: news₁) →
      wpAny (model prog w) A (execs body env) (UnrPost h₀ env.locals { s with heap:=h,toks:=tk } I it (J (i + 1)) Q) E { s with heap:=h,toks:=tk })
    (done : ∀ m₁ news₁ h tk,J kvs.length m₁ news₁ → Fr h₀ env.locals h m₁ → News h₀ env.locals h news₁ → Q .next { s with heap:=h,toks:=tk }) :
    wpAny (model prog w) A (pyIter (.ref d)) (fun it s₂=>LoopAtV prog w A h₀ env x body Q E it s₂) E s:=by
  have hm:=hJm 0 _ _ h0
  have hax:=N _ hm
  refine sealG ?_
  intro G9 k9
  obtain ⟨ep,hat⟩ : ∃ ep,s.heap.DictAt (intKind prog w) d kvs ep:=(Heap.dictOf_iff.mpr ⟨od,hax.1,hd⟩).dictAt
  refine k9 ?_
  clear k9 G9
  have hlt : d < s.heap.objs.size:=Heap.lt_size hax.1
  have hne : d ≠ s.heap.objs.size:=Nat.ne_of_lt hlt
  refine wpAny_pyIter_dict lo hat ?_
  have W:=Walks.dictKeys (knd:=intKind prog w) hh s.heap.objs.size d hne kvs ep
  have hnew:=next_is_new F
  refine ⟨_,_,_,kvs.length,_,_,m₀,news,J,rfl,W,?_,?_,?_,⟨⟨_,Heap.get?_push_size _ rfl,rfl,rfl⟩,hat.push _⟩,F.push _,(fun p hp=>⟨Heap.get?_push_of_some _ (N p hp).1,(N p hp).2⟩),h0,?_,?_⟩
  · intro hmm
    rcases List.mem_cons.mp hmm with e | hmm
    · exact absurd F.ns.lt (e ▸ Nat.lt_irrefl _)
    · exact hax.2.1 (List.mem_singleton.mp hmm).symm
  · intro b hb
    rw [List.mem_singleton.mp hb]
    exact hnew
  · intro p hp hI
    exact absurd (Heap.lt_size (N p hp).1) ((List.mem_singleton.mp hI) ▸ Nat.lt_irrefl _)
  · intro i v m₁ news₁ s₁ own w96 hin w98 hJ hoff hown hget hall hst F₁ N₁
    refine sealG ?_
    intro G9 k9
    obtain ⟨hh',tk',rfl⟩:=w96
    obtain ⟨k,xv,hk,hkv⟩:=w98
    refine k9 ?_
    clear k9 G9
    refine sealG ?_
    intro G9 k9
    obtain ⟨t,rfl⟩ : ∃ t,v = .int k t:=by
      cases v <;> simp [intKind,Value.isInt] at hkv
      exact ⟨_,by rw [hkv]⟩
    refine k9 ?_
    clear k9 G9
    have hmem₁:=hJm _ _ _ hJ
    refine sealG ?_
    intro G9 k9
    obtain ⟨it,hit,hic,hid⟩:=hst.1
    refine k9 ?_
    clear k9 G9
    have hmemI:=hall s.heap.objs.size (List.mem_cons_self ..) hnew _ hit
    have N₂ : News h₀ env.locals hh' ((s.heap.objs.size,it) :: news₁):=fun p hp=>by
      rcases List.mem_cons.mp hp with rfl | hp
      · exact N₁ _ (List.mem_append_left _ hmemI)
      · exact N₁ _ (List.mem_append_right _ hp)
    refine wpAny_mono (turn i k xv t s.heap.objs.size it m₁ news₁ hh' tk' hk hic (fun p hp hI=>hoff p hp (List.mem_singleton.mpr hI)) hJ F₁ N₂) (fun f s₂ p=>?_) fun _ _ e=>e
    have fin : UnrEnd h₀ env.locals { s with heap:=hh',toks:=tk' } s.heap.objs.size it (J (i + 1)) s₂ →
        LoopStepU h₀ env.locals [s.heap.objs.size] own (J (i + 1)) { s with heap:=hh',toks:=tk' } .next s₂:=by
      intro w90
      refine sealG ?_
      intro G9 k9
      obtain ⟨h',tk,m',news',e,F',N',ho,hj⟩:=w90
      refine k9 ?_
      clear k9 G9
      have hmm:=hJm _ _ _ hj
      refine ⟨rfl,h',tk,m',news',e,F',fun p hp=>?_,fun p hp hI=>ho p hp (List.mem_singleton.mp hI),hj⟩
      rcases List.mem_append.mp hp with hp | hp
      · have h2 : hh'.get? p.1 = some p.2:=hget p hp
        rcases List.mem_cons.mp (hown p hp) with h1 | h1
        · have h3 : p = (s.heap.objs.size,it):=by
            rw [h1,hit] at h2
            exact Prod.ext h1 (Option.some.inj h2).symm
          rw [h3];exact N' _ (List.mem_cons_self ..)
        · have h1' : p.1 = d:=List.mem_singleton.mp h1
          have h3 : p = (d,od):=by
            rw [h1',(N₁ _ (List.mem_append_right _ hmem₁)).1] at h2
            exact Prod.ext h1' (Option.some.inj h2).symm
          rw [h3];exact N' _ (List.mem_cons_of_mem _ hmm)
      · exact N' _ (List.mem_cons_of_mem _ hp)
    cases f with
    | ret v=>exact .ret p
    | brk=>exact .brk p
    | next=>exact .next (fin p)
    | cont=>exact .cont (fin p)
  · rintro h' tk m' news' F' N' _ hJ
    exact done m' news' h' tk hJ F' N'
end
theorem valueAt_nodup : ∀ {kvs : List (Int × Value)} (_ : (kvs.map (·.1)).Nodup) {i : Nat} {k : Int} {v : Value} (_ : kvs[i]? = some (k,v)),valueAt kvs k = some v
  | p :: r,hn,0,k,v,h=>by
    simp only [List.getElem?_cons_zero,Option.some.injEq] at h
    subst h
    simp [valueAt]
  | p :: r,hn,i + 1,k,v,h=>by
    have hr : r[i]? = some (k,v):=by simpa using h
    have hn':=List.nodup_cons.mp (by simpa using hn : (p.1 :: r.map (·.1)).Nodup)
    have hne : p.1 ≠ k:=fun e=>hn'.1 (e ▸ List.mem_map.mpr ⟨(k,v),List.mem_of_getElem? hr,rfl⟩)
    have ih:=valueAt_nodup hn'.2 hr
    unfold valueAt at ih ⊢
    rw [List.find?_cons_of_neg (by simpa using hne)]
    exact ih
theorem memStore_take {kvs : List (Int × Value)} (hn : (kvs.map (·.1)).Nodup) {i : Nat} {k : Int} {v : Value} (h : kvs[i]? = some (k,v)) : memStore ((toD kvs).take i) k (intOf v) = (toD kvs).take (i + 1):=by
  have hd : (toD kvs)[i]? = some (k,intOf v):=by
    unfold toD
    rw [List.getElem?_map,h]
    rfl
  have hno : ((toD kvs).take i).any (fun p=>p.1 = k) = false:=by
    rw [List.any_eq_false]
    intro p hp hk
    have hk' : p.1 = k:=by simpa using hk
    obtain ⟨j,hj,e⟩:=List.mem_iff_getElem.mp hp
    have hji : j < i:=by
      have:=hj
      simp only [List.length_take] at this
      omega
    have hjl : j < kvs.length:=by
      have:=hj
      simp only [List.length_take,toD_length] at this
      omega
    have hil : i < kvs.length:=(List.getElem?_eq_some_iff.mp h).1
    have e1 : (kvs.map (·.1))[j]'(by simpa using hjl) = k:=by
      rw [List.getElem_take] at e
      rw [List.getElem_map,← hk',← e]
      simp [toD]
    have e2 : (kvs.map (·.1))[i]'(by simpa using hil) = k:=by
      rw [List.getElem_map,(List.getElem?_eq_some_iff.mp h).2]
    exact absurd ((List.getElem_inj hn).mp (e1.trans e2.symm)) (Nat.ne_of_lt hji)
  unfold memStore
  rw [hno]
  rw [List.take_add_one,hd]
  rfl
theorem mcopy_c (B : Below A₀ base outer h₀) (F : Fr h₀ L hpS m) (X : (heapK w.params).In h₀) (N : News h₀ L hpS news) (T : Top viewK loose mean mg mb h₀) (hk : cs.kind = .function)
  {me md held : Addr} {th : Tok} {o : Obj} {D : List (Int × Int)}
  (hd : dp + 8 < recursionLimit) (hu : un + 8 * 30 < cLine)
  (h1 : (me,instObj 394 md) ∈ news) (h2 : (md,dictOf [ent w "held" th (.ref held)] 1) ∈ news) (h3 : (held,o) ∈ news) (hMc : IsMem w o D) (hlo : (held == sysModules) = false) (hlen : D.length ≤ 4000)
  (ret : ∀ (me2 md2 held2 : Addr) (th2 : Tok) (o2 : Obj) h' tk',Fr h₀ L h' m → News h₀ L h' ((held2,o2) :: (me2,instObj 394 md2) :: (md2,dictOf [ent w "held" th2 (.ref held2)] 1) :: news) → IsMem w o2 D → (held2 == sysModules) = false → Off news md2 → Off news me2 → Off news held2 → md2 ≠ me2 → md2 ≠ held2 → me2 ≠ held2 → Q (.ref me2) ⟨h',gnS,drS,tk',osS⟩) :
  wpAny (model PySem.Challenge.rw_qd0115_01.row.prog w) (ktrTop dp un gd cn cs L a ccd cl outer) (call (.ref 384) [.ref me]) Q E ⟨hpS,gnS,drS,tkS,osS⟩:=by
  have hS : ∀ q ∈ [(me,instObj 394 md),(md,dictOf [ent w "held" th (.ref held)] 1),(held,o)],q ∈ news:=by
    walk_at "hs in"
  refine wpAny_call ?_
  ktr_enter
  k_with "exec For"=>((fail_if_success have:=off67);(rename Fr _ _ _ _=>lF');(with_unfolding_all refine' For_invVF lF' ?k1 ?k2 ?_;(case k1=>exact rfl);(case k2=>exact rfl);k_whole))
  k_with "pyIter ref"=>((fail_if_success have:=off67);k_here;(with_reducible show wpAny _ _ (pyIter (Value.ref _)) (fun it s₂=>LoopAtV _ _ _ _ _ _ _ _ _ it s₂) _ _);(have hstop:=hMc);refine stopI ?_)
  k_steps
  delta Stop
  refine sealG ?_
  intro G9 k9
  obtain ⟨kvs,hdo,hIs,rfl⟩:=hMc
  refine k9 ?_
  clear k9 G9
  rename Fr _ _ _ _=>lF
  rename News _ _ _ _=>lN
  rename IsMem w _ []=>mE0
  have hnd : (kvs.map (·.1)).Nodup:=by obtain ⟨_,_,_,_,_,_,z⟩:=hdo;exact z
  with_unfolding_all refine dictT (fun i m l=>∃ o3 vl,l = [(held',o3),(me',instObj 394 md'),(md',dictOf [ent w "held" th' (.ref held')] 1),(me,instObj 394 md),(md,dictOf [ent w "held" th (.ref held)] 1),(held,o)] ∧ IsMem w o3 ((toD kvs).take i) ∧ m = bindM _ "place" vl) (by rfl) lF lN hlo hdo (fun _ _ _ ⟨_,_,e,_⟩=>by rw [e];k_mem) ⟨_,_,rfl,mE0,bindM_start _ _⟩ ?turn ?done
  · intro i k v t I it m₁ news₁ h tk hk hic hoff w913 F1 N1
    refine sealG ?_
    intro G9 k9
    obtain ⟨o3,vl,rfl,hM3,rfl⟩:=w913
    refine k9 ?_
    clear k9 G9
    rw [bindM_bind] at F1
    unfold bindM at F1
    clear lF lN
    refine sealG ?_
    intro G9 k9
    obtain ⟨tv,hv⟩ : ∃ tv,v = .int (intOf v) tv:=hIs _ (List.mem_of_getElem? hk)
    refine k9 ?_
    clear k9 G9
    have hval:=valueAt_nodup hnd hk
    have hst:=memStore_take hnd hk
    have hl3 : ((toD kvs).take i).length ≤ sizeLine:=by rw [sizeLine_eq,List.length_take];omega
    rw [hv] at hval
    k_with "getItem ref int"=>((fail_if_success have:=off67);k_here;refine kdt_getItem (knd:=PySem.intKind _ _) (by k_asm) (by k_mem) hdo (intKind_is _ _ _ _) hval ?_)
    k_with "setItem ref int"=>((fail_if_success have:=off67);k_here;refine' set_mem ?k1 ?k2 ?k3 hM3 hl3 ?_;(case k1=>k_asm);(case k2=>k_asm);(case k3=>k_updF);intro h' o' F' N' hM';(try dsimp only at N');(try k_sweep))
    k_steps
    rw [← hst]
    assumption
  · intro m₁ news₁ h tk w94 F1 N1
    refine sealG ?_
    intro G9 k9
    obtain ⟨o3,vl,rfl,hM3,rfl⟩:=w94
    refine k9 ?_
    clear k9 G9
    unfold bindM at F1
    clear lF lN
    k_steps
    rw [List.take_of_length_le (Nat.le_of_eq (toD_length kvs))] at hM3
    refine withKept_ok fun hK=>?_
    show Q _ _
    rename News h₀ _ _ _=>nH
    exact ret _ _ _ _ _ _ _ (by k_asm) (news_cons nH (.head _) (news_cons nH (.tail _ (.head _)) (news_cons nH (.tail _ (.tail _ (.head _))) (news_same N hK hS nH (by intro q hq;simp only [List.mem_cons,List.not_mem_nil,or_false] at hq;rcases hq with rfl | rfl | rfl <;> k_mem))))) hM3 (by assumption) (ne_alloc N hG' (by assumption) (.tail _ (.tail _ (.head _))) (fun q hq=>by simp only [List.mem_cons,List.not_mem_nil,or_false] at hq;rcases hq with rfl | rfl | rfl <;> k_ne)) (ne_alloc N hG' (by assumption) (.tail _ (.head _)) (fun q hq=>by simp only [List.mem_cons,List.not_mem_nil,or_false] at hq;rcases hq with rfl | rfl | rfl <;> k_ne)) (ne_alloc N hG' (by assumption) (.head _) (fun q hq=>by simp only [List.mem_cons,List.not_mem_nil,or_false] at hq;rcases hq with rfl | rfl | rfl <;> k_ne)) (by k_ne) (by k_ne) (by k_ne)
example : True:=by (k_with "call ref"=>(k_here;(with_reducible show wpAny _ _ (call (Value.ref 384) _ _) _ _ _);k_dflt (refine' mcopy_c ?k1 ?k2 ?k3 ?k4 ?k5 ?kK ?kd ?ku ?m0 ?m1 ?m2 ?m3 ?m4 ?m5 ?_;walk_at "ks";(case m0=>k_mem);(case m1=>k_mem);(case m2=>k_mem);(case m3=>k_asm);(case m4=>k_asm);(case m5=>walk_at "om");k_whole;intro me2' md2' held2' th2' o2' h' tk' F' N' hx0' hx1' hx2' hx3' hx4' hx5' hx6' hx7';(try k_sweep))));trivial
theorem off67 : True:=trivial
section
theorem off_of_lt {l : List (Addr × Obj)} {a : Addr} (h : ∀ p ∈ l,p.1 < a) : Off l a:=fun p hp=>Nat.ne_of_lt (h p hp)
theorem off_lt {l : List (Addr × Obj)} {a b : Addr} (h : ∀ p ∈ l,p.1 < a) (c : LtA a b) : Off l b:=fun p hp=>Nat.ne_of_lt (Nat.lt_trans (h p hp) c)
theorem two_of {a1 a2 a3 a4 a5 a6 a7 a8 a9 a10 : Addr × Obj} {l : List (Addr × Obj)} : ∀ q ∈ a9 :: a10 :: l,q ∈ a1 :: a2 :: a3 :: a4 :: a5 :: a6 :: a7 :: a8 :: a9 :: a10 :: l:=fun _ h=>.tail _ (.tail _ (.tail _ (.tail _ (.tail _ (.tail _ (.tail _ (.tail _ h)))))))
theorem off_sub8 {l sub : List (Addr × Obj)} {a : Addr} (h : Off l a) (hs : ∀ q ∈ sub,q ∈ l) : ∀ q ∈ sub,q.1 ≠ a:=fun q hq=>h q (hs q hq)
 local macro_rules | `(tactic| k_lt $h) => `(tactic| replace $h := off_of_lt $h)
example : True:=by (k_with "suf"=>(intro q hq;(repeat' (first | exact hq | refine List.Mem.tail _ ?_))));trivial
example : True:=by (k_with "k_ne"=>(first | exact off_ne (by assumption) (by k_mem) | exact Ne.symm (off_ne (by assumption) (by k_mem)) | exact LtA.ne (by assumption) | exact LtA.ne' (by assumption) | fail "k_ne: no row"));trivial
example : True:=by (k_with "call ref"=>(k_here;(with_reducible show wpAny _ _ (call (Value.ref 511) _ _) _ _ _);k_dflt (refine' mkst_c ?k1 ?k2 ?k3 ?k4 ?k5 ?kK ?kd ?ku  ?_;walk_at "ks"; k_whole;intro σ' τ' τf' vs' ep' xs' xep' th' o' os' h' tk' F' N' hx0' hx1' hx2' hx3' hx4' hx5' hx6' hx7' hx8' hx9' hx10' hx11' hx12' hx13' hx14';have o0:=off_of_lt hx5';have o1:=off_lt hx5' hx6';have e01:=hx6';clear hx5' hx6' hx7' hx8' hx9' hx10' hx11' hx12' hx13' hx14';replace N':=news_part N' two_of;(try k_sweep))));trivial
theorem scopy_c (B : Below A₀ base outer h₀) (F : Fr h₀ L hpS m) (X : (heapK w.params).In h₀) (N : News h₀ L hpS news) (T : Top viewK loose mean mg mb h₀) (hk : cs.kind = .function)
  {σ : StA} {τ : StT} {rip beg : Int} {vs xs : List Value} {ns : List Int} {ep xep : Nat} {th : Tok} {o os of : Obj} {f : Fl} {D : List (Int × Int)}
  (hd : dp + 14 < recursionLimit) (hu : un + 8 * 50 < cLine)
  (a0 : (σ.seg,os) ∈ news) (a1 : (σ.held,o) ∈ news) (a2 : (σ.me,instObj 394 σ.md) ∈ news) (a3 : (σ.md,dictOf [ent w "held" th (.ref σ.held)] 1) ∈ news) (a4 : (σ.fl,instObj 188 σ.fd) ∈ news) (a5 : (σ.fd,of) ∈ news) (a6 : (σ.xmm,W.listOf xs.toArray xep) ∈ news) (a7 : (σ.regs,W.listOf vs.toArray ep) ∈ news) (a8 : (σ.x,instObj 511 σ.dx) ∈ news) (a9 : (σ.dx,stDict w τ σ rip beg) ∈ news) (hI : IntsAre vs ns) (hlen : ns.length = 16) (hxs : IntsAre xs z16) (hof : IsFl w of f) (hf : FlOk f) (hM : IsMem w o D) (hlD : D.length ≤ 4000) (hsg : IsSeg w os) (hlo : (σ.held == sysModules) = false)
  (ret : ∀ (σ2 : StA) (τ2 : StT) (o2 os2 of2 : Obj) (ep2 xep2 : Nat) (th2 : Tok) h' tk',Fr h₀ L h' m → News h₀ L h' ((σ2.seg,os2) :: (σ2.held,o2) :: (σ2.me,instObj 394 σ2.md) :: (σ2.md,dictOf [ent w "held" th2 (.ref σ2.held)] 1) :: (σ2.fl,instObj 188 σ2.fd) :: (σ2.fd,of2) :: (σ2.xmm,W.listOf xs.toArray xep2) :: (σ2.regs,W.listOf vs.toArray ep2) :: (σ2.x,instObj 511 σ2.dx) :: (σ2.dx,stDict w τ2 σ2 rip beg) :: news) → IsFl w of2 f → IsMem w o2 D → IsSeg w os2 → (σ2.held == sysModules) = false → Off (news) σ2.dx → Off ((σ2.dx,stDict w τ2 σ2 rip beg) :: news) σ2.x → Off ((σ2.x,instObj 511 σ2.dx) :: (σ2.dx,stDict w τ2 σ2 rip beg) :: news) σ2.regs → Off ((σ2.regs,W.listOf vs.toArray ep2) :: (σ2.x,instObj 511 σ2.dx) :: (σ2.dx,stDict w τ2 σ2 rip beg) :: news) σ2.xmm → Off ((σ2.xmm,W.listOf xs.toArray xep2) :: (σ2.regs,W.listOf vs.toArray ep2) :: (σ2.x,instObj 511 σ2.dx) :: (σ2.dx,stDict w τ2 σ2 rip beg) :: news) σ2.fd → Off ((σ2.fd,of2) :: (σ2.xmm,W.listOf xs.toArray xep2) :: (σ2.regs,W.listOf vs.toArray ep2) :: (σ2.x,instObj 511 σ2.dx) :: (σ2.dx,stDict w τ2 σ2 rip beg) :: news) σ2.fl → Off ((σ2.fl,instObj 188 σ2.fd) :: (σ2.fd,of2) :: (σ2.xmm,W.listOf xs.toArray xep2) :: (σ2.regs,W.listOf vs.toArray ep2) :: (σ2.x,instObj 511 σ2.dx) :: (σ2.dx,stDict w τ2 σ2 rip beg) :: news) σ2.md → Off ((σ2.md,dictOf [ent w "held" th2 (.ref σ2.held)] 1) :: (σ2.fl,instObj 188 σ2.fd) :: (σ2.fd,of2) :: (σ2.xmm,W.listOf xs.toArray xep2) :: (σ2.regs,W.listOf vs.toArray ep2) :: (σ2.x,instObj 511 σ2.dx) :: (σ2.dx,stDict w τ2 σ2 rip beg) :: news) σ2.me → Off ((σ2.me,instObj 394 σ2.md) :: (σ2.md,dictOf [ent w "held" th2 (.ref σ2.held)] 1) :: (σ2.fl,instObj 188 σ2.fd) :: (σ2.fd,of2) :: (σ2.xmm,W.listOf xs.toArray xep2) :: (σ2.regs,W.listOf vs.toArray ep2) :: (σ2.x,instObj 511 σ2.dx) :: (σ2.dx,stDict w τ2 σ2 rip beg) :: news) σ2.held → Off ((σ2.held,o2) :: (σ2.me,instObj 394 σ2.md) :: (σ2.md,dictOf [ent w "held" th2 (.ref σ2.held)] 1) :: (σ2.fl,instObj 188 σ2.fd) :: (σ2.fd,of2) :: (σ2.xmm,W.listOf xs.toArray xep2) :: (σ2.regs,W.listOf vs.toArray ep2) :: (σ2.x,instObj 511 σ2.dx) :: (σ2.dx,stDict w τ2 σ2 rip beg) :: news) σ2.seg → Q (.ref σ2.x) ⟨h',gnS,drS,tk',osS⟩) :
  wpAny (model PySem.Challenge.rw_qd0115_01.row.prog w) (ktrTop dp un gd cn cs L a ccd cl outer) (call (.ref 508) [.ref σ.x]) Q E ⟨hpS,gnS,drS,tkS,osS⟩:=by
  obtain ⟨τF,hofe⟩:=id hof
  subst hofe
  obtain ⟨tg1,tg2,hdg⟩:=id hsg
  have hsz1 : vs.toArray.size ≤ sizeLine:=by rw [sizeLine_eq,List.size_toArray,hI.length];omega
  have hsz2 : xs.toArray.size ≤ sizeLine:=by rw [sizeLine_eq,List.size_toArray,hxs.length];decide
  have hS : ∀ q ∈ [(σ.seg,os),(σ.held,o),(σ.me,instObj 394 σ.md),(σ.md,dictOf [ent w "held" th (.ref σ.held)] 1),(σ.fl,instObj 188 σ.fd),(σ.fd,flDict w τF f),(σ.xmm,W.listOf xs.toArray xep),(σ.regs,W.listOf vs.toArray ep),(σ.x,instObj 511 σ.dx),(σ.dx,stDict w τ σ rip beg)],q ∈ news:=by
    walk_at "hs in"
  refine wpAny_call ?_
  ktr_enter
  k_with "call type:list"=>((fail_if_success have:=off68);k_here;(rename Fr _ _ _ _=>lF);(rename News _ _ _ _=>lN);(first | (refine list_copyK lF lN (items:=vs.toArray) (News.isList lN (by k_mem)) ?_ hsz1) | (refine list_copyK lF lN (items:=xs.toArray) (News.isList lN (by k_mem)) ?_ hsz2));k_whole;intro D8 c8 h8 F8 N8 l8;replace l8:=off_of_lt l8;(try k_sweep))
  k_steps
  refine withKept_ok fun hK=>?_
  show Q _ _
  rename News h₀ _ _ _=>nH
  have nB : News h₀ L _ news:=news_same N hK hS nH (by walk_at "suf")
  exact ret ⟨σ'.x,σ'.dx,_,_,fl2',fd2',me2',md2',held2',_⟩ ⟨τ'.a,τ'.b,τ'.c,τ'.d,τ'.e,τ'.f,τ.g,τ'.h,τ.i,τ'.j,τ'.k,0⟩ _ _ _ _ _ _ _ _ (by k_asm) (stL_news nH nB (by k_mem) (by k_mem) (by k_mem) (by k_mem) (by k_mem) (by k_mem) (by k_mem) (by k_mem) (by k_mem) (by k_mem)) (by assumption) (by assumption) ⟨_,_,by assumption⟩ (by assumption) (ne_alloc N hG' (by assumption) (by k_mem) (off_sub8 (by assumption) (by walk_at "suf"))) (off_cons (by k_ne) (ne_alloc N hG' (by assumption) (by k_mem) (off_sub8 (by assumption) (by walk_at "suf")))) (off_cons (by k_ne) (off_cons (by k_ne) (ne_alloc N hG' (by assumption) (by k_mem) (off_sub8 (by assumption) (by walk_at "suf"))))) (off_cons (by k_ne) (off_cons (by k_ne) (off_cons (by k_ne) (ne_alloc N hG' (by assumption) (by k_mem) (off_sub8 (by assumption) (by walk_at "suf")))))) (off_cons (by k_ne) (off_cons (by k_ne) (off_cons (by k_ne) (off_cons (by k_ne) (ne_alloc N hG' (by assumption) (by k_mem) (off_sub8 (by assumption) (by walk_at "suf"))))))) (off_cons (by k_ne) (off_cons (by k_ne) (off_cons (by k_ne) (off_cons (by k_ne) (off_cons (by k_ne) (ne_alloc N hG' (by assumption) (by k_mem) (off_sub8 (by assumption) (by walk_at "suf")))))))) (off_cons (by k_ne) (off_cons (by k_ne) (off_cons (by k_ne) (off_cons (by k_ne) (off_cons (by k_ne) (off_cons (by k_ne) (ne_alloc N hG' (by assumption) (by k_mem) (off_sub8 (by assumption) (by walk_at "suf"))))))))) (off_cons (by k_ne) (off_cons (by k_ne) (off_cons (by k_ne) (off_cons (by k_ne) (off_cons (by k_ne) (off_cons (by k_ne) (off_cons (by k_ne) (ne_alloc N hG' (by assumption) (by k_mem) (off_sub8 (by assumption) (by walk_at "suf")))))))))) (off_cons (by k_ne) (off_cons (by k_ne) (off_cons (by k_ne) (off_cons (by k_ne) (off_cons (by k_ne) (off_cons (by k_ne) (off_cons (by k_ne) (off_cons (by k_ne) (ne_alloc N hG' (by assumption) (by k_mem) (off_sub8 (by assumption) (by walk_at "suf"))))))))))) (off_cons (by k_ne) (off_cons (by k_ne) (off_cons (by k_ne) (off_cons (by k_ne) (off_cons (by k_ne) (off_cons (by k_ne) (off_cons (by k_ne) (off_cons (by k_ne) (off_cons (by k_ne) (ne_alloc N hG' (by assumption) (by k_mem) (off_sub8 (by assumption) (by walk_at "suf"))))))))))))
example : True:=by (k_with "call ref"=>(k_here;(with_reducible show wpAny _ _ (call (Value.ref 508) _ _) _ _ _);k_dflt (refine' scopy_c ?k1 ?k2 ?k3 ?k4 ?k5 ?kK ?kd ?ku ?m0 ?m1 ?m2 ?m3 ?m4 ?m5 ?m6 ?m7 ?m8 ?m9 ?m10 ?m11 ?m12 ?m13 ?m14 ?m15 ?m16 ?m17 ?m18 ?_;walk_at "ks";(case m0=>k_mem);(case m1=>k_mem);(case m2=>k_mem);(case m3=>k_mem);(case m4=>k_mem);(case m5=>k_mem);(case m6=>k_mem);(case m7=>k_mem);(case m8=>k_mem);(case m9=>k_mem);(case m10=>k_asm);(case m11=>k_asm);(case m12=>k_asm);(case m13=>k_asm);(case m14=>k_asm);(case m15=>k_asm);(case m16=>walk_at "om");(case m17=>k_asm);(case m18=>k_asm);k_whole;intro σ2' τ2' o2' os2' of2' ep2' xep2' th2' h' tk' F' N' hx0' hx1' hx2' hx3' hx4' hx5' hx6' hx7' hx8' hx9' hx10' hx11' hx12' hx13';(try k_sweep))));trivial
end
theorem off68 : True:=trivial
theorem tupsL_snoc {nl nl' : List (Addr × Obj)} {vs : List Value} {ps : List (Int × Int)} {p : Int × Int} {a : Addr} {t u : Tok} (h : TupsL nl vs ps) (hm : (a,tup2 p t u) ∈ nl') (hs : ∀ q ∈ nl,q ∈ nl') : TupsL nl' (vs ++ [.ref a]) (ps ++ [p]):=by
  have h':=h.mono hs
  refine ⟨by simp [h.len],fun i hi=>?_⟩
  have hi' : i < ps.length ∨ i = ps.length:=by simp at hi;omega
  rcases hi' with hi' | rfl
  · have e1 : (vs ++ [Value.ref a]).getD i .none = vs.getD i .none:=by
      rw [List.getD_eq_getElem?_getD,List.getD_eq_getElem?_getD,List.getElem?_append_left (by rw [h.len];exact hi')]
    have e2 : (ps ++ [p]).getD i (0,0) = ps.getD i (0,0):=by
      rw [List.getD_eq_getElem?_getD,List.getD_eq_getElem?_getD,List.getElem?_append_left hi']
    rw [e1,e2]
    exact h'.item i hi'
  · refine ⟨a,t,u,?_,?_⟩
    · rw [List.getD_eq_getElem?_getD,← h.len];simp
    · rw [List.getD_eq_getElem?_getD];simp;exact hm
noncomputable def nzD (D : List (Int × Int)) : List (Int × Int):=D.filter fun p=>decide (p.2 ≠ 0)
theorem nz_take {kvs : List (Int × Value)} {i : Nat} {k : Int} {v : Value} (h : kvs[i]? = some (k,v)) : nzD ((toD kvs).take (i + 1)) = nzD ((toD kvs).take i) ++ (if intOf v = 0 then [] else [(k,intOf v)]):=by
  have hd : (toD kvs)[i]? = some (k,intOf v):=by
    unfold toD
    rw [List.getElem?_map,h]
    rfl
  unfold nzD
  rw [List.take_add_one,hd,List.filter_append]
  by_cases z : intOf v = 0 <;> simp [z]
theorem news_app2 {h₀ h : Heap} {L : Addr} {nl nn l : List (Addr × Obj)} (N' : News h₀ L h nn) (hs : ∀ p ∈ nl,p ∈ nn) (N : News h₀ L h l) : News h₀ L h (l ++ nl):=fun p hp=>by
  rcases List.mem_append.mp hp with hp | hp
  · exact N p hp
  · exact N' p (hs p hp)
theorem nz_len (D : List (Int × Int)) : (nzD D).length ≤ D.length:=List.length_filter_le _ _
theorem written_c (B : Below A₀ base outer h₀) (F : Fr h₀ L hpS m) (X : (heapK w.params).In h₀) (N : News h₀ L hpS news) (T : Top viewK loose mean mg mb h₀) (hk : cs.kind = .function)
  {me md held : Addr} {th : Tok} {o : Obj} {D : List (Int × Int)}
  (hd : dp + 8 < recursionLimit) (hu : un + 8 * 30 < cLine)
  (h1 : (me,instObj 394 md) ∈ news) (h2 : (md,dictOf [ent w "held" th (.ref held)] 1) ∈ news) (h3 : (held,o) ∈ news) (hMc : IsMem w o D) (hlo : (held == sysModules) = false) (hlen : D.length ≤ 4000)
  (ret : ∀ (r : Addr) (e : Nat) (vs : List Value) (nl : List (Addr × Obj)) h' tk',Fr h₀ L h' m → News h₀ L h' ((r,seqObj "list" vs.toArray e) :: (news ++ nl)) → TupsL nl vs (srtI (nzD D)) → Q (.ref r) ⟨h',gnS,drS,tk',osS⟩) :
  wpAny (model PySem.Challenge.rw_qd0115_01.row.prog w) (ktrTop dp un gd cn cs L a ccd cl outer) (call (.ref 363) [.ref me]) Q E ⟨hpS,gnS,drS,tkS,osS⟩:=by
  have hS : ∀ q ∈ [(me,instObj 394 md),(md,dictOf [ent w "held" th (.ref held)] 1),(held,o)],q ∈ news:=by
    walk_at "hs in"
  refine wpAny_call ?_
  k_dflt (refine' code_defHC _ ?kS ?k1 ?k2 ?k3 ?k4 ?k5 ?kA ?kF ?kK ?k6 ?k7 ?k8 ?k9 ?kB ?kD ?_ ?c2 ?c3 ?c4;(case kA=>exact rfl);(case kF=>exact rfl);(case kK=>first | exact rfl | assumption);(case k1=>k_asm);(case k2=>k_asm);(case k3=>k_asm);(case k4=>k_asm);(case kS=>assumption);(case k5=>k_asm);(case k6=>k_is);(case k7=>k_is);(case k8=>ktr_room);(case k9=>first | exact bindsPos rfl | exact BindsTo.of_eq rfl | exact binds_K (by k_in) rfl (by k_is) rfl rfl rfl | fail "k_enter: no rule for these arguments");(case kB=>exact kindsX rfl);(case kD=>decide +kernel);(case c2=>exact rfl);(case c3=>exact rfl);(case c4=>exact rfl);k_whole;intro g' L' h' tkc' cells' FG' F' N' Y' B' X' T' l1' hG';k_cells Y';(try simp only [List.cons_append,List.nil_append] at N');(try k_lt l1');(try walk_at "dh");(try k_lift B');(try k_fold))
  k_with "eval ListComp"=>((fail_if_success have:=off70);k_here;refine stopI ?_)
  k_steps
  delta Stop
  refine sealG ?_
  intro G9 k9
  obtain ⟨kvs,hdo,hIs,rfl⟩:=hMc
  refine k9 ?_
  clear k9 G9
  have hkl : kvs.length ≤ 4000:=by rw [← toD_length];exact hlen
  have hnd : (kvs.map (·.1)).Nodup:=by obtain ⟨_,_,_,_,_,_,z⟩:=hdo;exact z
  rename Fr _ _ _ _=>lF
  rename Obj=>oc
  refine ListComp_TD lF (by with_unfolding_all rfl) (by decide) (by rfl) (by decide) (by rfl) ?_ (by intro _;rfl)
  k_steps
  rename Fr _ _ _ _=>lF
  rename News _ _ _ _=>lN
  refine ⟨held,o,kvs,_,rfl,by rfl,lF,lN,by k_mem,hdo,hlo,(by rw [sizeLine_eq];omega),?_⟩
  rintro s₂ ⟨hq,rfl⟩
  refine compT_ind (J:=fun i ys l=>∃ nl,l = (L' + 1,oc) :: (me,instObj 394 md) :: (md,dictOf [ent w "held" th (.ref held)] 1) :: (held,o) :: nl ∧ TupsL nl ys (nzD ((toD kvs).take i))) ⟨[],rfl,⟨rfl,fun i h=>absurd h (by simp [nzD])⟩⟩ ?fin ?turn
  · intro ys l w92
    refine sealG ?_
    intro G9 k9
    obtain ⟨nl,rfl,hT⟩:=w92
    refine k9 ?_
    clear k9 G9
    clear lF lN
    rw [List.take_of_length_le (Nat.le_of_eq (toD_length kvs))] at hT
    unfold LCg.FinE
    intro D h tk F1 N1 o1
    have hz9 : (nzD (toD kvs)).length ≤ 100000:=Nat.le_trans (nz_len _) (by rw [toD_length];omega)
    k_with "call builtin:sorted"=>((fail_if_success have:=off70);k_here;refine srt_tups (vs:=ys) (ps:=nzD (toD kvs)) F1 N1 (News.isList N1 (by k_mem)) (hT.mono (fun q hq=>.tail _ (.tail _ (.tail _ (.tail _ (.tail _ hq)))))) hz9 ?_;intro D2 h2 e2 F2 N2 l2;(try k_sweep))
    k_steps
    refine withKept_ok fun hK=>?_
    show Q _ _
    rename News h₀ _ _ _=>nH
    exact ret _ _ _ nl _ _ (by k_asm) (news_cons nH (.head _) (news_app2 nH (fun q hq=>.tail _ (.tail _ (.tail _ (.tail _ (.tail _ (.tail _ hq)))))) (news_same N hK hS nH (by intro q hq;simp only [List.mem_cons,List.not_mem_nil,or_false] at hq;rcases hq with rfl | rfl | rfl <;> k_mem)))) (srt_tupsL hT)
  · intro i ys l v I oI C oC D m₂ h tk E' hi w914 w915 hC hx F1 N1 off ne
    refine sealG ?_
    intro G9 k9
    obtain ⟨nl,rfl,hT⟩:=w914
    obtain ⟨k,y,t,hk,rfl⟩:=w915
    refine k9 ?_
    clear k9 G9
    clear lF lN
    have hval:=valueAt_nodup hnd hk
    refine sealG ?_
    intro G9 k9
    obtain ⟨tv,hv⟩ : ∃ tv,y = .int (intOf y) tv:=hIs _ (List.mem_of_getElem? hk)
    refine k9 ?_
    clear k9 G9
    rw [hv] at hval
    have hnz:=nz_take hk
    k_with "getItem ref int"=>((fail_if_success have:=off70);k_here;refine kdt_getItem (knd:=PySem.intKind _ _) (by k_asm) (by k_mem) hdo (intKind_is _ _ _ _) hval ?_)
    k_steps
    · rename News _ _ _ _=>nE
      rename Fr g' _ _ _=>fE
      rename Addr=>Dn
      rename (I < Dn ∧ _)=>lD
      rename intOf y ≠ 0=>hz
      rw [if_neg hz] at hnz
      refine sealG ?_
      intro G9 k9
      obtain ⟨f1,f2,f3,f4,f5⟩:=off
      obtain ⟨p1,p2,p3,-⟩:=lD
      refine k9 ?_
      clear k9 G9
      refine LCg.CompEnd.intro fE nE ((L' + 1,oc) :: (me,instObj 394 md) :: (md,dictOf [ent w "held" th (.ref held)] 1) :: (held,o) :: ((Dn,tup2 (k,intOf y) t tv) :: nl)) (fun p hp=>?_) ⟨f1,f2,f3,f4,⟨Nat.ne_of_gt p1,Nat.ne_of_gt p2,Nat.ne_of_gt p3⟩,f5⟩ (by k_mem) ⟨_,rfl,?_⟩
      · simp only [List.mem_cons] at hp ⊢
        rcases hp with h | h | h | h | h | h | h | h | h <;> simp only [h,true_or,or_true]
      · rw [hnz]
        exact tupsL_snoc hT (.head _) (fun q hq=>.tail _ hq)
    · rename News _ _ _ _=>nE
      rename Fr g' _ _ _=>fE
      rename intOf y = 0=>hz
      rw [if_pos hz,List.append_nil] at hnz
      refine LCg.CompEnd.intro fE nE _ (fun p hp=>hp) off (by k_mem) ⟨_,rfl,?_⟩
      rw [hnz]
      exact hT
example : True:=by (k_with "call ref"=>(k_here;(with_reducible show wpAny _ _ (call (Value.ref 363) _ _) _ _ _);k_dflt (refine' written_c ?k1 ?k2 ?k3 ?k4 ?k5 ?kK ?kd ?ku ?m0 ?m1 ?m2 ?m3 ?m4 ?m5 ?_;walk_at "ks";(case m0=>k_mem);(case m1=>k_mem);(case m2=>k_mem);(case m3=>k_asm);(case m4=>k_asm);(case m5=>walk_at "om");k_whole;intro r' e' vs' nl' h' tk' F' N' hx0';(try simp only [List.cons_append,List.nil_append] at N');(try k_sweep))));trivial
theorem off70 : True:=trivial
noncomputable def RdL (nl : List (Addr × Obj)) (v : Value) (d : PyData) : Prop:=∀ h : Heap,(∀ p ∈ nl,h.get? p.1 = some p.2) → ∃ as,Reads h v d as
noncomputable def RdAll (nl : List (Addr × Obj)) (vs : List Value) (ds : List PyData) : Prop:=∀ h : Heap,(∀ p ∈ nl,h.get? p.1 = some p.2) → ∃ as,ReadsAll h vs ds as
section
variable {nl nl' : List (Addr × Obj)} {v : Value} {vs : List Value} {d : PyData} {ds : List PyData}
theorem RdL.mono (h : RdL nl v d) (hs : ∀ p ∈ nl,p ∈ nl') : RdL nl' v d:=fun g hg=>h g fun p hp=>hg p (hs p hp)
theorem RdL.int {i : Int} {t : Tok} : RdL nl (.int i t) (.int i):=fun _ _=>⟨[],.int i t⟩
theorem RdL.bool {b : Bool} : RdL nl (.bool b) (.bool b):=fun _ _=>⟨[],.bool b⟩
theorem RdAll.nil : RdAll nl [] []:=fun _ _=>⟨[],.nil⟩
theorem RdAll.cons (h : RdL nl v d) (r : RdAll nl vs ds) : RdAll nl (v :: vs) (d :: ds):=fun g hg=>by
  obtain ⟨as,ra⟩:=h g hg
  obtain ⟨bs,rb⟩:=r g hg
  exact ⟨as ++ bs,.cons ra rb⟩
theorem RdL.tup {a : Addr} (hm : (a,tupObj vs) ∈ nl) (r : RdAll nl vs ds) : RdL nl (.ref a) (.tuple ds):=fun g hg=>by
  obtain ⟨as,ra⟩:=r g hg
  exact ⟨as,.tuple (hg _ hm) rfl rfl (by simpa using ra)⟩
theorem rdAll_ints {vs : List Value} {ns : List Int} (h : IntsAre vs ns) : RdAll nl vs (ns.map .int):=by
  induction h with
  | nil=>exact .nil
  | cons _ _ _ ih=>exact .cons .int ih
theorem tupsL_tail {p : Int × Int} {ps : List (Int × Int)} (h : TupsL nl (v :: vs) (p :: ps)) : TupAt nl v p ∧ TupsL nl vs ps :=
  ⟨by simpa using h.item 0 (by simp),⟨by simpa using h.len,fun i hi=>by simpa using h.item (i + 1) (by simpa using hi)⟩⟩
noncomputable def pairD (p : Int × Int) : PyData:=.tuple [.int p.1,.int p.2]
theorem rdAll_tups : ∀ {vs : List Value} {ps : List (Int × Int)},TupsL nl vs ps → RdAll nl vs (ps.map pairD)
  | [],[],_=>.nil
  | v :: vs,p :: ps,h=>by
    obtain ⟨⟨a,t,u,rfl,hm⟩,hr⟩:=tupsL_tail h
    exact .cons (RdL.tup (vs:=[.int p.1 t,.int p.2 u]) hm (.cons .int (.cons .int .nil))) (rdAll_tups hr)
  | [],_ :: _,h=>by have:=h.len;simp at this
  | _ :: _,[],h=>by have:=h.len;simp at this
theorem srtI_len (ps : List (Int × Int)) : (srtI ps).length = ps.length:=by simp [srtI,permN_size]
theorem tups_len {D : List (Int × Int)} (h : TupsL nl vs (srtI (nzD D))) (hl : D.length ≤ 4000) : vs.toArray.size ≤ 16384:=by
  rw [List.size_toArray,h.len,srtI_len]
  have:=nz_len D
  omega
noncomputable def flD (f : Fl) : PyData:=.tuple [.int f.cf,.int f.pf,.int f.af,.int f.zf,.int f.sf,.int f.of,.int f.df]
noncomputable def meD (D : List (Int × Int)) : PyData:=.tuple ((srtI (nzD D)).map pairD)
end
theorem mtold_c (B : Below A₀ base outer h₀) (F : Fr h₀ L hpS m) (X : (heapK w.params).In h₀) (N : News h₀ L hpS news) (T : Top viewK loose mean mg mb h₀) (hk : cs.kind = .function)
  {me md held : Addr} {th : Tok} {o : Obj} {D : List (Int × Int)}
  (hd : dp + 12 < recursionLimit) (hu : un + 8 * 40 < cLine)
  (h1 : (me,instObj 394 md) ∈ news) (h2 : (md,dictOf [ent w "held" th (.ref held)] 1) ∈ news) (h3 : (held,o) ∈ news) (hMc : IsMem w o D) (hlo : (held == sysModules) = false) (hlen : D.length ≤ 4000)
  (ret : ∀ (r : Addr) (nl : List (Addr × Obj)) h' tk',Fr h₀ L h' m → News h₀ L h' (news ++ nl) → RdL nl (.ref r) (meD D) → Q (.ref r) ⟨h',gnS,drS,tk',osS⟩) :
  wpAny (model PySem.Challenge.rw_qd0115_01.row.prog w) (ktrTop dp un gd cn cs L a ccd cl outer) (call (.ref 391) [.ref me]) Q E ⟨hpS,gnS,drS,tkS,osS⟩:=by
  have hS : ∀ q ∈ [(me,instObj 394 md),(md,dictOf [ent w "held" th (.ref held)] 1),(held,o)],q ∈ news:=by
    walk_at "hs in"
  refine wpAny_call ?_
  ktr_enter
  k_with "call type:tuple"=>((fail_if_success have:=off71);k_here;(rename Fr _ _ _ _=>lF);(rename News _ _ _ _=>lN);(rename TupsL _ _ _=>lT);refine kde_tupleOf lF lN (News.isList lN (by k_mem)) (tups_len lT hlen) (List.toList_toArray) ?_;intro D2 h2 F2 N2 l2;(try k_sweep))
  k_steps
  refine withKept_ok fun hK=>?_
  show Q _ _
  rename News h₀ _ _ _=>nH
  rename TupsL _ _ _=>lT
  refine ret _ ((_,tupObj vs') :: nl') _ _ (by k_asm) (news_app2 nH (fun q hq=>?_) (news_same N hK hS nH (by intro q hq;simp only [List.mem_cons,List.not_mem_nil,or_false] at hq;rcases hq with rfl | rfl | rfl <;> k_mem))) (RdL.tup (.head _) (rdAll_tups (lT.mono fun q hq=>.tail _ hq)))
  rcases List.mem_cons.mp hq with rfl | hq
  · exact .head _
  · exact .tail _ (.tail _ (.tail _ (.tail _ (.tail _ hq))))
example : True:=by (k_with "call ref"=>(k_here;(with_reducible show wpAny _ _ (call (Value.ref 391) _ _) _ _ _);k_dflt (refine' mtold_c ?k1 ?k2 ?k3 ?k4 ?k5 ?kK ?kd ?ku ?m0 ?m1 ?m2 ?m3 ?m4 ?m5 ?_;walk_at "ks";(case m0=>k_mem);(case m1=>k_mem);(case m2=>k_mem);(case m3=>k_asm);(case m4=>k_asm);(case m5=>walk_at "om");k_whole;intro r' nl' h' tk' F' N' hx0';(try simp only [List.cons_append,List.nil_append] at N');(try k_sweep))));trivial

theorem ftold_c (B : Below A₀ base outer h₀) (F : Fr h₀ L hpS m) (X : (heapK w.params).In h₀) (N : News h₀ L hpS news) (T : Top viewK loose mean mg mb h₀) (hk : cs.kind = .function)
  {fl fd : Addr} {τ : FlT} {f : Fl}
  (hd : dp + 4 < recursionLimit) (hu : un + 8 * 10 < cLine)
  (h1 : (fl,instObj 188 fd) ∈ news) (h2 : (fd,flDict w τ f) ∈ news)
  (ret : ∀ (r : Addr) (nl : List (Addr × Obj)) h' tk',Fr h₀ L h' m → News h₀ L h' (news ++ nl) → RdL nl (.ref r) (flD f) → Q (.ref r) ⟨h',gnS,drS,tk',osS⟩) :
  wpAny (model PySem.Challenge.rw_qd0115_01.row.prog w) (ktrTop dp un gd cn cs L a ccd cl outer) (call (.ref 136) [.ref fl]) Q E ⟨hpS,gnS,drS,tkS,osS⟩:=by
  have hS : ∀ q ∈ [(fl,instObj 188 fd),(fd,flDict w τ f)],q ∈ news:=by
    walk_at "hs in"
  refine wpAny_call ?_
  ktr_enter
  k_steps
  refine withKept_ok fun hK=>?_
  show Q _ _
  rename News h₀ _ _ _=>nH
  refine ret _ [(_,tupObj [.int f.cf τ.b,.int f.pf τ.d,.int f.af τ.f,.int f.zf τ.h,.int f.sf τ.j,.int f.of τ.l,.int f.df τ.n])] _ _ (by k_asm) (news_app2 nH (fun q hq=>?_) (news_same N hK hS nH (by intro q hq;simp only [List.mem_cons,List.not_mem_nil,or_false] at hq;rcases hq with rfl | rfl <;> k_mem))) (RdL.tup (.head _) (.cons .int (.cons .int (.cons .int (.cons .int (.cons .int (.cons .int (.cons .int .nil))))))))
  rw [List.mem_singleton.mp hq]
  exact .head _
example : True:=by (k_with "call ref"=>(k_here;(with_reducible show wpAny _ _ (call (Value.ref 136) _ _) _ _ _);k_dflt (refine' ftold_c ?k1 ?k2 ?k3 ?k4 ?k5 ?kK ?kd ?ku ?m0 ?m1 ?_;walk_at "ks";(case m0=>k_mem);(case m1=>k_mem);k_whole;intro r' nl' h' tk' F' N' hx0';(try simp only [List.cons_append,List.nil_append] at N');(try k_sweep))));trivial

noncomputable def stD (ns : List Int) (f : Fl) (D : List (Int × Int)) (rip : Int) : PyData:=.tuple [.tuple (ns.map .int),.tuple (z16.map .int),flD f,meD D,.int rip,.tuple [.int 0,.int 0],.bool false]
theorem stold_c (B : Below A₀ base outer h₀) (F : Fr h₀ L hpS m) (X : (heapK w.params).In h₀) (N : News h₀ L hpS news) (T : Top viewK loose mean mg mb h₀) (hk : cs.kind = .function)
  {σ : StA} {τ : StT} {rip beg : Int} {vs xs : List Value} {ns : List Int} {ep xep : Nat} {th : Tok} {o os of : Obj} {f : Fl} {D : List (Int × Int)}
  (hd : dp + 16 < recursionLimit) (hu : un + 8 * 60 < cLine)
  (a0 : (σ.seg,os) ∈ news) (a1 : (σ.held,o) ∈ news) (a2 : (σ.me,instObj 394 σ.md) ∈ news) (a3 : (σ.md,dictOf [ent w "held" th (.ref σ.held)] 1) ∈ news) (a4 : (σ.fl,instObj 188 σ.fd) ∈ news) (a5 : (σ.fd,of) ∈ news) (a6 : (σ.xmm,W.listOf xs.toArray xep) ∈ news) (a7 : (σ.regs,W.listOf vs.toArray ep) ∈ news) (a8 : (σ.x,instObj 511 σ.dx) ∈ news) (a9 : (σ.dx,stDict w τ σ rip beg) ∈ news) (hI : IntsAre vs ns) (hlen : ns.length = 16) (hxs : IntsAre xs z16) (hof : IsFl w of f) (hM : IsMem w o D) (hlD : D.length ≤ 4000) (hsg : IsSeg w os) (hlo : (σ.held == sysModules) = false)
  (ret : ∀ (r : Addr) (nl : List (Addr × Obj)) h' tk',Fr h₀ L h' m → News h₀ L h' (news ++ nl) → RdL nl (.ref r) (stD ns f D rip) → Q (.ref r) ⟨h',gnS,drS,tk',osS⟩) :
  wpAny (model PySem.Challenge.rw_qd0115_01.row.prog w) (ktrTop dp un gd cn cs L a ccd cl outer) (call (.ref 501) [.ref σ.x]) Q E ⟨hpS,gnS,drS,tkS,osS⟩:=by
  refine sealG ?_
  intro G9 k9
  obtain ⟨τF,hofe⟩:=id hof
  refine k9 ?_
  clear k9 G9
  subst hofe
  refine sealG ?_
  intro G9 k9
  obtain ⟨tg1,tg2,hdg⟩:=id hsg
  refine k9 ?_
  clear k9 G9
  have hsz1 : vs.toArray.size ≤ 16384:=by rw [List.size_toArray,hI.length];omega
  have hsz2 : xs.toArray.size ≤ 16384:=by rw [List.size_toArray,hxs.length];decide
  have hS : ∀ q ∈ [(σ.seg,os),(σ.held,o),(σ.me,instObj 394 σ.md),(σ.md,dictOf [ent w "held" th (.ref σ.held)] 1),(σ.fl,instObj 188 σ.fd),(σ.fd,flDict w τF f),(σ.xmm,W.listOf xs.toArray xep),(σ.regs,W.listOf vs.toArray ep),(σ.x,instObj 511 σ.dx),(σ.dx,stDict w τ σ rip beg)],q ∈ news:=by
    walk_at "hs in"
  refine wpAny_call ?_
  ktr_enter
  k_with "call type:tuple"=>((fail_if_success have:=off71);k_here;(rename Fr _ _ _ _=>lF);(rename News _ _ _ _=>lN);(first | (refine kde_tupleOf lF lN (News.isList lN (items:=vs.toArray) (by k_mem)) hsz1 (List.toList_toArray) ?_) | (refine kde_tupleOf lF lN (News.isList lN (items:=xs.toArray) (by k_mem)) hsz2 (List.toList_toArray) ?_));intro D2 h2 F2 N2 l2;(try k_sweep))
  k_steps
  refine withKept_ok fun hK=>?_
  show Q _ _
  rename News h₀ _ _ _=>nH
  rename RdL _ _ (flD _)=>rF
  rename RdL _ _ (meD _)=>rM
  refine ret _ _ _ _ (by k_asm) (news_app2 nH (fun q hq=>hq) (news_same N hK hS nH (by intro q hq;simp only [List.mem_cons,List.not_mem_nil,or_false] at hq;rcases hq with rfl | rfl | rfl | rfl | rfl | rfl | rfl | rfl | rfl | rfl <;> k_mem))) (RdL.tup (.head _) (.cons (RdL.tup (vs:=vs) (by k_mem) (rdAll_ints hI)) (.cons (RdL.tup (vs:=xs) (by k_mem) (rdAll_ints hxs)) (.cons (rF.mono ?_) (.cons (rM.mono ?_) (.cons .int (.cons (RdL.tup (vs:=[.int 0 tg1,.int 0 tg2]) (by k_mem) (.cons .int (.cons .int .nil))) (.cons .bool .nil))))))))
  · intro q hq
    simp only [List.mem_cons,List.mem_append,hq,true_or,or_true]
  · intro q hq
    simp only [List.mem_cons,List.mem_append,hq,true_or,or_true]
example : True:=by (k_with "call ref"=>(k_here;(with_reducible show wpAny _ _ (call (Value.ref 501) _ _) _ _ _);k_dflt (refine' stold_c ?k1 ?k2 ?k3 ?k4 ?k5 ?kK ?kd ?ku ?m0 ?m1 ?m2 ?m3 ?m4 ?m5 ?m6 ?m7 ?m8 ?m9 ?m10 ?m11 ?m12 ?m13 ?m14 ?m15 ?m16 ?m17 ?_;walk_at "ks";(case m0=>k_mem);(case m1=>k_mem);(case m2=>k_mem);(case m3=>k_mem);(case m4=>k_mem);(case m5=>k_mem);(case m6=>k_mem);(case m7=>k_mem);(case m8=>k_mem);(case m9=>k_mem);(case m10=>k_asm);(case m11=>k_asm);(case m12=>k_asm);(case m13=>k_asm);(case m14=>k_asm);(case m15=>walk_at "om");(case m16=>k_asm);(case m17=>k_asm);k_whole;intro r' nl' h' tk' F' N' hx0';(try simp only [List.cons_append,List.nil_append] at N');(try k_sweep))));trivial
theorem off71 : True:=trivial
theorem raisedSN_sub {base G : Heap} {le : List Env} {e : Addr} {cls : Value} {n1 n2 : List (Addr × Obj)} {h : Heap} (R : RaisedSN base G le e cls n1 h) (hs : ∀ q ∈ n2,q ∈ n1) : RaisedSN base G le e cls n2 h:=by
  obtain ⟨B,a0,x1,x2,x3,x4⟩:=R
  exact ⟨B,a0,x1,x2,fun q hq=>x3 q (hs q hq),x4⟩
noncomputable def Rs71 (E : Value → Shared → Prop) (v : Value) (s₁ : Shared) : Prop :=
  ∃ e t oe,v = .ref e ∧ s₁.heap.get? 71 = some (excClassObj "MachineError" "MachineError" 71 70 [.ref 46] bm71 true [] [] false none none (some (.ref 62)) none (some (.str "MachineError" 250)) (some (.str "MachineError" 258)) (some (.bool true)) "Exception.__new__") ∧
      s₁.heap.get? e = some oe ∧ oe.cls = .ref 71 ∧ oe.data = .fields #[.ref t,.none,.none,.none,.bool false,.none] ∧ E (.ref e) s₁
theorem raise71R {prog : Program} {A : Around} {hpS : Heap} {gnS : Array GenState} {drS : Drawn} {tkS : Nat} {osS : OsState} {env : Env} {ex : PySem.Expr} {pos : Pos} {Q : Flow → Shared → Prop} (hh : A.handled = none) (h : wpAny (model prog w) A (eval ex env) (Rs71 E) E ⟨hpS,gnS,drS,tkS,osS⟩) : wpAny (model prog w) A (exec (.Raise (some ex) none pos) env) Q E ⟨hpS,gnS,drS,tkS,osS⟩:=Raise71 hh h
theorem done_trap (B : Below A₀ base outer h₀) (F : Fr h₀ L hpS m) (X : (heapK w.params).In h₀) (N : News h₀ L hpS news) (T : Top viewK loose mean mg mb h₀) (hk : cs.kind = .function)
  {sx ins dl : Addr} {de : Nat} {nm : Str} {ops : List Value}
  (hd : dp + 22 < recursionLimit) (hu : un + 8 * 40 < cLine) (R : InsAt w news ins nm "" ops) (hnm : nm = "ud2" ∨ nm = "cpuid") (hdl : (dl,W.listOf #[.ref 952] de) ∈ news)
  (err : ∀ e g₂ h' tk',Fr h₀ L g₂ m → RaisedSN base g₂ (envX cn cs L a ccd cl :: outer) e (.ref 71) news h' → g₂.UpToSlots h' → E (.ref e) ⟨h',gnS,drS,tk',osS⟩) :
  wpAny (model PySem.Challenge.rw_qd0115_01.row.prog w) (ktrTop dp un gd cn cs L a ccd cl outer) (call (.ref 522) [.ref sx,.ref ins,.ref dl]) Q E ⟨hpS,gnS,drS,tkS,osS⟩:=by
  refine sealG ?_
  intro G9 k9
  obtain ⟨isd,tp,τi,b1,b2,b3⟩:=R
  refine k9 ?_
  clear k9 G9
  have hS : ∀ q ∈ ((ins,instObj 742 isd) :: (isd,insDict w τi nm tp "") :: (tp,tupObj ops) :: (dl,W.listOf #[.ref 952] de) :: news),q ∈ news:=by
    intro q hq
    simp only [List.mem_cons] at hq
    rcases hq with rfl | rfl | rfl | rfl | hq <;> assumption
  refine wpAny_call ?_
  ktr_enter
  k_with "exec Raise some none"=>((fail_if_success have:=off72);k_here;refine raise71R (by with_unfolding_all rfl) ?_)
  k_with "call ref"=>((fail_if_success have:=off72);k_here;(with_reducible show wpAny _ _ (call (Value.ref 71) _ _) _ _ _);k_dflt (refine' mk71 ?k1 ?k2 ?k3 ?k4 ?k5 ?kK ?kd ?ku ?_;(case k1=>k_asm);(case k2=>k_asm);(case k3=>k_asm);(case k4=>k_asm);(case k5=>k_asm);(case kK=>exact rfl);(case kd=>ktr_room);(case ku=>ktr_units));k_whole;intro e' t2' d2' h' tk' F' N' hO';(try k_sweep))
  rcases hnm with rfl | rfl
  all_goals
    k_steps
    rename Fr g' _ _ _=>fE
    rename News g' _ _ ((e',_) :: _)=>nE
    exact ⟨e',_,_,rfl,cls71 (X'.keeps fE.keep),(nE _ (.head _)).1,rfl,rfl,leave_excS B' fE nE hO' rfl rfl (fun h2 R2 u2=>err e' g' h2 _ FG' (raisedSN_sub R2 (fun q hq=>.tail _ (.tail _ (.tail _ (.tail _ (.tail _ hq)))))) u2)⟩

theorem done_add (B : Below A₀ base outer h₀) (F : Fr h₀ L hpS m) (X : (heapK w.params).In h₀) (N : News h₀ L hpS news) (T : Top viewK loose mean mg mb h₀) (hk : cs.kind = .function)
  {sx ins dl : Addr} {de : Nat} {ro io : Addr} {number size y : Int}
  (hd : dp + 22 < recursionLimit) (hu : un + 8 * 40 < cLine) (R : InsAt w news ins "add" "" [.ref ro,.ref io]) (R1 : RegAt w news ro number size) (R2 : ImmAt w news io y) (hdl : (dl,W.listOf #[.ref 952] de) ∈ news)
  (err : ∀ e g₂ h' tk',Fr h₀ L g₂ m → RaisedSN base g₂ (envX cn cs L a ccd cl :: outer) e (.ref 71) news h' → g₂.UpToSlots h' → E (.ref e) ⟨h',gnS,drS,tk',osS⟩) :
  wpAny (model PySem.Challenge.rw_qd0115_01.row.prog w) (ktrTop dp un gd cn cs L a ccd cl outer) (call (.ref 522) [.ref sx,.ref ins,.ref dl]) Q E ⟨hpS,gnS,drS,tkS,osS⟩:=by
  refine sealG ?_
  intro G9 k9
  obtain ⟨isd,tp,τi,b1,b2,b3⟩:=R
  obtain ⟨rod,rg,rd,τo,τ',rn,c1,c2,c3,c4⟩:=R1
  obtain ⟨iod,τq,f1,f2⟩:=R2
  refine k9 ?_
  clear k9 G9
  have hS : ∀ q ∈ ((ins,instObj 742 isd) :: (isd,insDict w τi "add" tp "") :: (tp,tupObj [.ref ro,.ref io]) :: (ro,instObj 602 rod) :: (rod,roDict w τo rg) :: (rg,instObj 279 rd) :: (rd,rgDict w τ' rn number size) :: (io,instObj 636 iod) :: (iod,ioDict w τq y) :: (dl,W.listOf #[.ref 952] de) :: news),q ∈ news:=by
    intro q hq
    simp only [List.mem_cons] at hq
    rcases hq with rfl | rfl | rfl | rfl | rfl | rfl | rfl | rfl | rfl | rfl | hq <;> assumption
  refine wpAny_call ?_
  ktr_enter
  k_with "exec For"=>((fail_if_success have:=off72);(rename Fr _ _ _ _=>lF');(with_unfolding_all refine' For_invVF lF' ?k1 ?k2 ?_;(case k1=>exact rfl);(case k2=>exact rfl);k_whole))
  k_with "exec Raise some none"=>((fail_if_success have:=off72);k_here;refine raise71R (by with_unfolding_all rfl) ?_)
  k_with "call ref"=>((fail_if_success have:=off72);k_here;first
    | ((with_reducible show wpAny _ _ (call (Value.ref 71) _ _) _ _ _);k_dflt (refine' mk71 ?k1 ?k2 ?k3 ?k4 ?k5 ?kK ?kd ?ku ?_;(case k1=>k_asm);(case k2=>k_asm);(case k3=>k_asm);(case k4=>k_asm);(case k5=>k_asm);(case kK=>exact rfl);(case kd=>ktr_room);(case ku=>ktr_units));k_whole;intro e' t2' d2' h' tk' F' N' hO';(try k_sweep))
    | ((with_reducible show wpAny _ _ (call (Value.ref 952) _ _) _ _ _);k_dflt (refine' t_add ?k1 ?k2 ?k3 ?k4 ?k5 ?kK ?kd ?ku ?i1 ?i2 ?i3 ?r1 ?r2 ?r3 ?r4 ?j1 ?j2 ?_;(case k1=>k_asm);(case k2=>k_asm);(case k3=>k_asm);(case k4=>k_asm);(case k5=>k_asm);(case kK=>exact rfl);(case kd=>ktr_room);(case ku=>ktr_units);(case i1=>k_mem);(case i2=>k_mem);(case i3=>k_mem);(case r1=>k_mem);(case r2=>k_mem);(case r3=>k_mem);(case r4=>k_mem);(case j1=>k_mem);(case j2=>k_mem));k_whole;intro h' tk' F' N';(try k_sweep))
    | fail "call ref: no row")
  k_steps
  rename Fr _ _ _ _=>lF'
  rename News _ _ _ _=>lN'
  with_unfolding_all refine iter_listUnr (lo:=W.listOf #[.ref 952] de) (vs:=[.ref 952]) (by rfl) lF' lN' (by k_mem) (by rfl) (by rfl) ?_
  clear lF'
  intro i' l1
  k_steps
  rename Fr g' _ _ _=>fE
  rename News g' _ _ _=>nE
  refine UnrEnd.intro fE nE _ (fun _ h=>h) (fun p hp=>Nat.ne_of_lt (l1 p hp)) ⟨by k_mem,?_⟩
  clear fE nE
  k_steps
  rename Fr g' _ _ _=>fE
  rename News g' _ _ ((e',_) :: _)=>nE
  exact ⟨e',_,_,rfl,cls71 (X'.keeps fE.keep),(nE _ (.head _)).1,rfl,rfl,leave_excS B' fE nE hO' rfl rfl (fun h2 R2 u2=>err e' g' h2 _ FG' (raisedSN_sub R2 (fun q hq=>.tail _ (.tail _ (.tail _ (.tail _ (.tail _ (.tail _ (.tail _ (.tail _ (.tail _ (.tail _ (.tail _ hq)))))))))))) u2)⟩
theorem off72 : True:=trivial
inductive BadAt (w : World) (l : List (Addr × Obj)) (ins : Addr) : Prop
  | trap (nm : Str) (ops : List Value) (h : nm = "ud2" ∨ nm = "cpuid") (hi : InsAt w l ins nm "" ops)
  | add (ro io : Addr) (n z y : Int) (hi : InsAt w l ins "add" "" [.ref ro,.ref io]) (hr : RegAt w l ro n z) (hy : ImmAt w l io y)
  | rep (nm : Str) (ops : List Value) (pf : Str) (h : pf = "rep" ∨ pf = "repne") (hi : InsAt w l ins nm pf ops)
theorem BadAt.mono {l l' : List (Addr × Obj)} {ins : Addr} (h : BadAt w l ins) (hl : ∀ p ∈ l,p ∈ l') : BadAt w l' ins:=by
  cases h with
  | trap nm ops h1 h2=>exact .trap nm ops h1 (h2.mono hl)
  | add ro io n z y h1 h2 h3=>exact .add ro io n z y (h1.mono hl) (h2.mono hl) (h3.mono hl)
  | rep nm ops pf h1 h2=>exact .rep nm ops pf h1 (h2.mono hl)
theorem StAt.more {l : List (Addr × Obj)} {σ : StA} {rip beg : Int} (S : StAt w l σ rip beg) {I : Addr} {it : Obj} (n1 : I ≠ σ.regs) (n2 : I ≠ σ.held) (n3 : I ≠ σ.fd) : StAt w ((I,it) :: l) σ rip beg:=by
  obtain ⟨h1,⟨τ,h2⟩,f1,e1,⟨th,e2⟩,o1,o2,o3,n12,n13,n23,sys⟩:=S
  exact ⟨.tail _ h1,⟨τ,.tail _ h2⟩,.tail _ f1,.tail _ e1,⟨th,.tail _ e2⟩,off_cons n1 o1,off_cons n2 o2,off_cons n3 o3,n12,n13,n23,sys⟩
theorem led_in {σ : StA} {vs : List Value} {ep : Nat} {o of : Obj} {l : List (Addr × Obj)} {p : Addr × Obj} (h : p ∈ l) : p ∈ led σ vs ep o of l:=.tail _ (.tail _ (.tail _ h))
theorem led_more {h₀ h : Heap} {L : Addr} {σ : StA} {vs : List Value} {ep : Nat} {o of : Obj} {l : List (Addr × Obj)} {p : Addr × Obj} (N : News h₀ L h (p :: led σ vs ep o of l)) : News h₀ L h (led σ vs ep o of (p :: l)):=news_part N fun q hq=>by
  simp only [led,List.mem_cons] at hq ⊢
  rcases hq with h | h | h | h | h <;> simp only [h,true_or,or_true]
theorem led_less {h₀ h : Heap} {L : Addr} {σ : StA} {vs : List Value} {ep : Nat} {o of : Obj} {l : List (Addr × Obj)} {p : Addr × Obj} (N : News h₀ L h (led σ vs ep o of (p :: l))) : News h₀ L h (p :: led σ vs ep o of l):=news_part N fun q hq=>by
  simp only [led,List.mem_cons] at hq ⊢
  rcases hq with h | h | h | h | h <;> simp only [h,true_or,or_true]
theorem led_off {σ : StA} {vs vs' : List Value} {ep ep' : Nat} {o o' of of' : Obj} {l : List (Addr × Obj)} {I : Addr} (h : ∀ p ∈ led σ vs ep o of l,p.1 ≠ I) : ∀ p ∈ led σ vs' ep' o' of' l,p.1 ≠ I:=fun p hp=>by
  obtain ⟨q,hq,e⟩:=led_adr (vs:=vs) (ep:=ep) (o:=o) (of:=of) p hp
  exact e ▸ h q hq
noncomputable abbrev runs (rws : List RowD) (M : Mach) : Mach:=rws.foldl (fun M r=>stepR r M) M
theorem runs_take {rws : List RowD} {M : Mach} {i : Nat} {r : RowD} (h : rws[i]? = some r) : runs (rws.take (i + 1)) M = stepR r (runs (rws.take i) M):=by
  unfold runs
  rw [List.take_add_one,h,List.foldl_append]
  rfl
inductive RunI (w : World) (σ : StA) (l : List (Addr × Obj)) (m₀ : Str → Option Value) (x : Str) (rws : List RowD) (M : Mach) (i : Nat) : (Str → Option Value) → List (Addr × Obj) → Prop
  | mk (vs' : List Value) (ep' : Nat) (o' of' : Obj) (vl : Option Value) (H' : MaAt w (runs (rws.take i) M) vs' o' of') (hD' : (runs (rws.take i) M).D.length ≤ M.D.length + 16 * i) (hi' : i ≤ rws.length) : RunI w σ l m₀ x rws M i (bindM m₀ x vl) (led σ vs' ep' o' of' l)
theorem RunI.of {σ : StA} {l l' : List (Addr × Obj)} {m₀ m : Str → Option Value} {x : Str} {rws : List RowD} {M : Mach} {i : Nat} (vs' : List Value) (ep' : Nat) (o' of' : Obj) (vl : Option Value) (e1 : l' = led σ vs' ep' o' of' l) (e2 : m = bindM m₀ x vl) (H' : MaAt w (runs (rws.take i) M) vs' o' of') (hD' : (runs (rws.take i) M).D.length ≤ M.D.length + 16 * i) (hi' : i ≤ rws.length) : RunI w σ l m₀ x rws M i m l':=by
  subst e1 e2;exact .mk vs' ep' o' of' vl H' hD' hi'
theorem RunI.mem {σ : StA} {l l' : List (Addr × Obj)} {m₀ m : Str → Option Value} {x : Str} {rws : List RowD} {M : Mach} {i : Nat} {p : Addr × Obj} (hp : p ∈ l) (h : RunI w σ l m₀ x rws M i m l') : p ∈ l':=by cases h;exact .tail _ (.tail _ (.tail _ hp))
theorem perform_c {σ : StA} {rip beg : Int} {l : List (Addr × Obj)} {M : Mach} {vs : List Value} {ep : Nat} {o of : Obj} {rl dl : Addr} {re de : Nat} {rws : List RowD} {its : List Addr}
  (B : Below A₀ base outer h₀) (F : Fr h₀ L hpS m) (X : (heapK w.params).In h₀) (N : News h₀ L hpS (led σ vs ep o of l)) (T : Top viewK loose mean mg mb h₀) (hk : cs.kind = .function)
  (hd : dp + 26 < recursionLimit) (hu : un + 8 * 44 < cLine) (S : StAt w l σ rip beg) (H : MaAt w M vs o of) (hrl : (rl,W.listOf (its.map Value.ref).toArray re) ∈ l) (hdl : (dl,W.listOf #[.ref 952] de) ∈ l)
  (hR : ∀ (i : Nat) r,rws[i]? = some r → ∃ a,its[i]? = some a ∧ RowAt w l a r) (hB : rws.length = its.length ∨ ∃ a,its[rws.length]? = some a ∧ BadAt w l a) (hz : M.D.length + 16 * rws.length ≤ 3900)
  (ret : rws.length = its.length → ∀ vs' ep' o' of' h' tk',Fr h₀ L h' m → News h₀ L h' (led σ vs' ep' o' of' l) → MaAt w (runs rws M) vs' o' of' → (runs rws M).D.length ≤ M.D.length + 16 * rws.length → Q .none ⟨h',gnS,drS,tk',osS⟩)
  (err : (∃ a,its[rws.length]? = some a ∧ BadAt w l a) → ∀ e g₂ vs' ep' o' of' h' tk',Fr h₀ L g₂ m → RaisedSN base g₂ (envX cn cs L a ccd cl :: outer) e (.ref 71) (led σ vs' ep' o' of' l) h' → g₂.UpToSlots h' → MaAt w (runs rws M) vs' o' of' → (runs rws M).D.length ≤ M.D.length + 16 * rws.length → E (.ref e) ⟨h',gnS,drS,tk',osS⟩) :
  wpAny (model PySem.Challenge.rw_qd0115_01.row.prog w) (ktrTop dp un gd cn cs L a ccd cl outer) (call (.ref 529) [.ref σ.x,.ref rl,.ref dl]) Q E ⟨hpS,gnS,drS,tkS,osS⟩:=by
  have hS : ∀ q ∈ ((rl,W.listOf (its.map Value.ref).toArray re) :: led σ vs ep o of l),q ∈ led σ vs ep o of l:=fun q hq=>by
    rcases List.mem_cons.mp hq with rfl | hq
    · exact led_in hrl
    · exact hq
  refine wpAny_call ?_
  ktr_enter
  k_with "exec For"=>((fail_if_success have:=off73);(rename Fr _ _ _ _=>lF');(with_unfolding_all refine' For_invVF lF' ?k1 ?k2 ?_;(case k1=>exact rfl);(case k2=>exact rfl);k_whole))
  k_with "pyIter ref"=>((fail_if_success have:=off73);k_here;(with_reducible show wpAny _ _ (pyIter (Value.ref _)) (fun it s₂=>LoopAtV _ _ _ _ _ _ _ _ _ it s₂) _ _);refine stopI ?_)
  k_steps
  delta Stop
  rename Fr _ _ _ _=>lF
  rename News _ _ _ _=>lN
  with_unfolding_all refine listT (lo:=W.listOf (its.map Value.ref).toArray re) (vs:=its.map Value.ref) (fun i m l'=>RunI w σ l _ "instruction" rws M i m l') (by rfl) lF (news_part lN (fun _ h=>.tail _ h)) (by rfl) (by rfl) (fun i m l' h=>h.mem hrl) (.of _ _ _ _ _ rfl (bindM_start _ _) H (Nat.le_refl _) (Nat.zero_le _)) ?turn ?done
  · intro i v I it m₁ news₁ h tk hv hic hoff w911 F1 N1
    obtain ⟨vs',ep',o',of',vl,H',hD',hi'⟩:=w911
    rw [bindM_bind] at F1
    unfold bindM at F1
    clear lF lN
    refine sealG ?_
    intro G9 k9
    obtain ⟨ia,hia,rfl⟩ : ∃ ia,its[i]? = some ia ∧ v = .ref ia:=by
      rw [List.getElem?_map] at hv
      cases q : its[i]? with
      | none=>rw [q] at hv;cases hv
      | some x=>rw [q] at hv;exact ⟨x,rfl,(Option.some.inj hv).symm⟩
    refine k9 ?_
    clear k9 G9
    have hil : i < its.length:=(List.getElem?_eq_some_iff.mp hia).1
    by_cases hlt : i < rws.length
    · refine sealG ?_
      intro G9 k9
      obtain ⟨r,hr⟩ : ∃ r,rws[i]? = some r:=⟨rws[i],by simp [hlt]⟩
      refine k9 ?_
      clear k9 G9
      refine sealG ?_
      intro G9 k9
      obtain ⟨ia',e1,R⟩:=hR i r hr
      refine k9 ?_
      clear k9 G9
      rw [hia] at e1
      obtain rfl:=Option.some.inj e1
      have hrt:=runs_take (M:=M) hr
      refine sealG ?_
      intro G9 k9
      obtain ⟨nm,ops,⟨isd,tp,τi,b1,b2,b3⟩,-⟩:=R.ins
      refine k9 ?_
      clear k9 G9
      have N2:=news_cons N1 (.tail _ (led_in b1)) (news_cons N1 (.tail _ (led_in b2)) N1)
      clear N1
      have n1 : I ≠ σ.regs:=Ne.symm (hoff _ (.head _))
      have n2 : I ≠ σ.held:=Ne.symm (hoff _ (.tail _ (.head _)))
      have n3 : I ≠ σ.fd:=Ne.symm (hoff _ (.tail _ (.tail _ (.head _))))
      k_with "call ref"=>((fail_if_success have:=off73);k_here;(with_reducible show wpAny _ _ (call (Value.ref 522) _) _ _ _);(rename News _ _ _ _=>lN);k_dflt (refine' done_ok (σ:=σ) (rip:=rip) (beg:=beg) (l:=(I,it) :: l) (M:=runs (rws.take i) M) (vs:=vs') (ep:=ep') (o:=o') (of:=of') (r:=r) ?k1 ?k2 ?k3 (led_more (news_part lN (fun _ h=>.tail _ (.tail _ (.tail _ h))))) ?k5 ?kK ?kd ?ku (S.more n1 n2 n3) H' (R.mono (fun _ h=>.tail _ h)) (by omega) (.tail _ hdl) ?_;(case k1=>k_asm);(case k2=>k_asm);(case k3=>k_asm);(case k5=>k_asm);(case kK=>exact rfl);(case kd=>ktr_room);(case ku=>ktr_units));k_whole;clear lN;intro vs2 ep2 o2 of2 h2 tk2 F2 N2 H2 hD2)
      k_steps
      rename Fr _ _ _ _=>fE
      rename News _ _ _ (led σ _ _ _ _ _)=>nE
      refine UnrEnd.intro fE (led_less nE) _ (fun _ h=>h) (led_off hoff) (.of vs2 ep2 o2 of2 (some (.ref ia)) rfl rfl (hrt ▸ H2) ?_ hlt)
      rw [hrt]
      omega
    · have hie : i = rws.length:=by omega
      have hbad : ∃ a,its[rws.length]? = some a ∧ BadAt w l a:=by
        rcases hB with h | h
        · omega
        · exact h
      have hb : BadAt w l ia:=by
        refine sealG ?_
        intro G9 k9
        obtain ⟨a,e1,b⟩:=hbad
        refine k9 ?_
        clear k9 G9
        rw [← hie,hia] at e1
        exact Option.some.inj e1 ▸ b
      rw [List.take_of_length_le (by omega)] at H' hD'
      rw [hie] at hD'
      rcases hb with ⟨nm,ops,hnm,hI⟩ | ⟨ro,io,n,z,y,hI,hI1,hI2⟩ | ⟨nm,ops,pf,hpf,hI⟩
      · refine sealG ?_
        intro G9 k9
        obtain ⟨isd,tp,τi,b1,b2,b3⟩:=id hI
        refine k9 ?_
        clear k9 G9
        have N2:=news_cons N1 (.tail _ (led_in b1)) (news_cons N1 (.tail _ (led_in b2)) N1)
        clear N1
        k_with "call ref"=>((fail_if_success have:=off73);k_here;(with_reducible show wpAny _ _ (call (Value.ref 522) _) _ _ _);(rename News _ _ _ _=>lN);k_dflt (refine' done_trap (news:=led σ vs' ep' o' of' l) ?k1 ?k2 ?k3 (news_part lN (fun _ h=>List.Mem.tail _ (List.Mem.tail _ (List.Mem.tail _ (List.Mem.tail _ h))))) ?k5 ?kK ?kd ?ku (hI.mono (fun _ h=>led_in h)) hnm (led_in hdl) ?_;(case k1=>k_asm);(case k2=>k_asm);(case k3=>k_asm);(case k5=>k_asm);(case kK=>exact rfl);(case kd=>ktr_room);(case ku=>ktr_units));refine stopI ?_)
        k_steps
        delta Stop
        intro e g₂ h2 tk2 F2 R2 u2
        exact leave_onSN B' F2 R2 u2 (fun h3 R3 _ u3=>err hbad e g' _ _ _ _ h3 _ FG' R3 u3 H' hD')
      · refine sealG ?_
        intro G9 k9
        obtain ⟨isd,tp,τi,b1,b2,b3⟩:=id hI
        refine k9 ?_
        clear k9 G9
        have N2:=news_cons N1 (.tail _ (led_in b1)) (news_cons N1 (.tail _ (led_in b2)) N1)
        clear N1
        k_with "call ref"=>((fail_if_success have:=off73);k_here;(with_reducible show wpAny _ _ (call (Value.ref 522) _) _ _ _);(rename News _ _ _ _=>lN);k_dflt (refine' done_add (news:=led σ vs' ep' o' of' l) ?k1 ?k2 ?k3 (news_part lN (fun _ h=>List.Mem.tail _ (List.Mem.tail _ (List.Mem.tail _ (List.Mem.tail _ h))))) ?k5 ?kK ?kd ?ku (hI.mono (fun _ h=>led_in h)) (hI1.mono (fun _ h=>led_in h)) (hI2.mono (fun _ h=>led_in h)) (led_in hdl) ?_;(case k1=>k_asm);(case k2=>k_asm);(case k3=>k_asm);(case k5=>k_asm);(case kK=>exact rfl);(case kd=>ktr_room);(case ku=>ktr_units));refine stopI ?_)
        k_steps
        delta Stop
        intro e g₂ h2 tk2 F2 R2 u2
        exact leave_onSN B' F2 R2 u2 (fun h3 R3 _ u3=>err hbad e g' _ _ _ _ h3 _ FG' R3 u3 H' hD')
      · refine sealG ?_
        intro G9 k9
        obtain ⟨isd,tp,τi,b1,b2,b3⟩:=id hI
        refine k9 ?_
        clear k9 G9
        have N2:=news_cons N1 (.tail _ (led_in b1)) (news_cons N1 (.tail _ (led_in b2)) N1)
        clear N1
        k_with "exec Raise some none"=>((fail_if_success have:=off73);k_here;refine raise71R (by with_unfolding_all rfl) ?_)
        k_with "call ref"=>((fail_if_success have:=off73);k_here;(with_reducible show wpAny _ _ (call (Value.ref 71) _ _) _ _ _);k_dflt (refine' mk71 ?k1 ?k2 ?k3 ?k4 ?k5 ?kK ?kd ?ku ?_;(case k1=>k_asm);(case k2=>k_asm);(case k3=>k_asm);(case k4=>k_asm);(case k5=>k_asm);(case kK=>exact rfl);(case kd=>ktr_room);(case ku=>ktr_units));k_whole;intro e' t2' d2' h' tk' F' N' hO';(try k_sweep))
        rcases hpf with rfl | rfl
        all_goals
          k_steps
          rename Fr g' _ _ _=>fE
          rename News g' _ _ ((e',_) :: _)=>nE
          exact ⟨e',_,_,rfl,cls71 (X'.keeps fE.keep),(nE _ (.head _)).1,rfl,rfl,leave_excS B' fE nE hO' rfl rfl (fun h2 R2 u2=>err hbad e' g' _ _ _ _ h2 _ FG' (raisedSN_sub R2 (fun q hq=>List.Mem.tail _ (List.Mem.tail _ (List.Mem.tail _ (List.Mem.tail _ hq))))) u2 H' hD')⟩
  · intro m₁ news₁ h tk w94 F1 N1
    obtain ⟨vs',ep',o',of',vl,H',hD',hi'⟩:=w94
    unfold bindM at F1
    clear lF lN
    rw [List.length_map] at hi' H' hD'
    have hle : rws.length = its.length:=by
      rcases hB with h | ⟨a,h,_⟩
      · exact h
      · have:=(List.getElem?_eq_some_iff.mp h).1
        omega
    rw [List.take_of_length_le (by omega)] at H' hD'
    rw [← hle] at hD'
    k_steps
    refine withKept_ok fun hK=>?_
    show Q _ _
    rename News _ _ _ (led σ _ _ _ _ l)=>nH
    exact ret hle _ _ _ _ _ _ (by k_asm) (news_whole N nH led_adr) H' hD'
theorem off73 : True:=trivial
theorem refused_c {σ : StA} {rip beg : Int} {l : List (Addr × Obj)} {M : Mach} {vs : List Value} {ep : Nat} {o of : Obj} {rl : Addr} {re : Nat} {rws : List RowD} {its : List Addr}
  (B : Below A₀ h₀ [] h₀) (F : Fr h₀ L hpS m) (X : (heapK w.params).In h₀) (N : News h₀ L hpS (led σ vs ep o of l)) (T : Top viewK loose mean mg mb h₀) (hk : cs.kind = .function)
  (hd : dp + 30 < recursionLimit) (hu : un + 8 * 48 < cLine) (S : StAt w l σ rip beg) (H : MaAt w M vs o of) (hrl : (rl,W.listOf (its.map Value.ref).toArray re) ∈ l)
  (hR : ∀ (i : Nat) r,rws[i]? = some r → ∃ a,its[i]? = some a ∧ RowAt w l a r) (hB : rws.length = its.length ∨ ∃ a,its[rws.length]? = some a ∧ BadAt w l a) (hz : M.D.length + 16 * rws.length ≤ 3900)
  (ret : ∀ (b : Bool) vs' ep' o' of' h' tk',(b = true ↔ rws.length ≠ its.length) → Fr h₀ L h' m → News h₀ L h' (led σ vs' ep' o' of' l) → MaAt w (runs rws M) vs' o' of' → (runs rws M).D.length ≤ M.D.length + 16 * rws.length → Q (.bool b) ⟨h',gnS,drS,tk',osS⟩) :
  wpAny (model PySem.Challenge.rw_qd0115_01.row.prog w) (ktrTop dp un gd cn cs L a ccd cl []) (call (.ref 994) [.ref σ.x,.ref rl]) Q E ⟨hpS,gnS,drS,tkS,osS⟩:=by
  refine wpAny_call ?_
  k_dflt (refine' code_defSX ?k1 ?k2 ?k3 ?k4 ?k5 ?kA ?kF ?kK ?k6 ?k7 ?k8 ?k9 ?kB ?_ ?c2 ?c3 ?c4 ?c5;(case kA=>exact rfl);(case kF=>exact rfl);(case kK=>first | exact rfl | assumption);(case k1=>k_asm);(case k2=>k_asm);(case k3=>k_asm);(case k4=>k_asm);(case k5=>k_asm);(case k6=>k_is);(case k7=>k_is);(case k8=>ktr_room);(case k9=>first | exact bindsPos rfl | exact BindsTo.of_eq rfl | exact binds_K (by k_in) rfl (by k_is) rfl rfl rfl | fail "k_enter: no rule for these arguments");(case c5=>decide);(case kB=>exact locs rfl);(case c2=>exact rfl);(case c3=>exact rfl);(case c4=>exact rfl);k_whole;intro g' L' h' FG' F' N' B' X' T' D';(try walk_at "dh");(try k_lift B');(try k_fold))
  k_with "call ref"=>((fail_if_success have:=off74);k_here;(with_reducible show wpAny _ _ (call (Value.ref 529) _) _ _ _);refine stopI ?_)
  k_steps
  delta Stop
  rename Addr=>dl
  rename (σ.regs < dl ∧ _)=>lD
  rename News _ _ _ _=>lN
  obtain ⟨p1,p2,p3,-⟩:=lD
  refine' perform_c (σ:=σ) (rip:=rip) (beg:=beg) (l:=(dl,W.listOf #[.ref 952] 0) :: l) (M:=M) (vs:=vs) (ep:=ep) (o:=o) (of:=of) (rws:=rws) (its:=its) ?k1 ?k2 ?k3 (led_more lN) ?k5 ?kK ?kd ?ku (S.more (Nat.ne_of_gt p1) (Nat.ne_of_gt p2) (Nat.ne_of_gt p3)) H (.tail _ hrl) (.head _) (fun i r hr=>by obtain ⟨a,e1,e2⟩:=hR i r hr;exact ⟨a,e1,e2.mono (fun _ h=>.tail _ h)⟩) (hB.imp id fun ⟨a,e1,e2⟩=>⟨a,e1,e2.mono (fun _ h=>.tail _ h)⟩) hz ?ret ?err
  case k1=>k_asm
  case k2=>k_asm
  case k3=>k_asm
  case k5=>k_asm
  case kK=>exact rfl
  case kd=>ktr_room
  case ku=>ktr_units
  case ret =>
    intro hle vs' ep' o' of' h' tk' F2 N2 H2 hD2
    clear lN
    k_steps
    rename News h₀ _ _ (led σ _ _ _ _ _)=>nH
    exact ret false _ _ _ _ _ _ (by simp [hle]) (by k_asm) (fun p hp=>led_less nH p (.tail _ hp)) H2 hD2
  case err =>
    intro hbad e g₂ vs' ep' o' of' h' tk' F2 R2 u2 H2 hD2
    clear lN
    refine caught_exc R2 F2 B' u2 X T D' KtsTurn.refl (by first | k_is | rfl | kernel_rfl) (by first | rfl | kernel_rfl) ?_ rfl rfl (by decide) (by passes_own)
    intro h3 g3 T3 F3 N3 B3 X3 Tg3 D3
    k_steps
    rename News h₀ _ _ (led σ _ _ _ _ _)=>nH
    exact ret true _ _ _ _ _ _ (by
      obtain ⟨a,e1,_⟩:=hbad
      have:=(List.getElem?_eq_some_iff.mp e1).1
      simp only [true_iff]
      omega) (by k_asm) (fun p hp=>led_less nH p (.tail _ hp)) H2 hD2
theorem off74 : True:=trivial
structure Fixed (w : World) (l0 : List (Addr × Obj)) (σ : StA) (rip : Int) : Prop where
  h1 : (σ.x,instObj 511 σ.dx) ∈ l0
  h2 : ∃ τ beg,(σ.dx,stDict w τ σ rip beg) ∈ l0
  f1 : (σ.fl,instObj 188 σ.fd) ∈ l0
  e1 : (σ.me,instObj 394 σ.md) ∈ l0
  e2 : ∃ th,(σ.md,dictOf [ent w "held" th (.ref σ.held)] 1) ∈ l0
  g1 : ∃ os,(σ.seg,os) ∈ l0 ∧ IsSeg w os
  x1 : ∃ xs xep,(σ.xmm,W.listOf xs.toArray xep) ∈ l0 ∧ IntsAre xs z16
  sys : (σ.held == sysModules) = false
  o1 : Off l0 σ.regs
  o2 : Off l0 σ.held
  o3 : Off l0 σ.fd
  n12 : σ.regs ≠ σ.held
  n13 : σ.regs ≠ σ.fd
  n23 : σ.held ≠ σ.fd
noncomputable def Apart (σ σ2 : StA) : Prop:=∀ a ∈ [σ.regs,σ.held,σ.fd],∀ b ∈ [σ2.regs,σ2.held,σ2.fd],a ≠ b
section
variable {l0 l : List (Addr × Obj)} {σ σ2 : StA} {rip : Int}
theorem Fixed.at_ (h : Fixed w l0 σ rip) (hl : ∀ q ∈ l0,q ∈ l) (o1 : Off l σ.regs) (o2 : Off l σ.held) (o3 : Off l σ.fd) : ∃ beg,StAt w l σ rip beg:=by
  obtain ⟨τ,beg,h2⟩:=h.h2
  obtain ⟨th,e2⟩:=h.e2
  exact ⟨beg,hl _ h.h1,⟨τ,hl _ h2⟩,hl _ h.f1,hl _ h.e1,⟨th,hl _ e2⟩,o1,o2,o3,h.n12,h.n13,h.n23,h.sys⟩
theorem set_refs {prog : Program} {A : Around} {hpS : Heap} {gnS : Array GenState} {drS : Drawn} {tkS : Nat} {osS : OsState} {h₀ : Heap} {L D : Addr} {m : Str → Option Value} {news : List (Addr × Obj)} {vs : List Value} {n : Nat} {k : Int} {t : Tok} {v : Value} {g : Obj → List (Addr × Obj)} {Q : Unit → Shared → Prop} (F : Fr h₀ L hpS m) (N : News h₀ L hpS news) (U : UpdF D (W.listOf vs.toArray n) news g)
    (h0 : 0 ≤ k) (h1 : k < vs.length) (hfit : k < 2 ^ 63) (h : ∀ h',Fr h₀ L h' m → News h₀ L h' (g (W.listOf (vs.set k.toNat v).toArray n)) → Q () ⟨h',gnS,drS,tkS,osS⟩) :
    wpAny (model prog w) A (setItem (.ref D) (.int k t) v) Q E ⟨hpS,gnS,drS,tkS,osS⟩:=by
  obtain ⟨pre,post,rfl,hg,a,b⟩:=U.split
  have z:=N (D,W.listOf vs.toArray n) (List.mem_append.mpr (.inr (.head _)))
  have hs : vs.toArray.size = vs.length:=by rw [List.size_toArray]
  refine ki_setAt z.1 h0 hfit (by omega) (h _ (F.change (Heap.SameBut.update ..) z.2.1 z.2.2) ?_)
  rw [hg]
  refine ki_turn _ N a b ?_ ?_
  · show vs.toArray.setIfInBounds k.toNat v = (vs.set k.toNat v).toArray
    apply Array.toList_inj.mp
    simp
  · simp
end
structure RowsAt (w : World) (l nl : List (Addr × Obj)) (its : List Addr) (rws : List RowD) : Prop where
  len : its.length = rws.length
  row : ∀ (i : Nat) r,rws[i]? = some r → ∃ a,its[i]? = some a ∧ RowAt w nl a r
  off : ∀ p ∈ nl,Off l p.1
theorem RowsAt.nil {l : List (Addr × Obj)} : RowsAt w l [] [] []:=⟨rfl,fun _ _ h=>(nomatch h),fun _ h=>nomatch h⟩
theorem RowsAt.snoc {l nl nl' : List (Addr × Obj)} {its : List Addr} {rws : List RowD} {ins : Addr} {r : RowD} (h : RowsAt w l nl its rws) (hr : RowAt w nl' ins r) (ho : ∀ p ∈ nl',Off l p.1) : RowsAt w l (nl' ++ nl) (its ++ [ins]) (rws ++ [r]):=by
  refine ⟨by simp [h.len],fun i r' hi=>?_,fun p hp=>(List.mem_append.mp hp).elim (ho p) (h.off p)⟩
  have hlt:=(List.getElem?_eq_some_iff.mp hi).1
  have hc : i < rws.length ∨ i = rws.length:=by simp at hlt;omega
  rcases hc with hc | rfl
  · rw [List.getElem?_append_left hc] at hi
    obtain ⟨a,e1,e2⟩:=h.row i r' hi
    exact ⟨a,by rw [List.getElem?_append_left (by rw [h.len];exact hc)];exact e1,e2.mono fun q hq=>List.mem_append_right _ hq⟩
  · have e : r' = r:=by simpa using hi.symm
    subst e
    exact ⟨ins,by rw [← h.len];simp,hr.mono fun q hq=>List.mem_append_left _ hq⟩
theorem row_end {I C D pa c : Addr} {oI oC oD oP oc o2 : Obj} {nl nl2 l : List (Addr × Obj)} (off : LCg.Off3 I C D ((pa,oP) :: (c,oc) :: (nl ++ l))) (ho : ∀ p ∈ nl2,Off ((I,oI) :: (C,oC) :: (D,oD) :: (pa,oP) :: (c,oc) :: (nl ++ l)) p.1) (hpn : ∀ p ∈ (c,oc) :: (nl ++ l),p.1 ≠ pa) :
    LCg.Off3 I C D ((pa,o2) :: (c,oc) :: ((nl2 ++ nl) ++ l)) ∧ (∀ p ∈ (c,oc) :: ((nl2 ++ nl) ++ l),p.1 ≠ pa) ∧ (∀ p ∈ nl2,Off l p.1) ∧
      (∀ p ∈ (I,oI) :: (C,oC) :: (D,oD) :: (pa,o2) :: (c,oc) :: ((nl2 ++ nl) ++ l),p ∈ nl2 ++ (I,oI) :: (C,oC) :: (D,oD) :: (pa,o2) :: (c,oc) :: (nl ++ l)):=by
  refine ⟨⟨off.1,off.2.1,LCg.Off3.of fun q hq=>?_⟩,fun p hp=>?_,fun p hp q hq=>ho p hp q (.tail _ (.tail _ (.tail _ (.tail _ (.tail _ (List.mem_append_right _ hq)))))),fun p hp=>?_⟩
  · rw [List.append_assoc] at hq
    rcases List.mem_append.mp hq with hq | hq
    · exact ⟨Ne.symm (ho q hq _ (.head _)),Ne.symm (ho q hq _ (.tail _ (.head _))),Ne.symm (ho q hq _ (.tail _ (.tail _ (.head _))))⟩
    · exact off.2.2.mem q hq
  · rcases List.mem_cons.mp hp with rfl | hp
    · exact hpn _ (.head _)
    rw [List.append_assoc] at hp
    rcases List.mem_append.mp hp with hp | hp
    · exact Ne.symm (ho p hp _ (.tail _ (.tail _ (.tail _ (.head _)))))
    · exact hpn _ (.tail _ hp)
  · rw [List.append_assoc] at hp
    simp only [List.mem_cons,List.mem_append] at hp ⊢
    rcases hp with h | h | h | h | h | h | h | h <;> simp only [h,true_or,or_true]
theorem upd4 {I C D pa : Addr} {oI oC oD oP : Obj} {r : List (Addr × Obj)} (off : LCg.Off3 I C D ((pa,oP) :: r)) (hpn : ∀ p ∈ r,p.1 ≠ pa) : UpdF pa oP ((I,oI) :: (C,oC) :: (D,oD) :: (pa,oP) :: r) (fun o'=>(I,oI) :: (C,oC) :: (D,oD) :: (pa,o') :: r) :=
  .tail (Ne.symm off.1.1) (.tail (Ne.symm off.1.2.1) (.tail (Ne.symm off.1.2.2) (.head hpn)))
theorem len_refs {prog : Program} {A : Around} {hpS : Heap} {gnS : Array GenState} {drS : Drawn} {tkS : Nat} {osS : OsState} {h₀ : Heap} {L D : Addr} {news : List (Addr × Obj)} {its : List Addr} {Q : Value → Shared → Prop} (N : News h₀ L hpS news) (hm : (D,LCg.lst (its.map Value.ref)) ∈ news) (hz : its.length < 1000000)
    (h : Q (.int its.length (tkS + 1)) ⟨hpS,gnS,drS,tkS + 1 + 1,osS⟩) : wpAny (model prog w) A (call (.builtin "len") [.ref D]) Q E ⟨hpS,gnS,drS,tkS,osS⟩:=by
  refine len_list (items:=(its.map Value.ref).toArray) (News.isList N hm) (by simp only [List.size_toArray,List.length_map];omega) ?_
  simp only [List.size_toArray,List.length_map]
  exact h
section
variable {l0 lx : List (Addr × Obj)} {σ σ2 : StA} {vs1 vs2 : List Value} {ep1 ep2 : Nat} {o1 o2 f1 f2 : Obj} {h₀ h : Heap} {L : Addr} {p : Addr × Obj}
theorem off_led {a : Addr} (h1 : Off lx a) (h2 : σ.regs ≠ a) (h3 : σ.held ≠ a) (h4 : σ.fd ≠ a) (h5 : Off l0 a) : Off (lx ++ led σ vs1 ep1 o1 f1 l0) a:=fun q hq=>by
  rcases List.mem_append.mp hq with hq | hq
  · exact h1 q hq
  rcases List.mem_cons.mp hq with rfl | hq
  · exact h2
  rcases List.mem_cons.mp hq with rfl | hq
  · exact h3
  rcases List.mem_cons.mp hq with rfl | hq
  · exact h4
  · exact h5 q hq
theorem two_to2 (N : News h₀ L h (p :: (lx ++ led σ vs1 ep1 o1 f1 (led σ2 vs2 ep2 o2 f2 l0)))) : News h₀ L h (led σ2 vs2 ep2 o2 f2 (p :: (lx ++ led σ vs1 ep1 o1 f1 l0))):=news_part N fun q hq=>by
  simp only [led,List.mem_cons,List.mem_append] at hq ⊢
  rcases hq with h | h | h | h | h | h | h | h | h <;> simp only [h,true_or,or_true]
theorem two_of2 (N : News h₀ L h (led σ2 vs2 ep2 o2 f2 (p :: (lx ++ led σ vs1 ep1 o1 f1 l0)))) : News h₀ L h (p :: (lx ++ led σ vs1 ep1 o1 f1 (led σ2 vs2 ep2 o2 f2 l0))):=news_part N fun q hq=>by
  simp only [led,List.mem_cons,List.mem_append] at hq ⊢
  rcases hq with h | h | h | h | h | h | h | h | h <;> simp only [h,true_or,or_true]
theorem two_to1 (N : News h₀ L h (lx ++ led σ vs1 ep1 o1 f1 (led σ2 vs2 ep2 o2 f2 l0))) : News h₀ L h (led σ vs1 ep1 o1 f1 (lx ++ led σ2 vs2 ep2 o2 f2 l0)):=news_part N fun q hq=>by
  simp only [led,List.mem_cons,List.mem_append] at hq ⊢
  rcases hq with h | h | h | h | h | h | h | h <;> simp only [h,true_or,or_true]
theorem two_of1 (N : News h₀ L h (led σ vs1 ep1 o1 f1 (lx ++ led σ2 vs2 ep2 o2 f2 l0))) : News h₀ L h (lx ++ led σ vs1 ep1 o1 f1 (led σ2 vs2 ep2 o2 f2 l0)):=news_part N fun q hq=>by
  simp only [led,List.mem_cons,List.mem_append] at hq ⊢
  rcases hq with h | h | h | h | h | h | h | h <;> simp only [h,true_or,or_true]
theorem at2 {rip : Int} (fx2 : Fixed w l0 σ2 rip) (hap : Apart σ σ2) (hx : ∀ a ∈ [σ.regs,σ.held,σ.fd,σ2.regs,σ2.held,σ2.fd],Off lx a) (hp : ∀ q ∈ led σ2 vs2 ep2 o2 f2 l0,q.1 ≠ p.1) : ∃ beg,StAt w (p :: (lx ++ led σ vs1 ep1 o1 f1 l0)) σ2 rip beg:=by
  have nn : ∀ a ∈ [σ2.regs,σ2.held,σ2.fd],p.1 ≠ a → Off l0 a → Off lx a → Off (p :: (lx ++ led σ vs1 ep1 o1 f1 l0)) a:=fun a ha hpa h0 hxa q hq=>by
    rcases List.mem_cons.mp hq with rfl | hq
    · exact hpa
    · exact off_led hxa (hap _ (by simp) a ha) (hap _ (by simp) a ha) (hap _ (by simp) a ha) h0 q hq
  exact fx2.at_ (fun q hq=>.tail _ (List.mem_append_right _ (.tail _ (.tail _ (.tail _ hq)))))
    (nn _ (by simp) (Ne.symm (hp _ (.head _))) fx2.o1 (hx _ (by simp))) (nn _ (by simp) (Ne.symm (hp _ (.tail _ (.head _)))) fx2.o2 (hx _ (by simp))) (nn _ (by simp) (Ne.symm (hp _ (.tail _ (.tail _ (.head _))))) fx2.o3 (hx _ (by simp)))
theorem at1 {rip : Int} (fx1 : Fixed w l0 σ rip) (hap : Apart σ σ2) (hx : ∀ a ∈ [σ.regs,σ.held,σ.fd,σ2.regs,σ2.held,σ2.fd],Off lx a) : ∃ beg,StAt w (lx ++ led σ2 vs2 ep2 o2 f2 l0) σ rip beg :=
  fx1.at_ (fun q hq=>List.mem_append_right _ (.tail _ (.tail _ (.tail _ hq))))
    (off_led (hx _ (by simp)) (Ne.symm (hap _ (by simp) _ (by simp))) (Ne.symm (hap _ (by simp) _ (by simp))) (Ne.symm (hap _ (by simp) _ (by simp))) fx1.o1)
    (off_led (hx _ (by simp)) (Ne.symm (hap _ (by simp) _ (by simp))) (Ne.symm (hap _ (by simp) _ (by simp))) (Ne.symm (hap _ (by simp) _ (by simp))) fx1.o2)
    (off_led (hx _ (by simp)) (Ne.symm (hap _ (by simp) _ (by simp))) (Ne.symm (hap _ (by simp) _ (by simp))) (Ne.symm (hap _ (by simp) _ (by simp))) fx1.o3)
end
theorem canAll_of {α : Type} {f : α → PyData} (h : ∀ x,(f x).canLay0 = true) : ∀ l : List α,PyData.canLayAll0 (l.map f) = true
  | []=>rfl
  | x :: l=>by rw [List.map_cons,PyData.canLayAll0,h x,canAll_of h l];rfl
theorem depthAll_of {α : Type} {f : α → PyData} {n : Nat} (h : ∀ x,(f x).depth ≤ n) : ∀ l : List α,PyData.depthAll (l.map f) ≤ n
  | []=>Nat.zero_le _
  | x :: l=>by rw [List.map_cons,PyData.depthAll];exact Nat.max_le.mpr ⟨h x,depthAll_of h l⟩
theorem dT {xs : List PyData} {n : Nat} (h : PyData.depthAll xs ≤ n) : (PyData.tuple xs).depth ≤ n + 1:=by simp only [PyData.depth];omega
theorem dC {x : PyData} {r : List PyData} {n : Nat} (h : x.depth ≤ n) (hr : PyData.depthAll r ≤ n) : PyData.depthAll (x :: r) ≤ n:=by simp only [PyData.depthAll];omega
theorem dN {n : Nat} : PyData.depthAll [] ≤ n:=Nat.zero_le _
theorem dI (i : Int) {n : Nat} : (PyData.int i).depth ≤ n:=Nat.zero_le _
theorem shaped_stD (ns : List Int) (f : Fl) (D : List (Int × Int)) (rip : Int) : PySem.SeqAt.shaped (stD ns f D rip) = true:=by
  have hp : ∀ p,(pairD p).canLay0 = true:=fun p=>rfl
  have hi : ∀ i : Int,(PyData.int i).canLay0 = true:=fun i=>rfl
  have dp : ∀ p,(pairD p).depth ≤ 1:=fun p=>Nat.le_refl _
  have di : ∀ i : Int,(PyData.int i).depth ≤ 1:=fun i=>Nat.zero_le _
  unfold PySem.SeqAt.shaped
  rw [Bool.and_eq_true]
  constructor
  · simp only [stD,flD,meD,PyData.canLay0,PyData.canLayAll0,canAll_of hi,canAll_of hp,Bool.and_self]
  · have h1:=depthAll_of di ns
    have h2:=depthAll_of di z16
    have h3:=depthAll_of dp (srtI (nzD D))
    rw [decide_eq_true_eq]
    unfold stD flD meD
    exact Nat.le_trans (dT (dC (dT h1) (dC (dT h2) (dC (dT (dC (dI _) (dC (dI _) (dC (dI _) (dC (dI _) (dC (dI _) (dC (dI _) (dC (dI _) dN)))))))) (dC (dT h3) (dC (dI _) (dC (dT (dC (dI _) (dC (dI _) dN))) (dC (Nat.zero_le _) dN)))))))) (by decide)
theorem eqv_stD (ns : List Int) (f : Fl) (D : List (Int × Int)) (rip : Int) : PyData.eqv (stD ns f D rip) (stD ns f D rip) = true :=
  PySem.SeqAt.eqv_refl _ (PySem.SeqAt.canLay_of_shaped (shaped_stD ns f D rip))
theorem slice_its {its : List Addr} {sp : Int} (h : 0 ≤ sp) : slicePick (its.map Value.ref).toArray none (some sp) none = ((its.take sp.toNat).map Value.ref).toArray:=by
  rw [kms_pick_eq]
  congr 1
  rw [List.toList_toArray]
  unfold kms_pick kms_lo kms_hi
  simp only [List.drop_zero,Nat.sub_zero,if_neg (Int.not_lt.mpr h),List.length_map]
  rw [List.map_take,← List.map_take,← List.map_take,List.take_eq_take_min (i:=sp.toNat)]
theorem ax_ne {h₀ h : Heap} {L ax a : Addr} {news : List (Addr × Obj)} {w : World} {M : Mach} {vs : List Value} {ep : Nat} {o f : Obj} {σ : StA} {its : List Addr} {n k : Nat} (N : News h₀ L h news) (H : MaAt w M vs o f) (hl : its.length ≤ 7) (hm : (ax,W.listOf ((its.take k).map Value.ref).toArray n) ∈ news)
    (h1 : (σ.regs,W.listOf vs.toArray ep) ∈ news) (h2 : (σ.held,o) ∈ news) (h3 : (σ.fd,f) ∈ news) (ha : a ∈ [σ.regs,σ.held,σ.fd]) : ax ≠ a:=by
  simp only [List.mem_cons,List.not_mem_nil,or_false] at ha
  rcases ha with rfl | rfl | rfl
  · refine ne_of_obj N hm h1 fun e=>?_
    have e1 : ((its.take k).map Value.ref).toArray = vs.toArray:=by injection e with _ _ e _;injection e
    have e2:=congrArg Array.size e1
    simp only [List.size_toArray,List.length_map,List.length_take] at e2
    have:=H.hI.length
    have:=H.len
    omega
  · exact ne_of_cls N hm h2 (by rw [isMem_cls H.mem];exact fun e=>absurd (Value.type.inj e) (by decide))
  · obtain ⟨τ,rfl⟩:=H.fl
    exact ne_of_cls N hm h3 (fun e=>absurd (Value.type.inj e) (by decide))
theorem four {x : Int} (h : x < 4) (h0 : 0 ≤ x) : x = 0 ∨ x = 3 ∨ x = 1 ∨ x = 2:=by omega
theorem mem3r {v : Value} {a b c : Addr} (h : v ∈ [.ref a,.ref b,.ref c]) : ∃ x,v = .ref x ∧ (x = a ∨ x = b ∨ x = c):=by
  simp only [List.mem_cons,List.not_mem_nil,or_false] at h
  rcases h with rfl | rfl | rfl
  · exact ⟨_,rfl,.inl rfl⟩
  · exact ⟨_,rfl,.inr (.inl rfl)⟩
  · exact ⟨_,rfl,.inr (.inr rfl)⟩
noncomputable def StopMark : Prop:=True
inductive RunE (w : World) (lx : List (Addr × Obj)) (σ : StA) (vs1 : List Value) (ep1 : Nat) (o1 f1 : Obj) (σ2 : StA) (l0 : List (Addr × Obj)) (m₀ : Str → Option Value) (x : Str) (rws : List RowD) (M : Mach) (i : Nat) : (Str → Option Value) → List (Addr × Obj) → Prop
  | mk (vs' : List Value) (ep' : Nat) (o' of' : Obj) (vl : Option Value) (H' : MaAt w (runs (rws.take i) M) vs' o' of') (hD' : (runs (rws.take i) M).D.length ≤ M.D.length + 16 * i) (hi' : i ≤ rws.length) : RunE w lx σ vs1 ep1 o1 f1 σ2 l0 m₀ x rws M i (bindM m₀ x vl) (lx ++ led σ vs1 ep1 o1 f1 (led σ2 vs' ep' o' of' l0))
theorem RunE.of {lx : List (Addr × Obj)} {σ : StA} {vs1 : List Value} {ep1 : Nat} {o1 f1 : Obj} {σ2 : StA} {l0 l' : List (Addr × Obj)} {m₀ m : Str → Option Value} {x : Str} {rws : List RowD} {M : Mach} {i : Nat} (vs' : List Value) (ep' : Nat) (o' of' : Obj) (vl : Option Value) (e1 : l' = lx ++ led σ vs1 ep1 o1 f1 (led σ2 vs' ep' o' of' l0)) (e2 : m = bindM m₀ x vl) (H' : MaAt w (runs (rws.take i) M) vs' o' of') (hD' : (runs (rws.take i) M).D.length ≤ M.D.length + 16 * i) (hi' : i ≤ rws.length) : RunE w lx σ vs1 ep1 o1 f1 σ2 l0 m₀ x rws M i m l':=by
  subst e1 e2;exact .mk vs' ep' o' of' vl H' hD' hi'
theorem RunE.mem {lx : List (Addr × Obj)} {σ : StA} {vs1 : List Value} {ep1 : Nat} {o1 f1 : Obj} {σ2 : StA} {l0 l' : List (Addr × Obj)} {m₀ m : Str → Option Value} {x : Str} {rws : List RowD} {M : Mach} {i : Nat} {p : Addr × Obj} (hp : p ∈ lx) (h : RunE w lx σ vs1 ep1 o1 f1 σ2 l0 m₀ x rws M i m l') : p ∈ l':=by cases h;exact List.mem_append_left _ hp
theorem law_end {σ σ2 : StA} {rip : Int} {l0 lx : List (Addr × Obj)} {M : Mach} {vs1 vs2 : List Value} {ep1 ep2 : Nat} {o1 o2 f1 f2 : Obj} {D ax : Addr} {re ae : Nat} {its : List Addr} {rws : List RowD} {b sp : Int} {tb tsp : Tok} {c : Addr} {Q : Flow → Shared → Prop}
  (B : Below A₀ h₀ [] h₀) (F : Fr h₀ L hpS (fun y=>if y = "ahead" then some (.ref ax) else if y = "spot" then some (.int sp tsp) else if y = "bad" then some (.int b tb) else if y = "rows" then some (.ref D) else if y = "other" then some (.ref σ2.x) else if y = "state" then some (.ref σ.x) else m y)) (X : (heapK w.params).In h₀) (N : News h₀ L hpS (lx ++ led σ vs1 ep1 o1 f1 (led σ2 vs2 ep2 o2 f2 l0))) (T : Top viewK loose mean mg mb h₀)
  (hd : dp + 40 < recursionLimit) (hu : un + 8 * 60 < cLine)
  (fx1 : Fixed w l0 σ rip) (fx2 : Fixed w l0 σ2 rip) (hap : Apart σ σ2) (H1 : MaAt w M vs1 o1 f1) (H2 : MaAt w M vs2 o2 f2) (hD : M.D.length ≤ 48)
  (hx : ∀ a ∈ [σ.regs,σ.held,σ.fd,σ2.regs,σ2.held,σ2.fd],Off lx a)
  (hDm : (D,W.listOf (its.map Value.ref).toArray re) ∈ lx) (hAm : (ax,W.listOf ((its.take rws.length).map Value.ref).toArray ae) ∈ lx)
  (hil : its.length ≤ 7) (hR : ∀ (i : Nat) r,rws[i]? = some r → ∃ a,its[i]? = some a ∧ RowAt w lx a r)
  (hb : (b = 0 ∨ b = 3) ∧ rws.length = its.length ∨ (b = 1 ∨ b = 2) ∧ ∃ a,its[rws.length]? = some a ∧ BadAt w lx a)
  (ret : ∀ m' news' h' tk',Fr h₀ L h' m' → News h₀ L h' news' → Q (.ret (.bool true)) ⟨h',gnS,drS,tk',osS⟩) :
  wpAny (model PySem.Challenge.rw_qd0115_01.row.prog w) (ktrTop dp un gd "law" sfS_103.1 L a ccd [("pen",c)] []) (execs (bfS_103.1.drop 9) (envX "law" sfS_103.1 L a ccd [("pen",c)])) Q (fun _ _=>False) ⟨hpS,gnS,drS,tkS,osS⟩:=by
  refine sealG ?_
  intro G9 k9
  obtain ⟨τa,bga,hda⟩:=fx1.h2
  obtain ⟨τb,bgb,hdb⟩:=fx2.h2
  obtain ⟨os1,hos1,hsg1⟩:=fx1.g1
  obtain ⟨os2,hos2,hsg2⟩:=fx2.g1
  obtain ⟨xs1,xe1,hxm1,hxs1⟩:=fx1.x1
  obtain ⟨xs2,xe2,hxm2,hxs2⟩:=fx2.x1
  obtain ⟨th1,hth1⟩:=fx1.e2
  obtain ⟨th2,hth2⟩:=fx2.e2
  refine k9 ?_
  clear k9 G9
  dsimp only [bfS_103,sfS_103]
  simp only [List.drop_succ_cons,List.drop_zero]
  k_with "exec For Name Name cons nil"=>((fail_if_success have:=off82);k_here;refine stopI ?_)
  k_steps
  delta Stop
  rename Fr _ _ _ _=>lF
  with_unfolding_all refine For_invVF lF (by rfl) (by rfl) ?_ (hE:=PassesOwn.never)
  k_with "pyIter ref"=>((fail_if_success have:=off82);k_here;(with_reducible show wpAny _ _ (pyIter (Value.ref _)) (fun it s₂=>LoopAtV _ _ _ _ _ _ _ _ _ it s₂) _ _);refine stopI ?_)
  k_steps
  delta Stop
  rename Fr _ _ _ _=>lF
  rename News _ _ _ _=>lN
  have hrl : rws.length ≤ its.length:=by
    rcases hb with ⟨_,h⟩ | ⟨_,a,h,_⟩
    · omega
    · exact Nat.le_of_lt (List.getElem?_eq_some_iff.mp h).1
  with_unfolding_all refine listT (lo:=W.listOf ((its.take rws.length).map Value.ref).toArray ae) (vs:=(its.take rws.length).map Value.ref) (fun i m l'=>RunE w lx σ vs1 ep1 o1 f1 σ2 l0 _ "row" rws M i m l') (by rfl) lF lN (by rfl) (by rfl) (fun i m l' h=>h.mem hAm) (.of _ _ _ _ _ rfl (bindM_start _ _) H2 (Nat.le_refl _) (Nat.zero_le _)) ?turn ?done
  · intro i v I it m₁ news₁ h tk hv hic hoff w911 F1 N1
    obtain ⟨vs',ep',o',of',vl,H',hD',hi'⟩:=w911
    rw [bindM_bind] at F1
    unfold bindM at F1
    clear lF lN
    refine sealG ?_
    intro G9 k9
    obtain ⟨ia,hia,hir,rfl⟩ : ∃ ia,its[i]? = some ia ∧ i < rws.length ∧ v = .ref ia:=by
      rw [List.getElem?_map] at hv
      cases q : (its.take rws.length)[i]? with
      | none=>rw [q] at hv;cases hv
      | some x =>
        rw [q] at hv
        have q2:=(List.getElem?_eq_some_iff.mp q).1
        have hlt : i < rws.length:=by simp only [List.length_take] at q2;omega
        rw [List.getElem?_take_of_lt hlt] at q
        exact ⟨x,q,hlt,(Option.some.inj hv).symm⟩
    refine k9 ?_
    clear k9 G9
    refine sealG ?_
    intro G9 k9
    obtain ⟨r,hr⟩ : ∃ r,rws[i]? = some r:=⟨rws[i],by simp [hir]⟩
    refine k9 ?_
    clear k9 G9
    refine sealG ?_
    intro G9 k9
    obtain ⟨ia',e1,R⟩:=hR i r hr
    refine k9 ?_
    clear k9 G9
    rw [hia] at e1
    obtain rfl:=Option.some.inj e1
    have hrt:=runs_take (M:=M) hr
    k_with "call ref"=>((fail_if_success have:=off82);k_here;(with_reducible show wpAny _ _ (call (Value.ref 952) _) _ _ _);refine stopI ?_)
    k_steps
    delta Stop
    have hoffI : ∀ q ∈ led σ2 vs' ep' o' of' l0,q.1 ≠ I:=fun q hq=>hoff q (List.mem_append_right _ (.tail _ (.tail _ (.tail _ hq))))
    refine sealG ?_
    intro G9 k9
    obtain ⟨beg,S2⟩:=at2 (p:=(I,it)) (vs1:=vs1) (ep1:=ep1) (o1:=o1) (f1:=f1) fx2 hap hx hoffI
    refine k9 ?_
    clear k9 G9
    rename Fr _ _ _ _=>lF
    rename News _ _ _ _=>lN
    k_dflt (refine' transfer_all (σ:=σ2) (rip:=rip) (beg:=beg) (l:=(I,it) :: (lx ++ led σ vs1 ep1 o1 f1 l0)) (M:=runs (rws.take i) M) (vs:=vs') (ep:=ep') (o:=o') (of:=of') (r:=r) ?k1 ?k2 ?k3 (two_to2 lN) ?k5 ?kK ?kd ?ku S2 H' (R.mono (fun _ h=>.tail _ (List.mem_append_left _ h))) (by omega) ?_;(case k1=>k_asm);(case k2=>k_asm);(case k3=>k_asm);(case k5=>k_asm);(case kK=>exact rfl);(case kd=>ktr_room);(case ku=>ktr_units))
    clear lF lN
    intro vs3 ep3 o3 of3 h3 tk3 F3 N3 H3 hD3
    k_steps
    rename Fr _ _ _ _=>fE
    rename News _ _ _ (led σ2 _ _ _ _ _)=>nE
    refine UnrEnd.intro fE (two_of2 nE) _ (fun _ h=>h) (fun q hq=>?_) (.of vs3 ep3 o3 of3 (some (.ref ia)) rfl rfl (hrt ▸ H3) ?_ hir)
    · rcases List.mem_append.mp hq with hq | hq
      · exact hoff q (List.mem_append_left _ hq)
      · rcases List.mem_cons.mp hq with rfl | hq
        · exact hoff _ (List.mem_append_right _ (.head _))
        rcases List.mem_cons.mp hq with rfl | hq
        · exact hoff _ (List.mem_append_right _ (.tail _ (.head _)))
        rcases List.mem_cons.mp hq with rfl | hq
        · exact hoff _ (List.mem_append_right _ (.tail _ (.tail _ (.head _))))
        · exact led_off hoffI q hq
    · rw [hrt]
      omega
  · intro m₁ news₁ h tk w94 F1 N1
    obtain ⟨vs',ep',o',of',vl,H',hD',hi'⟩:=w94
    unfold bindM at F1
    clear lF lN
    rw [List.length_map,List.length_take,Nat.min_eq_left hrl] at hi' H' hD'
    rw [List.take_of_length_le (Nat.le_refl _)] at H' hD'
    refine sealG ?_
    intro G9 k9
    obtain ⟨beg,S1⟩:=at1 (vs2:=vs') (ep2:=ep') (o2:=o') (f2:=of') fx1 hap hx
    refine k9 ?_
    clear k9 G9
    have hbad : ∃ bq : Bool,(bq = true ↔ rws.length ≠ its.length) ∧ (bq = decide (b = 1 ∨ b = 2)):=by
      rcases hb with ⟨h1,h2⟩ | ⟨h1,a,h2,_⟩
      · exact ⟨false,by simp [h2],by rcases h1 with rfl | rfl <;> rfl⟩
      · have:=(List.getElem?_eq_some_iff.mp h2).1
        exact ⟨true,by simp only [true_iff];omega,by rcases h1 with rfl | rfl <;> rfl⟩
    refine sealG ?_
    intro G9 k9
    obtain ⟨bq,hq1,hq2⟩:=hbad
    refine k9 ?_
    clear k9 G9
    have hbv : b = 0 ∨ b = 3 ∨ b = 1 ∨ b = 2:=by
      rcases hb with ⟨h1 | h1,_⟩ | ⟨h1 | h1,_⟩ <;> simp [h1]
    k_with "call ref"=>((fail_if_success have:=off82);k_here;first | ((with_reducible show wpAny _ _ (call (Value.ref 994) _ _) _ _ _);refine stopI ?_) | ((with_reducible show wpAny _ _ (call (Value.ref 501) _ _) _ _ _);refine stopI ?_) | fail "call ref: no stop")
    k_steps
    delta Stop
    rename Fr _ _ _ _=>lF
    rename News _ _ _ _=>lN
    k_dflt (refine' refused_c (σ:=σ) (rip:=rip) (beg:=beg) (l:=lx ++ led σ2 vs' ep' o' of' l0) (M:=M) (vs:=vs1) (ep:=ep1) (o:=o1) (of:=f1) (rws:=rws) (its:=its) ?k1 ?k2 ?k3 (two_to1 lN) ?k5 ?kK ?kd ?ku S1 H1 (List.mem_append_left _ hDm) (fun i r hr=>by obtain ⟨a,e1,e2⟩:=hR i r hr;exact ⟨a,e1,e2.mono (fun _ h=>List.mem_append_left _ h)⟩) (hb.imp (fun h=>h.2) fun ⟨_,a,e1,e2⟩=>⟨a,e1,e2.mono (fun _ h=>List.mem_append_left _ h)⟩) (by omega) ?_;(case k1=>k_asm);(case k2=>k_asm);(case k3=>k_asm);(case k5=>k_asm);(case kK=>exact rfl);(case kd=>ktr_room);(case ku=>ktr_units))
    clear lF lN
    intro b3 vs3 ep3 o3 of3 h3 tk3 hb3 F3 N3 H3 hD3
    obtain rfl : b3 = bq:=by
      cases b3 <;> cases bq <;> simp_all
    have hl0 : ∀ {q : Addr × Obj},q ∈ l0 → q ∈ lx ++ led σ vs3 ep3 o3 of3 (led σ2 vs' ep' o' of' l0):=fun h=>List.mem_append_right _ (.tail _ (.tail _ (.tail _ (.tail _ (.tail _ (.tail _ h))))))
    have N4:=two_of1 N3
    clear N3
    have N5:=news_cons N4 (hl0 fx1.h1) (news_cons N4 (hl0 hda) (news_cons N4 (hl0 fx2.h1) (news_cons N4 (hl0 hdb) N4)))
    clear N4
    k_with "compareOp Eq ref ref"=>((fail_if_success have:=off82);k_here;refine stopI ?_)
    rcases hbv with rfl | rfl | rfl | rfl
    all_goals
      simp at hq2
      subst hq2
      clear hq1 hb3
      k_steps
      delta Stop
      rename Fr _ _ _ _=>lF
      rename News _ _ _ _=>lN
      k_dflt (refine' stold_c (σ:=σ) (τ:=τa) (rip:=rip) (beg:=bga) (vs:=vs3) (xs:=xs1) (ns:=(runs rws M).ns) (ep:=ep3) (xep:=xe1) (th:=th1) (o:=o3) (os:=os1) (of:=of3) (f:=(runs rws M).f) (D:=(runs rws M).D) ?k1 ?k2 ?k3 lN ?k5 ?kK ?kd ?ku (List.Mem.tail _ (List.Mem.tail _ (List.Mem.tail _ (List.Mem.tail _ (List.Mem.tail _ ((hl0 hos1))))))) (List.Mem.tail _ (List.Mem.tail _ (List.Mem.tail _ (List.Mem.tail _ (List.Mem.tail _ ((List.mem_append_right _ (List.Mem.tail _ (List.Mem.head _))))))))) (List.Mem.tail _ (List.Mem.tail _ (List.Mem.tail _ (List.Mem.tail _ (List.Mem.tail _ ((hl0 fx1.e1))))))) (List.Mem.tail _ (List.Mem.tail _ (List.Mem.tail _ (List.Mem.tail _ (List.Mem.tail _ ((hl0 hth1))))))) (List.Mem.tail _ (List.Mem.tail _ (List.Mem.tail _ (List.Mem.tail _ (List.Mem.tail _ ((hl0 fx1.f1))))))) (List.Mem.tail _ (List.Mem.tail _ (List.Mem.tail _ (List.Mem.tail _ (List.Mem.tail _ ((List.mem_append_right _ (List.Mem.tail _ (List.Mem.tail _ (List.Mem.head _)))))))))) (List.Mem.tail _ (List.Mem.tail _ (List.Mem.tail _ (List.Mem.tail _ (List.Mem.tail _ ((hl0 hxm1))))))) (List.Mem.tail _ (List.Mem.tail _ (List.Mem.tail _ (List.Mem.tail _ (List.Mem.tail _ ((List.mem_append_right _ (List.Mem.head _)))))))) (List.Mem.tail _ (List.Mem.tail _ (List.Mem.tail _ (List.Mem.tail _ (List.Mem.tail _ ((hl0 fx1.h1))))))) (List.Mem.tail _ (List.Mem.tail _ (List.Mem.tail _ (List.Mem.tail _ (List.Mem.tail _ ((hl0 hda))))))) H3.hI H3.len hxs1 H3.fl H3.mem (by omega) hsg1 fx1.sys ?_;(case k1=>k_asm);(case k2=>k_asm);(case k3=>k_asm);(case k5=>k_asm);(case kK=>exact rfl);(case kd=>ktr_room);(case ku=>ktr_units))
      clear lF lN
      intro r1 nl1 h5 tk5 F5 N6 hr1
      simp only [List.cons_append] at N6
      k_steps
      delta Stop
      rename Fr _ _ _ _=>lF
      rename News _ _ _ _=>lN
      k_dflt (refine' stold_c (σ:=σ2) (τ:=τb) (rip:=rip) (beg:=bgb) (vs:=vs') (xs:=xs2) (ns:=(runs rws M).ns) (ep:=ep') (xep:=xe2) (th:=th2) (o:=o') (os:=os2) (of:=of') (f:=(runs rws M).f) (D:=(runs rws M).D) ?k1 ?k2 ?k3 lN ?k5 ?kK ?kd ?ku (List.Mem.tail _ (List.Mem.tail _ (List.Mem.tail _ (List.Mem.tail _ (List.Mem.tail _ (List.mem_append_left _ (hl0 hos2))))))) (List.Mem.tail _ (List.Mem.tail _ (List.Mem.tail _ (List.Mem.tail _ (List.Mem.tail _ (List.mem_append_left _ (List.mem_append_right _ (List.Mem.tail _ (List.Mem.tail _ (List.Mem.tail _ (List.Mem.tail _ (List.Mem.head _)))))))))))) (List.Mem.tail _ (List.Mem.tail _ (List.Mem.tail _ (List.Mem.tail _ (List.Mem.tail _ (List.mem_append_left _ (hl0 fx2.e1))))))) (List.Mem.tail _ (List.Mem.tail _ (List.Mem.tail _ (List.Mem.tail _ (List.Mem.tail _ (List.mem_append_left _ (hl0 hth2))))))) (List.Mem.tail _ (List.Mem.tail _ (List.Mem.tail _ (List.Mem.tail _ (List.Mem.tail _ (List.mem_append_left _ (hl0 fx2.f1))))))) (List.Mem.tail _ (List.Mem.tail _ (List.Mem.tail _ (List.Mem.tail _ (List.Mem.tail _ (List.mem_append_left _ (List.mem_append_right _ (List.Mem.tail _ (List.Mem.tail _ (List.Mem.tail _ (List.Mem.tail _ (List.Mem.tail _ (List.Mem.head _))))))))))))) (List.Mem.tail _ (List.Mem.tail _ (List.Mem.tail _ (List.Mem.tail _ (List.Mem.tail _ (List.mem_append_left _ (hl0 hxm2))))))) (List.Mem.tail _ (List.Mem.tail _ (List.Mem.tail _ (List.Mem.tail _ (List.Mem.tail _ (List.mem_append_left _ (List.mem_append_right _ (List.Mem.tail _ (List.Mem.tail _ (List.Mem.tail _ (List.Mem.head _))))))))))) (List.Mem.tail _ (List.Mem.tail _ (List.Mem.tail _ (List.Mem.tail _ (List.Mem.tail _ (List.mem_append_left _ (hl0 fx2.h1))))))) (List.Mem.tail _ (List.Mem.tail _ (List.Mem.tail _ (List.Mem.tail _ (List.Mem.tail _ (List.mem_append_left _ (hl0 hdb))))))) H'.hI H'.len hxs2 H'.fl H'.mem (by omega) hsg2 fx2.sys ?_;(case k1=>k_asm);(case k2=>k_asm);(case k3=>k_asm);(case k5=>k_asm);(case kK=>exact rfl);(case kd=>ktr_room);(case ku=>ktr_units))
      clear lF lN
      intro r2 nl2 h6 tk6 F6 N7 hr2
      refine sealG ?_
      intro G9 k9
      obtain ⟨as1,ra⟩:=hr1 h6 (fun p hp=>(N7 p (List.mem_append_left _ (List.Mem.tail _ (List.Mem.tail _ (List.Mem.tail _ (List.Mem.tail _ (List.Mem.tail _ (List.mem_append_right _ hp)))))))).1)
      refine k9 ?_
      clear k9 G9
      refine sealG ?_
      intro G9 k9
      obtain ⟨as2,rb⟩:=hr2 h6 (fun p hp=>(N7 p (List.mem_append_right _ hp)).1)
      refine k9 ?_
      clear k9 G9
      k_steps
      delta Stop
      refine eq_dataH ra rb (shaped_stD _ _ _ _) (shaped_stD _ _ _ _) (by show un + 64 < cLine;omega) ?_
      rw [eqv_stD]
      k_steps
      rename Fr _ _ _ _=>fZ
      rename News _ _ _ _=>nZ
      exact ret _ _ _ _ fZ nZ
theorem off82 : True:=trivial
theorem law_tail {σ σ2 : StA} {rip : Int} {l0 lx : List (Addr × Obj)} {M : Mach} {vs1 vs2 : List Value} {ep1 ep2 : Nat} {o1 o2 f1 f2 : Obj} {D : Addr} {re : Nat} {its : List Addr} {rws : List RowD} {b sp : Int} {tb tsp : Tok} {c : Addr} {Q : Flow → Shared → Prop}
  (B : Below A₀ h₀ [] h₀) (F : Fr h₀ L hpS (fun y=>if y = "spot" then some (.int sp tsp) else if y = "bad" then some (.int b tb) else if y = "rows" then some (.ref D) else if y = "other" then some (.ref σ2.x) else if y = "state" then some (.ref σ.x) else m y)) (X : (heapK w.params).In h₀) (N : News h₀ L hpS ((D,W.listOf (its.map Value.ref).toArray re) :: (lx ++ led σ vs1 ep1 o1 f1 (led σ2 vs2 ep2 o2 f2 l0)))) (T : Top viewK loose mean mg mb h₀)
  (hd : dp + 40 < recursionLimit) (hu : un + 8 * 60 < cLine)
  (fx1 : Fixed w l0 σ rip) (fx2 : Fixed w l0 σ2 rip) (hap : Apart σ σ2) (H1 : MaAt w M vs1 o1 f1) (H2 : MaAt w M vs2 o2 f2) (hD : M.D.length ≤ 48)
  (hx : ∀ a ∈ [σ.regs,σ.held,σ.fd,σ2.regs,σ2.held,σ2.fd],Off ((D,W.listOf (its.map Value.ref).toArray re) :: lx) a)
  (hil : its.length ≤ 7) (hR : ∀ (i : Nat) r,rws[i]? = some r → ∃ a,its[i]? = some a ∧ RowAt w lx a r)
  (hb : (b = 0 ∨ b = 3) ∧ rws.length = its.length ∨ (b = 1 ∨ b = 2) ∧ 0 ≤ sp ∧ sp.toNat = rws.length ∧ ∃ a,its[rws.length]? = some a ∧ BadAt w lx a)
  (ret : ∀ m' news' h' tk',Fr h₀ L h' m' → News h₀ L h' news' → Q (.ret (.bool true)) ⟨h',gnS,drS,tk',osS⟩) :
  wpAny (model PySem.Challenge.rw_qd0115_01.row.prog w) (ktrTop dp un gd "law" sfS_103.1 L a ccd [("pen",c)] []) (execs (bfS_103.1.drop 8) (envX "law" sfS_103.1 L a ccd [("pen",c)])) Q (fun _ _=>False) ⟨hpS,gnS,drS,tkS,osS⟩:=by
  dsimp only [bfS_103,sfS_103]
  simp only [List.drop_succ_cons,List.drop_zero]
  k_with "execs cons"=>((fail_if_success have:=off83);k_here;(with_reducible show wpAny _ _ (execs [_,_] _) _ _ _);refine stopI ?_)
  have hR' : ∀ (i : Nat) r,rws[i]? = some r → ∃ a,its[i]? = some a ∧ RowAt w ((D,W.listOf (its.map Value.ref).toArray re) :: lx) a r:=fun i r hr=>by
    obtain ⟨a,e1,e2⟩:=hR i r hr
    exact ⟨a,e1,e2.mono fun _ h=>.tail _ h⟩
  rcases hb with ⟨hb1,hb2⟩ | ⟨hb1,hb2,hb3,hb4⟩
  · rcases hb1 with rfl | rfl
    all_goals
      k_steps
      delta Stop
      rename Fr _ _ _ _=>lF
      rename News _ _ _ _=>lN
      refine law_end (D:=D) (ax:=D) (rws:=rws) (ep1:=ep1) (ep2:=ep2) (lx:=(D,W.listOf (its.map Value.ref).toArray re) :: lx) (ae:=re) B lF X (fun q hq=>lN q (.tail _ hq)) T hd hu fx1 fx2 hap H1 H2 hD hx (.head _) (by rw [List.take_of_length_le (by omega)];exact .head _) hil hR' ?_ ret
      exact .inl ⟨by decide,hb2⟩
  · rcases hb1 with rfl | rfl
    all_goals
      k_steps
      delta Stop
      rename Fr _ _ _ _=>lF
      rename News _ _ _ _=>lN
      rw [slice_its hb2,hb3] at lN
      have ne1:=fun a ha=>ax_ne (σ:=σ) (ep:=ep1) (a:=a) lN H1 hil (.head _) (.tail _ (.tail _ (.tail _ (List.mem_append_right _ (.head _))))) (.tail _ (.tail _ (.tail _ (List.mem_append_right _ (.tail _ (.head _)))))) (.tail _ (.tail _ (.tail _ (List.mem_append_right _ (.tail _ (.tail _ (.head _))))))) ha
      have ne2:=fun a ha=>ax_ne (σ:=σ2) (ep:=ep2) (a:=a) lN H2 hil (.head _) (.tail _ (.tail _ (.tail _ (List.mem_append_right _ (.tail _ (.tail _ (.tail _ (.head _)))))))) (.tail _ (.tail _ (.tail _ (List.mem_append_right _ (.tail _ (.tail _ (.tail _ (.tail _ (.head _))))))))) (.tail _ (.tail _ (.tail _ (List.mem_append_right _ (.tail _ (.tail _ (.tail _ (.tail _ (.tail _ (.head _)))))))))) ha
      refine law_end (D:=D) (ax:=_) (rws:=rws) (ep1:=ep1) (ep2:=ep2) (lx:=(_,W.listOf ((its.take rws.length).map Value.ref).toArray 0) :: (D,W.listOf (its.map Value.ref).toArray re) :: lx) (ae:=0) B lF X (fun q hq=>lN q ?_) T hd hu fx1 fx2 hap H1 H2 hD (fun a ha=>off_cons ?_ (hx a ha)) (.tail _ (.head _)) (.head _) hil (fun i r hr=>by obtain ⟨a,e1,e2⟩:=hR' i r hr;exact ⟨a,e1,e2.mono fun _ h=>.tail _ h⟩) (.inr ⟨?_,?_⟩) ret
      · rcases List.mem_cons.mp hq with h | h
        · exact h ▸ .head _
        · exact .tail _ (.tail _ h)
      · simp only [List.mem_cons,List.not_mem_nil,or_false] at ha
        rcases ha with rfl | rfl | rfl | rfl | rfl | rfl
        · exact ne1 _ (by simp)
        · exact ne1 _ (by simp)
        · exact ne1 _ (by simp)
        · exact ne2 _ (by simp)
        · exact ne2 _ (by simp)
        · exact ne2 _ (by simp)
      · decide
      · obtain ⟨a,e1,e2⟩:=hb4
        exact ⟨a,e1,e2.mono fun _ h=>.tail _ (.tail _ h)⟩
theorem off83 : True:=trivial
theorem six_off {σ σ2 : StA} {vs1 vs2 : List Value} {ep1 ep2 : Nat} {o1 o2 f1 f2 : Obj} {l0 l lx : List (Addr × Obj)} (hl : l = led σ vs1 ep1 o1 f1 (led σ2 vs2 ep2 o2 f2 l0)) (ho : ∀ p ∈ lx,Off l p.1) : ∀ a ∈ [σ.regs,σ.held,σ.fd,σ2.regs,σ2.held,σ2.fd],Off lx a:=fun a ha q hq=>by
  subst hl
  have h:=ho q hq
  simp only [List.mem_cons,List.not_mem_nil,or_false] at ha
  rcases ha with rfl | rfl | rfl | rfl | rfl | rfl
  · exact Ne.symm (h _ (.head _))
  · exact Ne.symm (h _ (.tail _ (.head _)))
  · exact Ne.symm (h _ (.tail _ (.tail _ (.head _))))
  · exact Ne.symm (h _ (.tail _ (.tail _ (.tail _ (.head _)))))
  · exact Ne.symm (h _ (.tail _ (.tail _ (.tail _ (.tail _ (.head _))))))
  · exact Ne.symm (h _ (.tail _ (.tail _ (.tail _ (.tail _ (.tail _ (.head _)))))))
theorem off1_mem {D : Addr} : ∀ {l : List (Addr × Obj)},LCg.Off1 D l → Off l D
  | [],_=>fun _ h=>nomatch h
  | _ :: _,x=>fun q hq=>by
    rcases List.mem_cons.mp hq with rfl | hq
    · exact x.1
    · exact off1_mem x.2 q hq
theorem fr_swap {h₀ h : Heap} {L : Addr} {x1 x2 x3 : Str} {a b c : Option Value} {m : Str → Option Value} (F : Fr h₀ L h (fun y=>if y = x1 then a else if y = x2 then b else if y = x3 then c else m y)) (hn : x2 ≠ x3) : Fr h₀ L h (fun y=>if y = x1 then a else if y = x3 then c else if y = x2 then b else m y):=by
  have e : (fun y=>if y = x1 then a else if y = x2 then b else if y = x3 then c else m y) = (fun y=>if y = x1 then a else if y = x3 then c else if y = x2 then b else m y):=by
    funext y
    by_cases e2 : y = x2
    · rw [if_pos e2,if_neg (show ¬ y = x3 from fun e3=>hn (e2.symm.trans e3)),if_pos e2]
    · rw [if_neg e2,if_neg e2]
  exact e ▸ F
theorem upd_mid {D : Addr} {o : Obj} {post : List (Addr × Obj)} (hb : ∀ p ∈ post,p.1 ≠ D) : ∀ {pre : List (Addr × Obj)},(∀ p ∈ pre,p.1 ≠ D) → UpdF D o (pre ++ (D,o) :: post) (fun o'=>pre ++ (D,o') :: post)
  | [],_=>.head hb
  | (x,y) :: r,h=>.tail (h _ (.head _)) (upd_mid hb fun p hp=>h p (.tail _ hp))
theorem off_sub {l1 l2 : List (Addr × Obj)} {a : Addr} (h : Off l1 a) (hs : ∀ q ∈ l2,q ∈ l1) : Off l2 a:=fun q hq=>h q (hs q hq)
example : True:=by (k_with "pick_one"=>repeat (first | exact List.Mem.head _ | assumption | apply List.Mem.tail));trivial
example : True:=by (k_with "pick_all"=>((repeat refine hsi_cons (by walk_at "pick_one") ?_);exact fun q hq=>by walk_at "pick_one"));trivial
example : True:=by (k_with "off_one"=>(refine off_sub (by assumption) (hsi_cons (by walk_at "pick_one") (fun q hq=>by walk_at "pick_one"))));trivial
example : True:=by (k_with "off_all"=>((repeat (first | exact offs_nil | refine offs_cons (by walk_at "off_one") ?_))));trivial
example : True:=by (k_with "pick_all2"=>((repeat refine hsi_cons (by walk_at "pick_one") ?_);exact fun q hq=>by walk_at "pick_one"));trivial
example : True:=by (k_with "off_all2"=>((repeat (first | exact offs_nil | refine offs_cons (by walk_at "off_one") ?_))));trivial
theorem rest_swap {σ σ2 : StA} {rip : Int} {l0 l nl lx0 : List (Addr × Obj)} {M : Mach} {vs1 vs2 : List Value} {ep1 ep2 : Nat} {o1 o2 f1 f2 ox : Obj} {D nI : Addr} {re : Nat} {its : List Addr} {rws : List RowD} {b sp : Int} {tb tsp : Tok} {c : Addr} {Q : Flow → Shared → Prop}
  (B : Below A₀ h₀ [] h₀) (F : Fr h₀ L hpS (fun y=>if y = "spot" then some (.int sp tsp) else if y = "bad" then some (.int b tb) else if y = "rows" then some (.ref D) else if y = "other" then some (.ref σ2.x) else if y = "state" then some (.ref σ.x) else m y)) (X : (heapK w.params).In h₀) (N : News h₀ L hpS (lx0 ++ (D,W.listOf ((its.map Value.ref).set sp.toNat (.ref nI)).toArray re) :: (nl ++ l))) (T : Top viewK loose mean mg mb h₀)
  (hd : dp + 40 < recursionLimit) (hu : un + 8 * 60 < cLine)
  (fx1 : Fixed w l0 σ rip) (fx2 : Fixed w l0 σ2 rip) (hap : Apart σ σ2) (H1 : MaAt w M vs1 o1 f1) (H2 : MaAt w M vs2 o2 f2) (hD : M.D.length ≤ 48)
  (hl : l = led σ vs1 ep1 o1 f1 (led σ2 vs2 ep2 o2 f2 l0)) (hOD : Off (nl ++ l) D) (hRw : RowsAt w l nl its rws) (hil : its.length ≤ 7) (h0 : 0 ≤ sp) (h1 : sp < its.length) (ho : ∀ p ∈ lx0,Off ((D,ox) :: (nl ++ l)) p.1) (hbad : BadAt w lx0 nI) (hb : b = 1 ∨ b = 2)
  (ret : ∀ m' news' h' tk',Fr h₀ L h' m' → News h₀ L h' news' → Q (.ret (.bool true)) ⟨h',gnS,drS,tk',osS⟩) :
  wpAny (model PySem.Challenge.rw_qd0115_01.row.prog w) (ktrTop dp un gd "law" sfS_103.1 L a ccd [("pen",c)] []) (execs (bfS_103.1.drop 8) (envX "law" sfS_103.1 L a ccd [("pen",c)])) Q (fun _ _=>False) ⟨hpS,gnS,drS,tkS,osS⟩:=by
  have hk : (rws.take sp.toNat).length = sp.toNat:=by
    have:=hRw.len
    rw [List.length_take]
    omega
  refine law_tail (D:=D) (ep1:=ep1) (ep2:=ep2) (lx:=lx0 ++ nl) (rws:=rws.take sp.toNat) (its:=its.set sp.toNat nI) (re:=re) B F X (news_part N fun q hq=>?_) T hd hu fx1 fx2 hap H1 H2 hD ?hx (by rw [List.length_set];exact hil) ?hR (.inr ⟨hb,h0,hk.symm,nI,?hn,hbad.mono fun _ h=>List.mem_append_left _ h⟩) ret
  · rw [← hl,List.map_set] at hq
    simp only [List.mem_cons,List.mem_append] at hq ⊢
    rcases hq with h | (h | h) | h <;> simp only [h,true_or,or_true]
  case hx =>
    refine six_off hl fun p hp=>?_
    rcases List.mem_cons.mp hp with rfl | hp
    · exact fun q hq=>hOD q (List.mem_append_right _ hq)
    rcases List.mem_append.mp hp with hp | hp
    · exact fun q hq=>ho p hp q (.tail _ (List.mem_append_right _ hq))
    · exact hRw.off p hp
  case hR =>
    intro i r hi
    rw [List.getElem?_take] at hi
    by_cases hlt : i < sp.toNat
    · rw [if_pos hlt] at hi
      obtain ⟨a,e1,e2⟩:=hRw.row i r hi
      exact ⟨a,by rw [List.getElem?_set_ne (by omega)];exact e1,e2.mono fun _ h=>List.mem_append_right _ h⟩
    · rw [if_neg hlt] at hi
      cases hi
  case hn =>
    rw [hk,List.getElem?_set_self (by omega)]
theorem offs_nil {l0 : List (Addr × Obj)} : ∀ q ∈ ([] : List (Addr × Obj)),Off l0 q.1:=fun _ h=>nomatch h
theorem offs_cons {l0 lx : List (Addr × Obj)} {a : Addr} {o : Obj} (h : Off l0 a) (r : ∀ q ∈ lx,Off l0 q.1) : ∀ q ∈ (a,o) :: lx,Off l0 q.1:=fun q hq=>by
  rcases List.mem_cons.mp hq with rfl | hq
  · exact h
  · exact r q hq
theorem bad1 {i d t : Addr} {τ : StT} {pf : Str} (h : pf = "rep" ∨ pf = "repne") : BadAt w [(i,instObj 742 d),(d,insDict w τ "movsb" t pf),(t,tupObj [])] i:=.rep _ _ _ h ⟨d,t,τ,.head _,.tail _ (.head _),.tail _ (.tail _ (.head _))⟩
theorem bad2 {nI i1 d1 t1 i2 d2 t2 i3 d3 t3 ro rod rg rd io iod : Addr} {τ1 τ2 τ3 τ4 τ5 τ6 : StT} {nv : Value} (hn3 : nI = i1 ∨ nI = i2 ∨ nI = i3) : BadAt w [(i1,instObj 742 d1),(d1,insDict w τ1 "ud2" t1 ""),(t1,tupObj []),(i2,instObj 742 d2),(d2,insDict w τ2 "cpuid" t2 ""),(t2,tupObj []),(i3,instObj 742 d3),(d3,insDict w τ3 "add" t3 ""),(t3,tupObj [.ref ro,.ref io]),(ro,instObj 602 rod),(rod,roDict w τ4 rg),(rg,instObj 279 rd),(rd,rgDict w τ5 nv 0 64),(io,instObj 636 iod),(iod,ioDict w τ6 1)] nI:=by
  rcases hn3 with rfl | rfl | rfl
  · exact .trap "ud2" [] (.inl rfl) ⟨d1,t1,τ1,.head _,.tail _ (.head _),.tail _ (.tail _ (.head _))⟩
  · exact .trap "cpuid" [] (.inr rfl) ⟨d2,t2,τ2,.tail _ (.tail _ (.tail _ (.head _))),.tail _ (.tail _ (.tail _ (.tail _ (.head _)))),.tail _ (.tail _ (.tail _ (.tail _ (.tail _ (.head _)))))⟩
  · exact .add ro io 0 64 1 ⟨d3,t3,τ3,.tail _ (.tail _ (.tail _ (.tail _ (.tail _ (.tail _ (.head _)))))),.tail _ (.tail _ (.tail _ (.tail _ (.tail _ (.tail _ (.tail _ (.head _))))))),.tail _ (.tail _ (.tail _ (.tail _ (.tail _ (.tail _ (.tail _ (.tail _ (.head _))))))))⟩ ⟨rod,rg,rd,τ4,τ5,nv,.tail _ (.tail _ (.tail _ (.tail _ (.tail _ (.tail _ (.tail _ (.tail _ (.tail _ (.head _))))))))),.tail _ (.tail _ (.tail _ (.tail _ (.tail _ (.tail _ (.tail _ (.tail _ (.tail _ (.tail _ (.head _)))))))))),.tail _ (.tail _ (.tail _ (.tail _ (.tail _ (.tail _ (.tail _ (.tail _ (.tail _ (.tail _ (.tail _ (.head _))))))))))),.tail _ (.tail _ (.tail _ (.tail _ (.tail _ (.tail _ (.tail _ (.tail _ (.tail _ (.tail _ (.tail _ (.tail _ (.head _))))))))))))⟩ ⟨iod,τ6,.tail _ (.tail _ (.tail _ (.tail _ (.tail _ (.tail _ (.tail _ (.tail _ (.tail _ (.tail _ (.tail _ (.tail _ (.tail _ (.head _))))))))))))),.tail _ (.tail _ (.tail _ (.tail _ (.tail _ (.tail _ (.tail _ (.tail _ (.tail _ (.tail _ (.tail _ (.tail _ (.tail _ (.tail _ (.head _))))))))))))))⟩
theorem set_bad {A : Around} {lx0 nl l : List (Addr × Obj)} {D nI : Addr} {its : List Addr} {k : Int} {t : Tok} {Q : Unit → Shared → Prop} (F : Fr h₀ L hpS m) (N : News h₀ L hpS (lx0 ++ (D,LCg.lst (its.map Value.ref)) :: (nl ++ l))) (ho : ∀ p ∈ lx0,Off ((D,LCg.lst (its.map Value.ref)) :: (nl ++ l)) p.1) (hb : BadAt w lx0 nI) (hOD : Off (nl ++ l) D) (h0 : 0 ≤ k) (h1 : k < its.length) (h7 : its.length ≤ 7)
    (ret : ∀ lx0 h',BadAt w lx0 nI → (∀ p ∈ lx0,Off ((D,LCg.lst (its.map Value.ref)) :: (nl ++ l)) p.1) → Fr h₀ L h' m → News h₀ L h' (lx0 ++ (D,W.listOf ((its.map Value.ref).set k.toNat (.ref nI)).toArray (its.map Value.ref).length) :: (nl ++ l)) → Q () ⟨h',gnS,drS,tkS,osS⟩) :
    wpAny (model PySem.Challenge.rw_qd0115_01.row.prog w) A (setItem (.ref D) (.int k t) (.ref nI)) Q E ⟨hpS,gnS,drS,tkS,osS⟩ :=
  set_refs (vs:=its.map Value.ref) (n:=(its.map Value.ref).length) F N (upd_mid hOD (fun p hp=>Ne.symm (ho p hp _ (.head _)))) h0 (by rw [List.length_map];omega) (by omega) fun h' F' N'=>ret lx0 h' hb ho F' N'
theorem law_rest {σ σ2 : StA} {rip : Int} {l0 : List (Addr × Obj)} {M : Mach} {vs1 vs2 : List Value} {ep1 ep2 : Nat} {o1 o2 f1 f2 : Obj} {pa c : Addr} {oP oc : Obj} {Q : Flow → Shared → Prop}
  (B : Below A₀ h₀ [] h₀) (F : Fr h₀ L hpS (fun y=>if y = "other" then some (.ref σ2.x) else if y = "state" then some (.ref σ.x) else m y)) (X : (heapK w.params).In h₀) (N : News h₀ L hpS ((pa,oP) :: (c,oc) :: led σ vs1 ep1 o1 f1 (led σ2 vs2 ep2 o2 f2 l0))) (T : Top viewK loose mean mg mb h₀)
  (hd : dp + 40 < recursionLimit) (hu : un + 8 * 60 < cLine)
  (fx1 : Fixed w l0 σ rip) (fx2 : Fixed w l0 σ2 rip) (hap : Apart σ σ2) (H1 : MaAt w M vs1 o1 f1) (H2 : MaAt w M vs2 o2 f2) (hD : M.D.length ≤ 48) (hP : IsPen 20 oP) (hc : oc.data = .cell (some (.ref pa)))
  (hpl : ∀ p ∈ (c,oc) :: led σ vs1 ep1 o1 f1 (led σ2 vs2 ep2 o2 f2 l0),p.1 ≠ pa)
  (ret : ∀ m' news' h' tk',Fr h₀ L h' m' → News h₀ L h' news' → Q (.ret (.bool true)) ⟨h',gnS,drS,tk',osS⟩) :
  wpAny (model PySem.Challenge.rw_qd0115_01.row.prog w) (ktrTop dp un gd "law" sfS_103.1 L a ccd [("pen",c)] []) (execs (bfS_103.1.drop 4) (envX "law" sfS_103.1 L a ccd [("pen",c)])) Q (fun _ _=>False) ⟨hpS,gnS,drS,tkS,osS⟩:=by
  obtain ⟨l,hl,N2,hpl⟩ : ∃ l,l = led σ vs1 ep1 o1 f1 (led σ2 vs2 ep2 o2 f2 l0) ∧ News h₀ L hpS ((pa,oP) :: (c,oc) :: l) ∧ (∀ p ∈ (c,oc) :: l,p.1 ≠ pa):=⟨_,rfl,N,hpl⟩
  clear N
  dsimp only [bfS_103,sfS_103]
  simp only [List.drop_succ_cons,List.drop_zero]
  k_with "eval ListComp"=>((fail_if_success have:=off84);k_here;refine stopI ?_)
  k_with "CompSrc"=>((fail_if_success have:=off84);refine stopI ?_)
  k_steps
  delta Stop
  rename Fr _ _ _ _=>lF
  refine LCg.ListComp_U lF (by with_unfolding_all rfl) (by decide) (by rfl) (by decide) (by rfl) ?_ (by intro _;rfl)
  k_steps
  delta Stop
  rename Fr _ _ _ _=>lF2
  rename News _ _ _ _=>lN3
  rename IsRange _ _ _ _ _ _ _ _=>rgX
  rename IsPen _ _=>hpen
  rename (_ : Int) < 7=>hr7
  rename (0 : Int) ≤ _=>hr0
  refine LCg.CompSrc.range (by with_unfolding_all rfl) lF2 lN3 rgX (by exact small_one (by omega) (by omega) (by omega) (by omega)) (rangeSize_nat _ _) (by rw [sizeLine_eq];omega) ?_
  intro gq
  refine comp_ind (J:=fun i ys l'=>∃ nl its rws oP,l' = (pa,oP) :: (c,oc) :: (nl ++ l) ∧ IsPen (21 + 5 * i) oP ∧ ys = its.map Value.ref ∧ its.length = i ∧ RowsAt w l nl its rws ∧ (∀ p ∈ (c,oc) :: (nl ++ l),p.1 ≠ pa)) ⟨[],[],[],_,rfl,hpen,rfl,rfl,RowsAt.nil,hpl⟩ ?fin ?turn
  · intro ys l' w92
    refine sealG ?_
    intro G9 k9
    obtain ⟨nl,its,rws,oP,rfl,hP,rfl,hil,hRw,hpn⟩:=w92
    refine k9 ?_
    clear k9 G9
    clear lF2 lN3 hpl hpen
    unfold LCg.FinE
    intro D h tk F1 N1 o1
    have hDp : D ≠ pa:=Ne.symm o1.1
    have hil1 : 1 ≤ its.length:=by omega
    have hil7 : its.length ≤ 7:=by omega
    clear hil
    have hSM : StopMark:=trivial
    k_with "execs cons"=>((fail_if_success have:=off84);k_here;(with_reducible show wpAny _ _ (execs [_,_,_,_,_] _) _ _ _);(rename StopMark=>hSM);refine stopI ?_)
    k_with "call builtin:len"=>((fail_if_success have:=off84);k_here;(rename News _ _ _ _=>lN);refine len_refs (its:=its) lN (by k_mem) (by omega) ?_)
    k_steps
    delta Stop
    clear hSM
    rename (_ : Int) < (its.length : Int)=>hs1
    rename (_ : Int) < 4=>hb4
    have hbv:=four hb4 (by assumption)
    k_with "execs cons"=>((fail_if_success have:=off84);k_here;(with_reducible show wpAny _ _ (execs [_,_,_] _) _ _ _);refine stopI ?_)
    k_with "subscriptTail"=>((fail_if_success have:=off84);k_here;(with_reducible show wpAny _ _ (subscriptTail (PySem.Expr.List _ _) _ (Value.ref _) (Value.int _ _)) _ _ _);(rename News _ _ _ ((_,W.listOf _ _) :: _)=>lD);k_dflt (first | (refine item_s lD (by omega) (by simp only [List.length_cons,List.length_nil];omega) (by omega) (fun v h=>mem2s h) ?_ (by with_unfolding_all rfl);intro nI tI hnI lN) | (refine item_r lD (by omega) (by simp only [List.length_cons,List.length_nil];omega) (by omega) (fun v h=>mem3r h) ?_ (by with_unfolding_all rfl);intro nI hnI lN) | fail "item: no row");clear lD)
    k_with "setItem ref int ref"=>((fail_if_success have:=off84);k_here;refine stopI ?_)
    rename (0 : Int) ≤ _=>hs0
    have hOD : Off (nl ++ l) D:=off1_mem o1.2.2
    have hx6 : ∀ a ∈ [σ.regs,σ.held,σ.fd,σ2.regs,σ2.held,σ2.fd],∀ {x : Obj},Off ((D,x) :: nl) a:=fun a ha x=>six_off hl (fun p hp=>by
      rcases List.mem_cons.mp hp with rfl | hp
      · exact fun q hq=>hOD q (List.mem_append_right _ hq)
      · exact hRw.off p hp) a ha
    rcases hbv with rfl | rfl | rfl | rfl
    all_goals
      k_steps
      delta Stop
      rename Fr _ _ _ _=>lF
      rename News _ _ _ _=>lN
    iterate 2
      have lF:=fr_swap lF (by decide)
      refine law_tail (D:=D) (ep1:=ep1) (ep2:=ep2) (lx:=nl) (rws:=rws) (its:=its) (re:=(its.map Value.ref).length) B lF X (news_part lN fun q hq=>?_) T hd hu fx1 fx2 hap H1 H2 hD (fun a ha=>hx6 a ha) hil7 hRw.row (.inl ⟨by first | exact .inl rfl | exact .inr rfl,hRw.len.symm⟩) ret
      · rw [← hl] at hq
        rcases List.mem_cons.mp hq with rfl | hq
        · exact .tail _ (.head _)
        · exact .tail _ (.tail _ (.tail _ (.tail _ hq)))
    · refine' set_bad lF (news_part lN ?p1) ?p2 (bad1 hnI) hOD hs0 hs1 hil7 ?_
      case p1=>walk_at "pick_all"
      case p2=>walk_at "off_all"
      clear lF lN
      intro lx9 h3 hbad9 ho9 lF N3
      k_steps
      delta Stop
      have lF:=fr_swap lF (by decide)
      exact rest_swap (ep1:=ep1) (ep2:=ep2) (lx0:=lx9) B lF X N3 T hd hu fx1 fx2 hap H1 H2 hD hl hOD hRw hil7 hs0 hs1 ho9 hbad9 (.inl rfl) ret
    · refine' set_bad lF (news_part lN ?p1) ?p2 (bad2 hnI) hOD hs0 hs1 hil7 ?_
      case p1=>walk_at "pick_all2"
      case p2=>walk_at "off_all2"
      clear lF lN
      intro lx9 h3 hbad9 ho9 lF N3
      k_steps
      delta Stop
      have lF:=fr_swap lF (by decide)
      exact rest_swap (ep1:=ep1) (ep2:=ep2) (lx0:=lx9) B lF X N3 T hd hu fx1 fx2 hap H1 H2 hD hl hOD hRw hil7 hs0 hs1 ho9 hbad9 (.inr rfl) ret
  · intro i ys l' v I oI C oC D m₂ h tk E' hi w914 w915 hC hx F1 N1 off ne
    refine sealG ?_
    intro G9 k9
    obtain ⟨nl,its,rws,oP,rfl,hP,rfl,hil,hRw,hpn⟩:=w914
    obtain ⟨t,rfl⟩:=w915
    refine k9 ?_
    clear k9 G9
    clear lF2 lN3 hpl hpen
    k_with "call ref"=>((fail_if_success have:=off84);k_here;(with_reducible show wpAny _ _ (call (Value.ref 980) _) _ _ _);refine stopI ?_)
    k_steps
    delta Stop
    have hU:=upd4 (oI:=oI) (oC:=oC) (oD:=LCg.lst (its.map Value.ref)) off hpn
    k_dflt (refine' row_c (k:=21 + 5 * i) ?k1 ?k2 ?k3 ?k4 ?k5 ?kK ?kd ?ku hP ?kz hU ?_;(case k1=>k_asm);(case k2=>k_asm);(case k3=>k_asm);(case k4=>k_asm);(case k5=>k_asm);(case kK=>exact rfl);(case kz=>walk_at "om");(case kd=>ktr_room);(case ku=>ktr_units))
    intro ins nl2 o2 r h2 tk2 F2 N2 hp2 hr2 ho2
    obtain ⟨e1,e2,e3,e4⟩:=row_end off ho2 hpn
    exact LCg.CompEnd.intro F2 N2 _ e4 e1 trivial ⟨nl2 ++ nl,its ++ [ins],rws ++ [r],o2,rfl,hp2.le (by omega),by simp,by simp [hil],hRw.snoc hr2 e3,e2⟩
theorem off84 : True:=trivial
section
theorem room90 : 1 + claimMargin + 1 + 40 < recursionLimit:=by decide +kernel
theorem units90 : 4 + 3 + 8 * 60 < cLine:=by decide +kernel
theorem off_nil {a : Addr} : Off [] a:=fun _ h=>nomatch h
theorem apart9 {σ σ2 : StA} (h1 : σ.regs ≠ σ2.regs) (h2 : σ.regs ≠ σ2.held) (h3 : σ.regs ≠ σ2.fd) (h4 : σ.held ≠ σ2.regs) (h5 : σ.held ≠ σ2.held) (h6 : σ.held ≠ σ2.fd) (h7 : σ.fd ≠ σ2.regs) (h8 : σ.fd ≠ σ2.held) (h9 : σ.fd ≠ σ2.fd) : Apart σ σ2:=by
  unfold Apart
  simp only [List.forall_mem_cons]
  exact ⟨⟨h1,h2,h3,fun _ h=>nomatch h⟩,⟨h4,h5,h6,fun _ h=>nomatch h⟩,⟨h7,h8,h9,fun _ h=>nomatch h⟩,fun _ h=>nomatch h⟩
example : True:=by (k_with "offs"=>(repeat (first | exact off_nil | refine off_cons (by k_ne) ?_)));trivial
local macro_rules | `(tactic| k_qdec) => `(tactic| first | with_reducible exact namesK | with_reducible exact importsK)
theorem law_holds : PySem.Challenge.rw_qd0115_01.Holds:=by
  refine hdX.2 ?_
  dsimp only [hdX]
  k_go0
  have hSM : StopMark:=trivial
  k_with "execs cons"=>((fail_if_success have:=off90);k_here;(with_reducible show wpAny _ _ (execs [_,_,_,_,_,_,_] _) _ _ _);(rename StopMark=>hSM);refine stopI ?_)
  k_steps
  delta Stop
  rename World=>wo
  rename Fr _ _ _ _=>lF
  rename News _ _ _ _=>lN
  rename Below _ _ _ _=>lB
  rename Frag.In _ _=>lX
  rename Top _ _ _ _ _ _=>lT
  rename IntsAre vs' ns'=>hI
  rename IntsAre xs' z16=>hxs
  rename ns'.length = 16=>hlen
  rename IsFl wo of' f'=>hf1
  rename IsFl wo of2' f'=>hf2
  rename IsMem wo o2' D'=>hm2
  revert hm2
  rename IsMem wo _ D'=>hm1
  intro hm2
  rename OkD D'=>hok
  rename D'.length ≤ 48=>hD48
  rename IsSeg wo os'=>hs1
  rename IsSeg wo os2'=>hs2
  rename (σ'.held == sysModules) = false=>hsy1
  rename (σ2'.held == sysModules) = false=>hsy2
  rename Obj.data _ = Data.cell (some (Value.ref pa'))=>hcell
  rename IsPen _ _=>hpen
  clear hSM
  refine wpAny_mono (E:=fun _ _=>False) ?h (fun _ _ h=>h) (fun _ _ h=>h.elim)
  with_unfolding_all show wpAny _ (ktrTop _ _ _ "law" sfS_103.1 _ _ _ [("pen",_)] []) (execs (bfS_103.1.drop 4) (envX "law" sfS_103.1 _ _ _ [("pen",_)])) _ _ _
  set_option maxHeartbeats 2000000 in
  refine law_rest (σ:=σ') (σ2:=σ2') (rip:=rip') (ep1:=ep') (ep2:=ep2') (l0:=[(σ2'.seg,os2'),(σ2'.me,instObj 394 σ2'.md),(σ2'.md,dictOf [ent wo "held" th2' (.ref σ2'.held)] 1),(σ2'.fl,instObj 188 σ2'.fd),(σ2'.xmm,W.listOf xs'.toArray xep2'),(σ2'.x,instObj 511 σ2'.dx),(σ2'.dx,stDict wo ⟨τ2'.a,τ2'.b,τ2'.c,τ2'.d,τ2'.e,τ2'.f,τ2'.g,τ2'.h,tk',τ2'.j,τ2'.k,0⟩ σ2' rip' 0),(σ'.seg,os'),(σ'.me,instObj 394 σ'.md),(σ'.md,dictOf [ent wo "held" th' (.ref σ'.held)] 1),(σ'.fl,instObj 188 σ'.fd),(σ'.xmm,W.listOf xs'.toArray xep'),(σ'.x,instObj 511 σ'.dx),(σ'.dx,stDict wo ⟨τ'.a,τ'.b,τ'.c,τ'.d,τ'.e,τ'.f,τ'.g,τ'.h,t',τ'.j,τ'.k,0⟩ σ' rip' r')]) (M:=⟨ns',f',D'⟩) lB lF lX (news_part lN ?np) lT ?hd ?hu ?fx1 ?fx2 ?hap ⟨hI,hlen,hm1,hok,hf1⟩ ⟨hI,hlen,hm2,hok,hf2⟩ hD48 hpen hcell ?hpl ?ret
  case np=>walk_at "hs sub"
  case hpl=>walk_at "offs"
  case hap=>exact apart9 (by k_ne) (by k_ne) (by k_ne) (by k_ne) (by k_ne) (by k_ne) (by k_ne) (by k_ne) (by k_ne)
  case fx1=>exact ⟨by k_mem,⟨_,_,by k_mem⟩,by k_mem,by k_mem,⟨_,by k_mem⟩,⟨_,by k_mem,hs1⟩,⟨_,_,by k_mem,hxs⟩,hsy1,by walk_at "offs",by walk_at "offs",by walk_at "offs",by k_ne,by k_ne,by k_ne⟩
  case fx2=>exact ⟨by k_mem,⟨_,_,by k_mem⟩,by k_mem,by k_mem,⟨_,by k_mem⟩,⟨_,by k_mem,hs2⟩,⟨_,_,by k_mem,hxs⟩,hsy2,by walk_at "offs",by walk_at "offs",by walk_at "offs",by k_ne,by k_ne,by k_ne⟩
  case hd=>exact room90
  case hu=>exact units90
  intro m9 n9 h9 t9 F9 N9
  clear lF lN
  k_steps
end
theorem off90 : True:=trivial
end
end Mine
theorem PySem.Challenge.cw_qd0115_01_holds : PySem.Challenge.rw_qd0115_01.Holds :=
  Mine.law_holds
